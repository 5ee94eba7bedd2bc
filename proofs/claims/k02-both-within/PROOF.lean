import PyProof.Rows.All
import Wide.All
import OpenK.AllK
import Wide.FinOn
import HandS.ForMost
import HandS.Codes
import HandS.SortInts
import HandS.Gcd
import HandS.Style
import HandS.Flow
import HandS.IsInst
import HandS.DictComp
import HandS.FStr
import HandS.SlotsOwn
import HandS.Defaults
import HandS.MakeKw
import HandS.TupAny
import HandS.Records
import HandS.Wide
import HandS.ExcOwn
import HandS.ExcInit
import HandS.ExcField
import HandS.CallSlots
import HandS.SetFor
import HandS.Strs
import HandS.Walk
import HandS.NoneIn
import KE.KCallOwn
import HandS.Head0
import HandS.Head1
import HandS.Head2
import HandS.HeadEnd
import HandS.HeadHook1
import HandS.HeadHook2
import HandS.Conv
import HandS.RaiseMore
import HandS.Set
import PyProof.Rows.SortShellAny
import PyProof.InstNe
import HandS.MakeKwOnly
import HandS.Head3
import HandS.Base
import HandS.Call
import HandS.Ends
import HandS.More
import HandS.Words
import HandS.WordsExc
import PySem.Challenge.RW_ringsallow_k02_lengths_of_both_and_withi
set_option Elab.async false
set_option linter.all false
set_option maxRecDepth 100000
set_option maxHeartbeats 0
/-! DL1: Python values as data (D), mutable objects in a small store (M), over the hand layer. -/
namespace DL
open PySem PySem.Spec L2

/-- a value as data: what is frozen is written out; raw: any other value (a class, a def, a mutable object's address) -/
inductive D where
  | non | bl (b : Bool) | int (i : Int) | str (x : Str)
  | lst (xs : List D) | tup (xs : List D)
  | dct (kvs : List (Key × D))
  | dctT (kvs : List (List Key × D))
  | obj (C : Addr) (fs : List (Str × D))
  | raw (v : V)
  | own (P : Addr → HO → Prop)
  | klst (xs : List D)
  | xo (a C : Addr) (d : Option Addr)
  | xf (dx : Addr) (fs : List (Str × D))

/-- a dict while it is walked is the dict -/
def uf : HO → HO
  | .frz _ (.dK k) => .dK k
  | .frz _ (.dT k) => .dT k
  | o => o
theorem uf_of {o x : HO} (h : uf o = x) (h1 : ∀ k, x ≠ .dK k) (h2 : ∀ k, x ≠ .dT k) : o = x := by
  unfold uf at h
  split at h
  · exact absurd h.symm (h1 _)
  · exact absurd h.symm (h2 _)
  · exact h
/-- what is known stays known -/
def Le (G H : Hp) : Prop := ∀ a o, G a = some o → ∃ o', H a = some o' ∧ uf o' = uf o
theorem Le.refl (G : Hp) : Le G G := fun a o h => ⟨o, h, rfl⟩
theorem Le.trans {G H I : Hp} (a : Le G H) (b : Le H I) : Le G I := fun x o h => by
  obtain ⟨o1, h1, e1⟩ := a x o h
  obtain ⟨o2, h2, e2⟩ := b x o1 h1
  exact ⟨o2, h2, e2.trans e1⟩
theorem Le.at {G H : Hp} (e : Le G H) {a : Addr} {o : HO} (h : G a = some o) (hu : uf o = o := by rfl) (h1 : ∀ k, o ≠ .dK k := by intro k q; cases q) (h2 : ∀ k, o ≠ .dT k := by intro k q; cases q) : H a = some o := by
  obtain ⟨o', h', e'⟩ := e a o h
  rw [hu] at e'
  rw [h', uf_of e' h1 h2]
/-- a dict, walked or not -/
def DcK (G : Hp) (a : Addr) (u : HO) : Prop := ∃ o, G a = some o ∧ uf o = u
theorem DcK.mono {G H : Hp} {a : Addr} {u : HO} (e : Le G H) (h : DcK G a u) : DcK H a u := by
  obtain ⟨o, h1, h2⟩ := h
  obtain ⟨o', h3, h4⟩ := e a o h1
  exact ⟨o', h3, h4.trans h2⟩
/-- no dict -/
def Nd (o : HO) : Prop := uf o = o ∧ (∀ k, o ≠ .dK k) ∧ ∀ k, o ≠ .dT k
mutual
/-- v is the data d, as far as the frozen heap G knows -/
def Rp (K : PySem.W.Frag) (G : Hp) : D → V → Prop
  | .non, v => v = .non
  | .bl b, v => v = .bl b
  | .int i, v => v = .int i
  | .str x, v => v = .str x
  | .raw w, v => v = w
  | .own P, v => ∃ a o, v = .ref a ∧ G a = some o ∧ Nd o ∧ P a o
  | .klst ds, v => ∃ a vs, v = .ref a ∧ SqL K G a vs ∧ RpL K G ds vs
  | .xo _ _ _, _ => False
  | .xf _ _, _ => False
  | .lst ds, v => ∃ a vs, v = .ref a ∧ G a = some (.lst vs) ∧ RpL K G ds vs
  | .tup ds, v => ∃ a vs, v = .ref a ∧ SqT K G a vs ∧ RpL K G ds vs
  | .dct kvs, v => ∃ a ws, v = .ref a ∧ DcK G a (.dK ws) ∧ RpK K G kvs ws
  | .dctT kvs, v => ∃ a ws, v = .ref a ∧ DcK G a (.dT ws) ∧ RpT K G kvs ws
  | .obj C fs, v => ∃ a dx ws, v = .ref a ∧ G a = some (.ins C dx ws) ∧ RpF K G fs ws
def RpL (K : PySem.W.Frag) (G : Hp) : List D → List V → Prop
  | [], vs => vs = []
  | d :: ds, vs => ∃ v r, vs = v :: r ∧ Rp K G d v ∧ RpL K G ds r
def RpK (K : PySem.W.Frag) (G : Hp) : List (Key × D) → List (Key × V) → Prop
  | [], vs => vs = []
  | (k, d) :: ds, vs => ∃ v r, vs = (k, v) :: r ∧ Rp K G d v ∧ RpK K G ds r
def RpT (K : PySem.W.Frag) (G : Hp) : List (List Key × D) → List (List Key × V) → Prop
  | [], vs => vs = []
  | (k, d) :: ds, vs => ∃ v r, vs = (k, v) :: r ∧ Rp K G d v ∧ RpT K G ds r
def RpF (K : PySem.W.Frag) (G : Hp) : List (Str × D) → List (Str × V) → Prop
  | [], vs => vs = []
  | (k, d) :: ds, vs => ∃ v r, vs = (k, v) :: r ∧ Rp K G d v ∧ RpF K G ds r
end

theorem frz_tup {o : Obj} {xs : List V} : uf (.frz o (.tup xs)) = .frz o (.tup xs) := rfl
theorem sqt_mono {K : PySem.W.Frag} {G G' : Hp} {a : Addr} {xs : List V} (e : Le G G') (h : SqT K G a xs) : SqT K G' a xs := by
  rcases h with (h | ⟨o, h⟩) | h
  · exact .inl (.inl (e.at h))
  · exact .inl (.inr ⟨o, e.at h⟩)
  · exact .inr h
theorem sql_mono {K : PySem.W.Frag} {G G' : Hp} {a : Addr} {xs : List V} (e : Le G G') (h : SqL K G a xs) : SqL K G' a xs := by
  rcases h with (h | ⟨o, h⟩) | h
  · exact .inl (.inl (e.at h))
  · exact .inl (.inr ⟨o, e.at h⟩)
  · exact .inr h
mutual
theorem Rp.mono {K : PySem.W.Frag} {G G' : Hp} (e : Le G G') : ∀ {d : D} {v : V}, Rp K G d v → Rp K G' d v
  | .non, _, h => h
  | .bl _, _, h => h
  | .int _, _, h => h
  | .str _, _, h => h
  | .raw _, _, h => h
  | .own P, _, h => by
    obtain ⟨a, o, rfl, h1, h2, h3⟩ := (by simpa only [Rp] using h : ∃ a o, _ = V.ref a ∧ G a = some o ∧ Nd o ∧ P a o)
    simp only [Rp]
    exact ⟨a, o, rfl, e.at h1 h2.1 h2.2.1 h2.2.2, h2, h3⟩
  | .xo _ _ _, _, h => (by simpa only [Rp] using h : False).elim
  | .xf _ _, _, h => (by simpa only [Rp] using h : False).elim
  | .klst ds, _, h => by
    obtain ⟨a, vs, rfl, h1, h2⟩ := (by simpa only [Rp] using h : ∃ a vs, _ = V.ref a ∧ SqL K G a vs ∧ RpL K G ds vs)
    simp only [Rp]
    exact ⟨a, vs, rfl, sql_mono e h1, RpL.mono e h2⟩
  | .lst ds, _, h => by
    obtain ⟨a, vs, rfl, h1, h2⟩ := (by simpa only [Rp] using h : ∃ a vs, _ = V.ref a ∧ G a = some (.lst vs) ∧ RpL K G ds vs)
    simp only [Rp]
    exact ⟨a, vs, rfl, e.at h1, RpL.mono e h2⟩
  | .tup ds, _, h => by
    obtain ⟨a, vs, rfl, h1, h2⟩ := (by simpa only [Rp] using h : ∃ a vs, _ = V.ref a ∧ SqT K G a vs ∧ RpL K G ds vs)
    simp only [Rp]
    exact ⟨a, vs, rfl, sqt_mono e h1, RpL.mono e h2⟩
  | .dct kvs, _, h => by
    obtain ⟨a, vs, rfl, h1, h2⟩ := (by simpa only [Rp] using h : ∃ a ws, _ = V.ref a ∧ DcK G a (.dK ws) ∧ RpK K G kvs ws)
    simp only [Rp]
    exact ⟨a, vs, rfl, h1.mono e, RpK.mono e h2⟩
  | .dctT kvs, _, h => by
    obtain ⟨a, vs, rfl, h1, h2⟩ := (by simpa only [Rp] using h : ∃ a ws, _ = V.ref a ∧ DcK G a (.dT ws) ∧ RpT K G kvs ws)
    simp only [Rp]
    exact ⟨a, vs, rfl, h1.mono e, RpT.mono e h2⟩
  | .obj C fs, _, h => by
    obtain ⟨a, dx, ws, rfl, h1, h2⟩ := (by simpa only [Rp] using h : ∃ a dx ws, _ = V.ref a ∧ G a = some (.ins C dx ws) ∧ RpF K G fs ws)
    simp only [Rp]
    exact ⟨a, dx, ws, rfl, e.at h1, RpF.mono e h2⟩
theorem RpL.mono {K : PySem.W.Frag} {G G' : Hp} (e : Le G G') : ∀ {ds : List D} {vs : List V}, RpL K G ds vs → RpL K G' ds vs
  | [], _, h => h
  | d :: ds, _, h => by
    obtain ⟨v, r, rfl, h1, h2⟩ := (by simpa only [RpL] using h : ∃ v r, _ = v :: r ∧ Rp K G d v ∧ RpL K G ds r)
    simp only [RpL]
    exact ⟨v, r, rfl, Rp.mono e h1, RpL.mono e h2⟩
theorem RpK.mono {K : PySem.W.Frag} {G G' : Hp} (e : Le G G') : ∀ {ds : List (Key × D)} {vs : List (Key × V)}, RpK K G ds vs → RpK K G' ds vs
  | [], _, h => h
  | (k, d) :: ds, _, h => by
    obtain ⟨v, r, rfl, h1, h2⟩ := (by simpa only [RpK] using h : ∃ v r, _ = (k, v) :: r ∧ Rp K G d v ∧ RpK K G ds r)
    simp only [RpK]
    exact ⟨v, r, rfl, Rp.mono e h1, RpK.mono e h2⟩
theorem RpT.mono {K : PySem.W.Frag} {G G' : Hp} (e : Le G G') : ∀ {ds : List (List Key × D)} {vs : List (List Key × V)}, RpT K G ds vs → RpT K G' ds vs
  | [], _, h => h
  | (k, d) :: ds, _, h => by
    obtain ⟨v, r, rfl, h1, h2⟩ := (by simpa only [RpT] using h : ∃ v r, _ = (k, v) :: r ∧ Rp K G d v ∧ RpT K G ds r)
    simp only [RpT]
    exact ⟨v, r, rfl, Rp.mono e h1, RpT.mono e h2⟩
theorem RpF.mono {K : PySem.W.Frag} {G G' : Hp} (e : Le G G') : ∀ {ds : List (Str × D)} {vs : List (Str × V)}, RpF K G ds vs → RpF K G' ds vs
  | [], _, h => h
  | (k, d) :: ds, _, h => by
    obtain ⟨v, r, rfl, h1, h2⟩ := (by simpa only [RpF] using h : ∃ v r, _ = (k, v) :: r ∧ Rp K G d v ∧ RpF K G ds r)
    simp only [RpF]
    exact ⟨v, r, rfl, Rp.mono e h1, RpF.mono e h2⟩
end
end DL

namespace DL
open PySem PySem.Spec L2

/-! ### the state -/
def RpO (K : PySem.W.Frag) (G : Hp) : Option D → Option V → Prop
  | none, _ => True
  | some d, some v => Rp K G d v
  | some _, none => False
def EnvR (K : PySem.W.Frag) (G : Hp) : List (Option D) → St → Prop
  | [], σ => σ = []
  | d :: ds, σ => ∃ s r, σ = s :: r ∧ RpO K G d s ∧ EnvR K G ds r
theorem RpO.mono {K : PySem.W.Frag} {G G' : Hp} (e : Le G G') : ∀ {d : Option D} {s : Option V}, RpO K G d s → RpO K G' d s
  | none, _, _ => trivial
  | some _, some _, h => Rp.mono e h
  | some _, none, h => h
theorem EnvR.mono {K : PySem.W.Frag} {G G' : Hp} (e : Le G G') : ∀ {ds : List (Option D)} {σ : St}, EnvR K G ds σ → EnvR K G' ds σ
  | [], _, h => h
  | _ :: _, _, ⟨s, r, h1, h2, h3⟩ => ⟨s, r, h1, RpO.mono e h2, EnvR.mono e h3⟩
theorem EnvR.get {K : PySem.W.Frag} {G : Hp} : ∀ {ds : List (Option D)} {σ : St} {i : Nat} {d : D}, EnvR K G ds σ → ds[i]? = some (some d) → ∃ v, σ[i]? = some (some v) ∧ Rp K G d v
  | [], _, _, _, _, h => by simp at h
  | o :: ds, _, 0, d, ⟨s, r, rfl, h2, _⟩, h => by
    simp at h
    subst h
    cases s with
    | none => exact h2.elim
    | some v => exact ⟨v, rfl, h2⟩
  | _ :: ds, _, i + 1, d, ⟨s, r, rfl, _, h3⟩, h => by
    obtain ⟨v, h4, h5⟩ := EnvR.get (i := i) h3 (by simpa using h)
    exact ⟨v, by simpa using h4, h5⟩
theorem EnvR.set {K : PySem.W.Frag} {G : Hp} {d : D} {v : V} (r : Rp K G d v) : ∀ {ds : List (Option D)} {σ : St} (i : Nat), EnvR K G ds σ → EnvR K G (ds.set i (some d)) (σ.set i (some v))
  | [], _, _, h => by
    have h : _ = [] := h
    subst h
    rfl
  | o :: ds, _, 0, ⟨s, q, rfl, _, h3⟩ => ⟨some v, q, rfl, r, h3⟩
  | o :: ds, _, i + 1, ⟨s, q, rfl, h2, h3⟩ => ⟨s, _, rfl, h2, EnvR.set r i h3⟩
theorem EnvR.start {K : PySem.W.Frag} {G : Hp} {n : Nat} : ∀ {ds : List D} {vs : List V}, RpL K G ds vs → EnvR K G (ds.map some ++ List.replicate n none) (vs.map some ++ List.replicate n none)
  | [], vs, h => by
    have h : vs = [] := by simpa only [RpL] using h
    subst h
    show EnvR K G (List.replicate n none) (List.replicate n none)
    induction n with
    | zero => rfl
    | succ n ih => exact ⟨none, _, rfl, trivial, ih⟩
  | d :: ds, vs, h => by
    obtain ⟨v, r, rfl, h1, h2⟩ := (by simpa only [RpL] using h : ∃ v r, vs = v :: r ∧ Rp K G d v ∧ RpL K G ds r)
    exact ⟨some v, _, rfl, h1, EnvR.start h2⟩
theorem RpL.length {K : PySem.W.Frag} {G : Hp} : ∀ {ds : List D} {vs : List V}, RpL K G ds vs → vs.length = ds.length
  | [], vs, h => by
    have h : vs = [] := by simpa only [RpL] using h
    subst h
    rfl
  | d :: ds, vs, h => by
    obtain ⟨v, r, rfl, _, h2⟩ := (by simpa only [RpL] using h : ∃ v r, vs = v :: r ∧ Rp K G d v ∧ RpL K G ds r)
    simp [RpL.length h2]
theorem RpL.nil {K : PySem.W.Frag} {G : Hp} : RpL K G [] [] := by simp only [RpL]
theorem RpL.cons {K : PySem.W.Frag} {G : Hp} {d : D} {v : V} {ds : List D} {vs : List V} (h : Rp K G d v) (t : RpL K G ds vs) : RpL K G (d :: ds) (v :: vs) := by
  simp only [RpL]; exact ⟨v, vs, rfl, h, t⟩
theorem RpL.cons_inv {K : PySem.W.Frag} {G : Hp} {d : D} {ds : List D} {vs : List V} (h : RpL K G (d :: ds) vs) : ∃ v r, vs = v :: r ∧ Rp K G d v ∧ RpL K G ds r := by simpa only [RpL] using h
theorem RpL.nil_inv {K : PySem.W.Frag} {G : Hp} {vs : List V} (h : RpL K G [] vs) : vs = [] := by simpa only [RpL] using h
theorem RpL.append {K : PySem.W.Frag} {G : Hp} : ∀ {xs : List D} {vs : List V} {ys : List D} {ws : List V}, RpL K G xs vs → RpL K G ys ws → RpL K G (xs ++ ys) (vs ++ ws)
  | [], _, _, _, h, h2 => by
    have e := h.nil_inv
    subst e
    exact h2
  | _ :: _, _, _, _, h, h2 => by
    obtain ⟨v, r, rfl, h1, h3⟩ := h.cons_inv
    exact RpL.cons h1 (RpL.append h3 h2)
theorem RpL.get {K : PySem.W.Frag} {G : Hp} : ∀ {xs : List D} {vs : List V} {i : Nat} {d : D}, RpL K G xs vs → xs[i]? = some d → ∃ v, vs[i]? = some v ∧ Rp K G d v
  | [], _, _, _, _, h => by simp at h
  | x :: xs, _, 0, d, h, e => by
    obtain ⟨v, r, rfl, h1, h3⟩ := h.cons_inv
    simp at e
    subst e
    exact ⟨v, rfl, h1⟩
  | x :: xs, _, i + 1, d, h, e => by
    obtain ⟨v, r, rfl, h1, h3⟩ := h.cons_inv
    obtain ⟨w, h4, h5⟩ := RpL.get (i := i) h3 (by simpa using e)
    exact ⟨w, by simpa using h4, h5⟩
theorem RpL.getV {K : PySem.W.Frag} {G : Hp} : ∀ {xs : List D} {vs : List V} {i : Nat} {v : V}, RpL K G xs vs → vs[i]? = some v → ∃ d, xs[i]? = some d ∧ Rp K G d v
  | [], _, _, _, h, e => by
    have h := h.nil_inv
    subst h
    simp at e
  | x :: xs, _, 0, v, h, e => by
    obtain ⟨w, r, rfl, h1, h3⟩ := h.cons_inv
    simp at e
    subst e
    exact ⟨x, rfl, h1⟩
  | x :: xs, _, i + 1, v, h, e => by
    obtain ⟨w, r, rfl, h1, h3⟩ := h.cons_inv
    obtain ⟨d, h4, h5⟩ := RpL.getV (i := i) h3 (by simpa using e)
    exact ⟨d, by simpa using h4, h5⟩
theorem RpL.take {K : PySem.W.Frag} {G : Hp} : ∀ {xs : List D} {vs : List V} (n : Nat), RpL K G xs vs → RpL K G (xs.take n) (vs.take n)
  | [], _, n, h => by
    have h := h.nil_inv
    subst h
    simpa using RpL.nil
  | x :: xs, _, 0, h => by simpa using RpL.nil
  | x :: xs, _, n + 1, h => by
    obtain ⟨v, r, rfl, h1, h3⟩ := h.cons_inv
    exact RpL.cons h1 (RpL.take n h3)
theorem RpL.drop {K : PySem.W.Frag} {G : Hp} : ∀ {xs : List D} {vs : List V} (n : Nat), RpL K G xs vs → RpL K G (xs.drop n) (vs.drop n)
  | [], _, n, h => by
    have h := h.nil_inv
    subst h
    simpa using RpL.nil
  | x :: xs, _, 0, h => h
  | x :: xs, _, n + 1, h => by
    obtain ⟨v, r, rfl, h1, h3⟩ := h.cons_inv
    exact RpL.drop n h3
theorem RpL.eraseIdx {K : PySem.W.Frag} {G : Hp} : ∀ {xs : List D} {vs : List V} (n : Nat), RpL K G xs vs → RpL K G (xs.eraseIdx n) (vs.eraseIdx n)
  | [], _, n, h => by
    have h := h.nil_inv
    subst h
    simpa using RpL.nil
  | x :: xs, _, 0, h => by
    obtain ⟨v, r, rfl, h1, h3⟩ := h.cons_inv
    exact h3
  | x :: xs, _, n + 1, h => by
    obtain ⟨v, r, rfl, h1, h3⟩ := h.cons_inv
    exact RpL.cons h1 (RpL.eraseIdx n h3)
theorem RpL.set {K : PySem.W.Frag} {G : Hp} {d : D} {w : V} (q : Rp K G d w) : ∀ {xs : List D} {vs : List V} (n : Nat), RpL K G xs vs → RpL K G (xs.set n d) (vs.set n w)
  | [], _, n, h => by
    have h := h.nil_inv
    subst h
    simpa using RpL.nil
  | x :: xs, _, 0, h => by
    obtain ⟨v, r, rfl, h1, h3⟩ := h.cons_inv
    exact RpL.cons q h3
  | x :: xs, _, n + 1, h => by
    obtain ⟨v, r, rfl, h1, h3⟩ := h.cons_inv
    exact RpL.cons h1 (RpL.set q n h3)
theorem RpL.dropLast {K : PySem.W.Frag} {G : Hp} : ∀ {xs : List D} {vs : List V}, RpL K G xs vs → RpL K G xs.dropLast vs.dropLast
  | [], _, h => by
    have h := h.nil_inv
    subst h
    exact RpL.nil
  | [x], _, h => by
    obtain ⟨v, r, rfl, h1, h3⟩ := h.cons_inv
    have h3 := h3.nil_inv
    subst h3
    exact RpL.nil
  | x :: y :: xs, _, h => by
    obtain ⟨v, r, rfl, h1, h3⟩ := h.cons_inv
    have h4 := h3
    obtain ⟨w, r', rfl, _, _⟩ := h3.cons_inv
    exact RpL.cons h1 (RpL.dropLast h4)
theorem RpL.isEmpty {K : PySem.W.Frag} {G : Hp} {xs : List D} {vs : List V} (h : RpL K G xs vs) : vs.isEmpty = xs.isEmpty := by
  have := h.length
  cases xs <;> cases vs <;> simp_all

/-- the contents of the mutable objects -/
abbrev Mst := Addr → Option D
def updM (M : Mst) (a : Addr) (d : D) : Mst := fun b => if b = a then some d else M b
def delM (M : Mst) (a : Addr) : Mst := fun b => if b = a then none else M b
theorem updM_same {M : Mst} {a : Addr} {d : D} : updM M a d a = some d := if_pos rfl
theorem updM_ne {M : Mst} {a b : Addr} {d : D} (h : b ≠ a) : updM M a d b = M b := if_neg h
theorem delM_same {M : Mst} {a : Addr} : delM M a a = none := if_pos rfl
theorem delM_ne {M : Mst} {a b : Addr} (h : b ≠ a) : delM M a b = M b := if_neg h
theorem updM_updM {M : Mst} {a : Addr} {d e : D} : updM (updM M a d) a e = updM M a e := by
  funext b; unfold updM; by_cases h : b = a <;> simp [h]
theorem updM_comm {M : Mst} {a b : Addr} {d e : D} (h : a ≠ b) : updM (updM M a d) b e = updM (updM M b e) a d := by
  funext c; unfold updM
  by_cases h1 : c = a
  · by_cases h2 : c = b
    · exact absurd (h1.symm.trans h2) h
    · subst h1; simp [h2]
  · by_cases h2 : c = b
    · simp [h2, Ne.symm h]
    · simp [h1, h2]
theorem delM_updM {M : Mst} {a : Addr} {d : D} : delM (updM M a d) a = delM M a := by
  funext b; unfold updM delM; by_cases h : b = a <;> simp [h]
theorem delM_none {M : Mst} {a : Addr} (h : M a = none) : delM M a = M := by
  funext b; unfold delM; split
  · rename_i e; rw [e, h]
  · rfl
theorem delM_comm {M : Mst} {a b : Addr} {d : D} (h : a ≠ b) : delM (updM M a d) b = updM (delM M b) a d := by
  funext c; unfold updM delM
  by_cases h1 : c = a
  · subst h1; simp [h]
  · by_cases h2 : c = b <;> simp [h1, h2, Ne.symm h]
theorem updM_self {M : Mst} {a : Addr} {d : D} (h : M a = some d) : updM M a d = M := by
  funext b; unfold updM; split
  · rename_i e; rw [e, h]
  · rfl

def MRp (K : PySem.W.Frag) (G : Hp) : D → Option HO → Prop
  | .lst ds, o => ∃ vs, o = some (.lst vs) ∧ RpL K G ds vs
  | .dct kvs, o => ∃ ws, o = some (.dK ws) ∧ RpK K G kvs ws
  | .dctT kvs, o => ∃ ws, o = some (.dT ws) ∧ RpT K G kvs ws
  | .obj C fs, o => ∃ dx ws, o = some (.ins C dx ws) ∧ RpF K G fs ws
  | .xo a C d, o => o = some (exo a C d)
  | .xf dx fs, o => ∃ ws, o = some (exd dx ws) ∧ RpF K G fs ws
  | _, _ => False
theorem MRp.mono {K : PySem.W.Frag} {G G' : Hp} (e : Le G G') : ∀ {d : D} {o : Option HO}, MRp K G d o → MRp K G' d o
  | .lst _, _, ⟨vs, h, h2⟩ => ⟨vs, h, RpL.mono e h2⟩
  | .dct _, _, ⟨vs, h, h2⟩ => ⟨vs, h, RpK.mono e h2⟩
  | .dctT _, _, ⟨vs, h, h2⟩ => ⟨vs, h, RpT.mono e h2⟩
  | .obj _ _, _, ⟨dx, vs, h, h2⟩ => ⟨dx, vs, h, RpF.mono e h2⟩
  | .xo _ _ _, _, h => h
  | .xf _ _, _, ⟨vs, h, h2⟩ => ⟨vs, h, RpF.mono e h2⟩
  | .non, _, h => h.elim
  | .bl _, _, h => h.elim
  | .int _, _, h => h.elim
  | .str _, _, h => h.elim
  | .tup _, _, h => h.elim
  | .raw _, _, h => h.elim
  | .own _, _, h => h.elim
  | .klst _, _, h => h.elim
theorem MRp.some {K : PySem.W.Frag} {G : Hp} : ∀ {d : D} {o : Option HO}, MRp K G d o → ∃ u, o = some u
  | .lst _, _, ⟨vs, h, h2⟩ => ⟨_, h⟩
  | .dct _, _, ⟨vs, h, h2⟩ => ⟨_, h⟩
  | .dctT _, _, ⟨vs, h, h2⟩ => ⟨_, h⟩
  | .obj _ _, _, ⟨dx, vs, h, h2⟩ => ⟨_, h⟩
  | .xo _ _ _, _, h => ⟨_, h⟩
  | .xf _ _, _, ⟨vs, h, h2⟩ => ⟨_, h⟩
  | .non, _, h => h.elim
  | .bl _, _, h => h.elim
  | .int _, _, h => h.elim
  | .str _, _, h => h.elim
  | .tup _, _, h => h.elim
  | .raw _, _, h => h.elim
  | .own _, _, h => h.elim
  | .klst _, _, h => h.elim

/-- kept as the heap grows -/
def Mono1 (F : Hp → Prop) : Prop := ∀ G G', Le G G' → F G → F G'
/-- .. and it tells what a raise needs -/
structure MonoF (Pm F : Hp → Prop) : Prop where
  m : Mono1 F
  p : ∀ G, F G → Pm G
abbrev PmT : Hp → Prop := fun _ => True
theorem Mono1.to {F : Hp → Prop} (m : Mono1 F) : MonoF PmT F := ⟨m, fun _ _ => trivial⟩
theorem MonoF.and {Pm F F' : Hp → Prop} (a : Mono1 F) (b : MonoF Pm F') : MonoF Pm (fun G => F G ∧ F' G) := ⟨fun _ _ e h => ⟨a _ _ e h.1, b.m _ _ e h.2⟩, fun _ h => b.p _ h.2⟩
theorem Mono1.and {Pm F F' : Hp → Prop} (a : Mono1 F) (b : MonoF Pm F') : MonoF Pm (fun G => F G ∧ F' G) := MonoF.and a b
theorem Mono1.and1 {F F' : Hp → Prop} (a : Mono1 F) (b : Mono1 F') : Mono1 (fun G => F G ∧ F' G) := fun _ _ e h => ⟨a _ _ e h.1, b _ _ e h.2⟩
theorem mono_rp {K : PySem.W.Frag} {d : D} {v : V} : Mono1 (fun G => Rp K G d v) := fun _ _ e h => Rp.mono e h
theorem mono_rpl {K : PySem.W.Frag} {d : List D} {v : List V} : Mono1 (fun G => RpL K G d v) := fun _ _ e h => RpL.mono e h
theorem mono_env {K : PySem.W.Frag} {ds : List (Option D)} {σ : St} : Mono1 (fun G => EnvR K G ds σ) := fun _ _ e h => EnvR.mono e h
theorem mono_true : Mono1 (fun _ => True) := fun _ _ _ h => h

/-- the state: a frozen part G below H, the mutable objects beside it, F of the frozen part -/
def Ok (K : PySem.W.Frag) (M : Mst) (F : Hp → Prop) (H : Hp) : Prop := ∃ G, Le G H ∧ (∀ a o, M a = some o → G a = none ∧ MRp K G o (H a)) ∧ F G
section
variable {K : PySem.W.Frag} {M : Mst} {F F' : Hp → Prop} {H : Hp}
theorem Ok.imp (h : Ok K M F H) (f : ∀ G, Le G H → F G → F' G) : Ok K M F' H := let ⟨G, a, b, c⟩ := h; ⟨G, a, b, f G a c⟩
/-- facts of H that hold at every frozen part -/
theorem Ok.use {P : Prop} (h : Ok K M F H) (f : ∀ G, Le G H → F G → P) : P := let ⟨G, a, _, c⟩ := h; f G a c
theorem Ok.free {a : Addr} (h : Ok K M F H) (e : H a = none) : M a = none := by
  obtain ⟨G, h1, h2, h3⟩ := h
  cases q : M a with
  | none => rfl
  | some o =>
    obtain ⟨u, hu⟩ := (h2 a o q).2.some
    rw [e] at hu
    cases hu
theorem Le.upd_none {G H : Hp} {p : Addr} {o : HO} (h : Le G H) (hp : G p = none) : Le G (upd H p o) := fun b u e => by
  have hb : b ≠ p := fun z => by
    rw [z, hp] at e
    cases e
  rw [upd_ne hb]
  exact h b u e
theorem Le.none {G H : Hp} {p : Addr} (h : Le G H) (hp : H p = none) : G p = none := by
  cases q : G p with
  | none => rfl
  | some u =>
    obtain ⟨o, e, _⟩ := h p u q
    rw [hp] at e
    cases e
theorem Le.both {G H : Hp} {p : Addr} {o : HO} (h : Le G H) : Le (upd G p o) (upd H p o) := fun b u e => by
  by_cases hb : b = p
  · subst hb
    rw [upd_same] at e ⊢
    exact ⟨_, rfl, by cases e; rfl⟩
  · rw [upd_ne hb] at e ⊢
    exact h b u e
/-- a new frozen object -/
theorem Ok.new {Pm : Hp → Prop} {p : Addr} {o : HO} (h : Ok K M F H) (mF : MonoF Pm F) (hp : H p = none) : Ok K M (fun G => G p = some o ∧ F G) (upd H p o) := by
  obtain ⟨G, h1, h2, h3⟩ := h
  have sG : Le G (upd G p o) := (Le.refl G).upd_none (h1.none hp)
  refine ⟨upd G p o, h1.both, fun a d e => ?_, upd_same, mF.m _ _ sG h3⟩
  obtain ⟨g1, g2⟩ := h2 a d e
  obtain ⟨u, hu⟩ := g2.some
  have ha : a ≠ p := fun z => by
    rw [z, hp] at hu
    cases hu
  rw [upd_ne ha, upd_ne ha]
  exact ⟨g1, g2.mono sG⟩
/-- a new mutable object -/
theorem Ok.newM {p : Addr} {o : HO} {d : D} (h : Ok K M F H) (hp : H p = none) (hd : ∀ G, Le G H → F G → MRp K G d (some o)) : Ok K (updM M p d) F (upd H p o) := by
  obtain ⟨G, h1, h2, h3⟩ := h
  have hGp : G p = none := h1.none hp
  refine ⟨G, h1.upd_none hGp, fun a d' e => ?_, h3⟩
  by_cases ha : a = p
  · subst ha
    rw [updM_same] at e
    cases e
    rw [upd_same]
    exact ⟨hGp, hd G h1 h3⟩
  · rw [updM_ne ha] at e
    rw [upd_ne ha]
    exact h2 a d' e
/-- a mutable object changes -/
theorem Ok.setM {p : Addr} {o : HO} {d old : D} (h : Ok K M F H) (hp : M p = some old) (hd : ∀ G, Le G H → F G → MRp K G old (H p) → MRp K G d (some o)) : Ok K (updM M p d) F (upd H p o) := by
  obtain ⟨G, h1, h2, h3⟩ := h
  obtain ⟨hGp, hold⟩ := h2 p old hp
  refine ⟨G, h1.upd_none hGp, fun a d' e => ?_, h3⟩
  by_cases ha : a = p
  · subst ha
    rw [updM_same] at e
    cases e
    rw [upd_same]
    exact ⟨hGp, hd G h1 h3 hold⟩
  · rw [updM_ne ha] at e
    rw [upd_ne ha]
    exact h2 a d' e
theorem Ok.getM {p : Addr} {d : D} (h : Ok K M F H) (hp : M p = some d) : Ok K M (fun G => MRp K G d (H p) ∧ F G) H := by
  obtain ⟨G, h1, h2, h3⟩ := h
  exact ⟨G, h1, h2, (h2 p d hp).2, h3⟩
/-- a mutable object is frozen: nobody changes it any more -/
theorem Ok.freeze {Pm : Hp → Prop} {p : Addr} {d : D} {o : HO} (h : Ok K M F H) (mF : MonoF Pm F) (hp : M p = some d) (ho : H p = some o) : Ok K (delM M p) (fun G => G p = some o ∧ MRp K G d (some o) ∧ F G) H := by
  obtain ⟨G, h1, h2, h3⟩ := h
  obtain ⟨hGp, hold⟩ := h2 p d hp
  have sG : Le G (upd G p o) := (Le.refl G).upd_none hGp
  refine ⟨upd G p o, fun b u e => ?_, fun a d' e => ?_, upd_same, (ho ▸ hold).mono sG, mF.m _ _ sG h3⟩
  · by_cases hb : b = p
    · subst hb
      rw [upd_same] at e
      cases e
      exact ⟨_, ho, rfl⟩
    · rw [upd_ne hb] at e
      exact h1 b u e
  · by_cases ha : a = p
    · subst ha
      rw [delM_same] at e
      cases e
    · rw [delM_ne ha] at e
      obtain ⟨g1, g2⟩ := h2 a d' e
      rw [upd_ne ha]
      exact ⟨g1, g2.mono sG⟩
end

/-! ### weakest readings -/
abbrev wE (X : Cx) (e : Expr) : TE := fun σ H Q => ∀ pins s, Inv X pins σ H s → wpAny (model X.prog X.w) X.A (eval e X.env) (EP X pins σ Q) X.xe s
abbrev wT (X : Cx) (e : Expr) : TT := fun σ H Q => ∀ pins s, Inv X pins σ H s → wpAny (model X.prog X.w) X.A (isTrue e X.env (eval e X.env)) (TP X pins σ Q) X.xe s
abbrev wW (X : Cx) (e : Expr) : TT := fun σ H Q => ∀ whole pins s, Inv X pins σ H s → wpAny (model X.prog X.w) X.A (isTrue e X.env whole) (TP X pins σ Q) X.xe s
abbrev wA (X : Cx) (es : List Expr) : TA := fun σ H Q => ∀ pos pins s, Inv X pins σ H s → wpAny (model X.prog X.w) X.A (spliced (backTo pos (starEach es X.env))) (AP X pins σ Q) X.xe s
abbrev wS (X : Cx) (st : Stmt) : TS := fun D σ H => ∀ pins s, Inv X pins σ H s → wpAny (model X.prog X.w) X.A (exec st X.env) (SP X pins D) X.xe s
abbrev wSs (X : Cx) (st : List Stmt) : TS := fun D σ H => ∀ pins s, Inv X pins σ H s → wpAny (model X.prog X.w) X.A (execs st X.env) (SP X pins D) X.xe s
abbrev wOp (X : Cx) (f : Value → Value → Sem Value) : R2 := fun x y H Q => ∀ pins s σ v u, Inv X pins σ H s → RelV x v → RelV y u → wpAny (model X.prog X.w) X.A (f v u) (EP X pins σ Q) X.xe s
abbrev wUn (X : Cx) (f : Value → Sem Value) : V → Hp → VK → Prop := fun x H Q => ∀ pins s σ v, Inv X pins σ H s → RelV x v → wpAny (model X.prog X.w) X.A (f v) (EP X pins σ Q) X.xe s
abbrev wCall (X : Cx) (f : Value) : List V → Hp → VK → Prop := fun xs H Q => ∀ pins s σ us, Inv X pins σ H s → Vals xs us → wpAny (model X.prog X.w) X.A (call f us) (EP X pins σ Q) X.xe s
abbrev wTru (X : Cx) : V → Hp → (Bool → Hp → Prop) → Prop := fun x H Q => ∀ pins s σ v, Inv X pins σ H s → RelV x v → wpAny (model X.prog X.w) X.A (truthy v) (TP X pins σ Q) X.xe s
theorem pe_w {X : Cx} {e : Expr} : PE X e (wE X e) := ⟨fun pins s σ H Q I h => h pins s I⟩
theorem pt_w {X : Cx} {e : Expr} : PT X e (wT X e) := ⟨fun pins s σ H Q I h => h pins s I⟩
theorem pw_w {X : Cx} {e : Expr} : PW X e (wW X e) := ⟨fun wh pins s σ H Q I h => h wh pins s I⟩
theorem pa_w {X : Cx} {e : List Expr} : PA X e (wA X e) := ⟨fun pos pins s σ H Q I h => h pos pins s I⟩
theorem ps_w {X : Cx} {e : Stmt} : PS X e (wS X e) := ⟨fun pins s σ H Q I h => h pins s I⟩
theorem pss_w {X : Cx} {e : List Stmt} : PSs X e (wSs X e) := ⟨fun pins s σ H Q I h => h pins s I⟩
theorem or_w {X : Cx} {f : Value → Value → Sem Value} : OpR X f (wOp X f) := fun pins s σ H x y v u Q I r1 r2 h => h pins s σ v u I r1 r2
theorem ur_w {X : Cx} {f : Value → Sem Value} : UnR X f (wUn X f) := fun pins s σ H x v Q I r1 h => h pins s σ v I r1
theorem cr_w {X : Cx} {f : Value} : CallR X f (wCall X f) := fun pins s σ H xs us Q I r1 h => h pins s σ us I r1
theorem tr_w {X : Cx} : TruR X (wTru X) := fun pins s σ H x v Q I r1 h => h pins s σ v I r1
section
variable {X : Cx} {Pm : Hp → Prop}
theorem wE_of {e : Expr} {t : TE} (h : PE X e t) {σ : St} {H : Hp} {Q : VK} (q : t σ H Q) : wE X e σ H Q := fun pins s I => h.run pins s σ H Q I q
theorem wT_of {e : Expr} {t : TT} (h : PT X e t) {σ : St} {H : Hp} {Q : Bool → Hp → Prop} (q : t σ H Q) : wT X e σ H Q := fun pins s I => h.run pins s σ H Q I q
theorem wW_of {e : Expr} {t : TT} (h : PW X e t) {σ : St} {H : Hp} {Q : Bool → Hp → Prop} (q : t σ H Q) : wW X e σ H Q := fun wh pins s I => h.run wh pins s σ H Q I q
theorem wA_of {e : List Expr} {t : TA} (h : PA X e t) {σ : St} {H : Hp} {Q : List V → Hp → Prop} (q : t σ H Q) : wA X e σ H Q := fun pos pins s I => h.run pos pins s σ H Q I q
theorem wS_of {e : Stmt} {t : TS} (h : PS X e t) {σ : St} {H : Hp} {D : Ends} (q : t D σ H) : wS X e D σ H := fun pins s I => h.run pins s σ H D I q
theorem wSs_of {e : List Stmt} {t : TS} (h : PSs X e t) {σ : St} {H : Hp} {D : Ends} (q : t D σ H) : wSs X e D σ H := fun pins s I => h.run pins s σ H D I q
theorem wOp_of {f : Value → Value → Sem Value} {r : R2} (h : OpR X f r) {x y : V} {H : Hp} {Q : VK} (q : r x y H Q) : wOp X f x y H Q := fun pins s σ v u I r1 r2 => h pins s σ H x y v u Q I r1 r2 q
theorem wUn_of {f : Value → Sem Value} {r : V → Hp → VK → Prop} (h : UnR X f r) {x : V} {H : Hp} {Q : VK} (q : r x H Q) : wUn X f x H Q := fun pins s σ v I r1 => h pins s σ H x v Q I r1 q
theorem wCall_of {f : Value} {r : List V → Hp → VK → Prop} (h : CallR X f r) {x : List V} {H : Hp} {Q : VK} (q : r x H Q) : wCall X f x H Q := fun pins s σ v I r1 => h pins s σ H x v Q I r1 q
theorem wTru_of {r : V → Hp → (Bool → Hp → Prop) → Prop} (h : TruR X r) {x : V} {H : Hp} {Q : Bool → Hp → Prop} (q : r x H Q) : wTru X x H Q := fun pins s σ v I r1 => h pins s σ H x v Q I r1 q
theorem wE_mono {e : Expr} {σ : St} {H : Hp} {Q Q' : VK} (h : wE X e σ H Q) (f : ∀ v H', Q v H' → Q' v H') : wE X e σ H Q' := fun pins s I =>
  thn (h pins s I) fun u s' ⟨v, H', a, b, c⟩ => ⟨v, H', a, b, f v H' c⟩
theorem wT_mono {e : Expr} {σ : St} {H : Hp} {Q Q' : Bool → Hp → Prop} (h : wT X e σ H Q) (f : ∀ v H', Q v H' → Q' v H') : wT X e σ H Q' := fun pins s I =>
  thn (h pins s I) fun u s' ⟨H', a, c⟩ => ⟨H', a, f u H' c⟩
theorem wW_mono {e : Expr} {σ : St} {H : Hp} {Q Q' : Bool → Hp → Prop} (h : wW X e σ H Q) (f : ∀ v H', Q v H' → Q' v H') : wW X e σ H Q' := fun wh pins s I =>
  thn (h wh pins s I) fun u s' ⟨H', a, c⟩ => ⟨H', a, f u H' c⟩
theorem wA_mono {e : List Expr} {σ : St} {H : Hp} {Q Q' : List V → Hp → Prop} (h : wA X e σ H Q) (f : ∀ v H', Q v H' → Q' v H') : wA X e σ H Q' := fun pos pins s I =>
  thn (h pos pins s I) fun u s' ⟨v, H', a, b, c⟩ => ⟨v, H', a, b, f v H' c⟩
theorem wOp_mono {f : Value → Value → Sem Value} {x y : V} {H : Hp} {Q Q' : VK} (h : wOp X f x y H Q) (g : ∀ v H', Q v H' → Q' v H') : wOp X f x y H Q' := fun pins s σ v u I r1 r2 =>
  thn (h pins s σ v u I r1 r2) fun u s' ⟨v, H', a, b, c⟩ => ⟨v, H', a, b, g v H' c⟩
theorem SP_mono {pins : List (Addr × Obj)} {D D' : Ends} {f : Flow} {s : Shared} (h : SP X pins D f s) (a : ∀ σ H, D.nx σ H → D'.nx σ H) (b : ∀ v H, D.rt v H → D'.rt v H) (c : ∀ σ H, D.bk σ H → D'.bk σ H) (d : ∀ σ H, D.ct σ H → D'.ct σ H) : SP X pins D' f s := by
  cases f with
  | next => obtain ⟨σ, H, i, q⟩ := h; exact ⟨σ, H, i, a _ _ q⟩
  | brk => obtain ⟨σ, H, i, q⟩ := h; exact ⟨σ, H, i, c _ _ q⟩
  | cont => obtain ⟨σ, H, i, q⟩ := h; exact ⟨σ, H, i, d _ _ q⟩
  | ret u => obtain ⟨v, σ, H, i, r, q⟩ := h; exact ⟨v, σ, H, i, r, b _ _ q⟩
theorem wS_mono {e : Stmt} {σ : St} {H : Hp} {D D' : Ends} (h : wS X e D σ H) (a : ∀ σ H, D.nx σ H → D'.nx σ H) (b : ∀ v H, D.rt v H → D'.rt v H) (c : ∀ σ H, D.bk σ H → D'.bk σ H) (d : ∀ σ H, D.ct σ H → D'.ct σ H) : wS X e D' σ H := fun pins s I =>
  thn (h pins s I) fun u s' q => SP_mono q a b c d
theorem wSs_mono {e : List Stmt} {σ : St} {H : Hp} {D D' : Ends} (h : wSs X e D σ H) (a : ∀ σ H, D.nx σ H → D'.nx σ H) (b : ∀ v H, D.rt v H → D'.rt v H) (c : ∀ σ H, D.bk σ H → D'.bk σ H) (d : ∀ σ H, D.ct σ H → D'.ct σ H) : wSs X e D' σ H := fun pins s I =>
  thn (h pins s I) fun u s' q => SP_mono q a b c d
end

/-! ### the judgements over data -/
abbrev QD := D → Mst → Prop
abbrev Ds := List (Option D)
/-- what a value's action leaves -/
def EndE (K : PySem.W.Frag) (F : Hp → Prop) (Q : QD) : VK := fun v H' => ∃ d M', Ok K M' (fun G => Rp K G d v ∧ F G) H' ∧ Q d M'
def EndT (K : PySem.W.Frag) (F : Hp → Prop) (Q : Bool → Mst → Prop) : Bool → Hp → Prop := fun b H' => ∃ M', Ok K M' F H' ∧ Q b M'
def EndA (K : PySem.W.Frag) (F : Hp → Prop) (Q : List D → Mst → Prop) : List V → Hp → Prop := fun vs H' => ∃ d M', Ok K M' (fun G => RpL K G d vs ∧ F G) H' ∧ Q d M'
/-- the expression e, at the state (M, ds): every way out is wanted by Q -/
def WE (Pm : Hp → Prop) (X : Cx) (e : Expr) (M : Mst) (ds : Ds) (Q : QD) : Prop :=
  ∀ σ H F, MonoF Pm F → Ok X.K M (fun G => EnvR X.K G ds σ ∧ F G) H → wE X e σ H (EndE X.K (fun G => EnvR X.K G ds σ ∧ F G) Q)
def WT (Pm : Hp → Prop) (X : Cx) (e : Expr) (M : Mst) (ds : Ds) (Q : Bool → Mst → Prop) : Prop :=
  ∀ σ H F, MonoF Pm F → Ok X.K M (fun G => EnvR X.K G ds σ ∧ F G) H → wT X e σ H (EndT X.K (fun G => EnvR X.K G ds σ ∧ F G) Q)
def WW (Pm : Hp → Prop) (X : Cx) (e : Expr) (M : Mst) (ds : Ds) (Q : Bool → Mst → Prop) : Prop :=
  ∀ σ H F, MonoF Pm F → Ok X.K M (fun G => EnvR X.K G ds σ ∧ F G) H → wW X e σ H (EndT X.K (fun G => EnvR X.K G ds σ ∧ F G) Q)
def WA (Pm : Hp → Prop) (X : Cx) (es : List Expr) (M : Mst) (ds : Ds) (Q : List D → Mst → Prop) : Prop :=
  ∀ σ H F, MonoF Pm F → Ok X.K M (fun G => EnvR X.K G ds σ ∧ F G) H → wA X es σ H (EndA X.K (fun G => EnvR X.K G ds σ ∧ F G) Q)
def BinG (Pm : Hp → Prop) (X : Cx) (f : Value → Value → Sem Value) (x y : D) (M : Mst) (Q : QD) : Prop :=
  ∀ v u H F, MonoF Pm F → Ok X.K M (fun G => Rp X.K G x v ∧ Rp X.K G y u ∧ F G) H → wOp X f v u H (EndE X.K F Q)
def UnG (Pm : Hp → Prop) (X : Cx) (f : Value → Sem Value) (x : D) (M : Mst) (Q : QD) : Prop :=
  ∀ v H F, MonoF Pm F → Ok X.K M (fun G => Rp X.K G x v ∧ F G) H → wUn X f v H (EndE X.K F Q)
def CallG (Pm : Hp → Prop) (X : Cx) (f : Value) (xs : List D) (M : Mst) (Q : QD) : Prop :=
  ∀ vs H F, MonoF Pm F → Ok X.K M (fun G => RpL X.K G xs vs ∧ F G) H → wCall X f vs H (EndE X.K F Q)
def TruG (Pm : Hp → Prop) (X : Cx) (x : D) (M : Mst) (Q : Bool → Mst → Prop) : Prop :=
  ∀ v H F, MonoF Pm F → Ok X.K M (fun G => Rp X.K G x v ∧ F G) H → wTru X v H (EndT X.K F Q)
structure EndD where
  nx : Ds → Mst → Prop
  rt : QD
  bk : Ds → Mst → Prop := fun _ _ => False
  ct : Ds → Mst → Prop := fun _ _ => False
def EndS (K : PySem.W.Frag) (F : Hp → Prop) (q : Ds → Mst → Prop) : St → Hp → Prop := fun σ' H' => ∃ ds' M', Ok K M' (fun G => EnvR K G ds' σ' ∧ F G) H' ∧ q ds' M'
def EndD.to (K : PySem.W.Frag) (F : Hp → Prop) (D : EndD) : Ends := { nx := EndS K F D.nx, rt := EndE K F D.rt, bk := EndS K F D.bk, ct := EndS K F D.ct }
def WS (Pm : Hp → Prop) (X : Cx) (st : Stmt) (M : Mst) (ds : Ds) (D : EndD) : Prop :=
  ∀ σ H F, MonoF Pm F → Ok X.K M (fun G => EnvR X.K G ds σ ∧ F G) H → wS X st (D.to X.K F) σ H
def WSs (Pm : Hp → Prop) (X : Cx) (st : List Stmt) (M : Mst) (ds : Ds) (D : EndD) : Prop :=
  ∀ σ H F, MonoF Pm F → Ok X.K M (fun G => EnvR X.K G ds σ ∧ F G) H → wSs X st (D.to X.K F) σ H
end DL

/-! set(xs) of a list of ints: the road of the tuple's rule, for a list -/
namespace DLs
open PySem PySem.Spec L2 PyProof.Rows
section
variable {P : Program} {w : World} {A : Around} {E : Value → Shared → Prop} {s : Shared}
/-- the empty set that set.__new__ lays -/
abbrev so (w : World) : Obj := { cls := .type "set", dict := none, data := .set #[] 0 (.fresh 0 0 (!w.params.followText "set-order")) }
theorem set_list {l : Addr} {items : Array Value} (ns : List Int) {Q : Value → Shared → Prop} (hh : A.handled = none) (hl : s.heap.IsList l items) (hit : IntsAre items.toList ns) (hb : ns.length + 1 < scanBound)
    (h : ∀ (h' : Heap) (tk c : Nat), SetR w h' s.heap.objs.size (fun j => decide (j ∈ ns)) c → c ≤ ns.length →
      (∀ b o, s.heap.get? b = some o → h'.get? b = some o) → Q (.ref s.heap.objs.size) { s with heap := h', toks := tk }) :
    wpAny (model P w) A (call (.type "set") [.ref l]) Q E s := by
  have hisz : items.size = ns.length := Array.length_toList (xs := items) ▸ IntsAre.length hit
  have ⟨_, _, hmro⟩ := F.called_set.mro
  have hmade := F.called_set.made; have hsub := F.called_set.sub
  refine wpAny_call (codeAny_of_tree ?_)
  change wpAny _ _ (callAny (.type "set") _) _ _ _
  refine wpAny_pure ⟨Code.quiet_builtin _ (by decide +kernel), codeAny_builtin F.entry_type_call ?_⟩
  rw [Around.under_plain (weight_type_call_type "set" [.ref l] []) rfl]
  have h1 := F.called_set.notType; have h2 := F.called_set.canCreate; have hct := F.typeCall_set_1 (.ref l)
  repeat (any_goals (first | assumption | wp_step))
  refine codeAny_mono (code_set_led1 (.ref l) (E := E) (Q₁ := fun obj s₁ => obj = .ref s.heap.objs.size ∧ s₁ = { s with heap := s.heap.push (so w) }) ⟨rfl, rfl⟩) fun r s₁ hr => ?_
  rcases r with e | fl
  · exact hr
  rcases fl with _ | _ | _ | obj
  any_goals exact hr.elim
  obtain ⟨rfl, rfl⟩ := hr
  have hS : (s.heap.push (so w)).get? s.heap.objs.size = some (so w) := Heap.get?_push_size _ rfl
  have hT : Shared.TypeIs { s with heap := s.heap.push (so w) } (.ref s.heap.objs.size) "set" := ⟨_, hS, rfl⟩
  have hli := F.called_set.init.lookup; have hbi := F.called_set.init.bind (.ref s.heap.objs.size)
  repeat (any_goals (first | assumption | wp_step))
  refine codeAny_mono (codeAny_call_builtin (R := wants (fun r s₂ => r = .none ∧ ∃ h' tk c, s₂ = { s with heap := h', toks := tk } ∧ SetR w h' s.heap.objs.size (fun j => decide (j ∈ ns)) c ∧ c ≤ ns.length ∧
    (∀ b o, s.heap.get? b = some o → h'.get? b = some o)) E) F.called_set.init.plain F.entry_set_init (check_set_init_1 hT ?_)) fun r₂ s₂ hr₂ => ?_
  · obtain ⟨ol, hol, hcl, nl, hdl⟩ := hl
    obtain ⟨ocls, odict, odata, oslots⟩ := ol
    simp only at hcl hdl
    subst hcl hdl
    have hl1 : (s.heap.push (so w)).IsList l items := ⟨_, Heap.get?_push_of_some _ hol, rfl, nl, rfl⟩
    have hol' := Heap.get?_push_of_some (so w) hol
    have hsls := F.sub_list_set; have hslf := F.sub_list_frozenset
    have hne : (Value.type "list" == Value.type "dict") = false := by decide
    unfold Builtin.«set.__init__» noKeywords Builtin.Frozenset.updateFrom
    generalize hPI : pyIter = PI
    wp_walk
    subst hPI
    refine wpAny_pyIter_list hl1 (wpAny_bind (wpAny_runValue ?_))
    have hlS : l < s.heap.objs.size := Heap.lt_size hol
    have hh3 : A.in1.in1.in1.handled = none := by simp [hh]
    have hz1 : (s.heap.push (so w)).objs.size = s.heap.objs.size + 1 := Heap.size_push ..
    have hneI : l ≠ (s.heap.push (so w)).objs.size := hz1 ▸ Nat.ne_of_lt (Nat.lt_succ_of_lt hlS)
    have hSf : s.heap.objs.size ∉ [(s.heap.push (so w)).objs.size, l] := by
      rw [hz1]
      simp only [List.mem_cons, List.not_mem_nil, or_false, not_or]
      exact ⟨Nat.ne_of_lt (Nat.lt_succ_self _), Nat.ne_of_gt hlS⟩
    have hval : ∀ (i : Nat) (v : Value), items[i]? = some v → ∃ k t, ns[i]? = some k ∧ v = .int k t := fun i v hv => by
      have hi : i < ns.length := hisz ▸ (Array.getElem?_eq_some_iff.mp hv).1
      obtain ⟨t, e⟩ := IntsAre.int_at hit i v (by rw [Array.getElem?_toList]; exact hv)
      exact ⟨ns[i], t, List.getElem?_eq_getElem hi, by rw [e, List.getD_eq_getElem?_getD, List.getElem?_eq_getElem hi]; rfl⟩
    refine set_update_ints ((Walks.list hh3 _ l hneI items).toS) s.heap.objs.size hSf ns hisz hb hval (items.size - 0) 0 _ (by omega) (Nat.zero_le _)
      ⟨⟨_, Heap.get?_push_size _ rfl, rfl, rfl⟩, hl1.push _⟩ ⟨0, Nat.le_refl 0, setR_new_at (Heap.get?_push_of_some _ hS)⟩ ?_
    intro s' c' hm hc' hS'
    obtain ⟨h', g2, d', tk', os'⟩ := s'
    obtain rfl : g2 = s.gens := hm.gens
    obtain rfl : d' = s.drawn := hm.drawn
    obtain rfl : os' = s.os := hm.os
    change wpAny _ _ _ _ _ _
    refine wpAny_pure ?_
    change wpAny _ _ (ret Value.none) _ _ _
    refine wpAny_pure ⟨rfl, h', tk', c', rfl, hS', hisz ▸ hc', fun b o e => ?_⟩
    have hb0 : b < s.heap.objs.size := Heap.lt_size e
    refine hm.heap b o ?_ (Heap.get?_push_of_some _ (Heap.get?_push_of_some _ e))
    simp only [List.mem_cons, List.not_mem_nil, or_false, not_or]
    exact ⟨Nat.ne_of_lt hb0, hz1 ▸ Nat.ne_of_lt (Nat.lt_succ_of_lt hb0)⟩
  · rcases r₂ with e | fl₂
    · exact hr₂
    rcases fl₂ with _ | _ | _ | r
    any_goals exact hr₂.elim
    obtain ⟨rfl, h', tk, c', rfl, hS', hc', hk'⟩ := hr₂
    repeat (any_goals (first | assumption | wp_step))
    exact h _ _ _ hS' hc' hk'
end
section
variable {X : Cx} {Pm : Hp → Prop}
def rSetL (K : PySem.W.Frag) (w : World) : List V → Hp → VK → Prop := fun xs H Q => ∃ (p : Addr) (ns : List Int), xs = [.ref p] ∧ SqL K H p (ns.map V.int) ∧ ns.length ≤ 4000 ∧
  ∀ q n, H q = none → n ≤ ns.length → Q (.ref q) (upd H q (SetO w q (fun j => decide (j ∈ ns)) n))
theorem cr_setL (hc : X.calm = true) : CallR X (.type "set") (rSetL X.K X.w) := by
  intro pins s σ H xs us Q I r h
  obtain ⟨p, ns, rfl, hq, hl, q⟩ := h
  rw [Vals.ref1 r]
  obtain ⟨its, rv, pl, hz⟩ := I.list hq
  refine set_list ns (I.ok.hd hc) pl.isList (intsAre_of rv) (by unfold scanBound; omega) fun h' tk c R hc' k => ?_
  exact ⟨.ref _, _, I.laid (t' := tk) k (Nat.le_refl _) (setO_new R), rfl, q _ c (I.hok.fresh (Nat.le_refl _)) hc'⟩
end
end DLs

/-! DL3: expressions over data -/
namespace DL
open PySem PySem.Spec L2
open PyProof.Rows hiding St
section
variable {X : Cx} {Pm : Hp → Prop} {M : Mst} {ds : Ds} {Q : QD} {pos : Pos} {a b c e : Expr}

theorem Rp.int_inv {K : PySem.W.Frag} {G : Hp} {i : Int} {v : V} (h : Rp K G (.int i) v) : v = .int i := by simpa only [Rp] using h
theorem Rp.str_inv {K : PySem.W.Frag} {G : Hp} {i : Str} {v : V} (h : Rp K G (.str i) v) : v = .str i := by simpa only [Rp] using h
theorem Rp.bl_inv {K : PySem.W.Frag} {G : Hp} {i : Bool} {v : V} (h : Rp K G (.bl i) v) : v = .bl i := by simpa only [Rp] using h
theorem Rp.non_inv {K : PySem.W.Frag} {G : Hp} {v : V} (h : Rp K G .non v) : v = .non := by simpa only [Rp] using h
theorem Rp.raw_inv {K : PySem.W.Frag} {G : Hp} {w v : V} (h : Rp K G (.raw w) v) : v = w := by simpa only [Rp] using h
theorem Rp.lst_inv {K : PySem.W.Frag} {G : Hp} {xs : List D} {v : V} (h : Rp K G (.lst xs) v) : ∃ a vs, v = .ref a ∧ G a = some (.lst vs) ∧ RpL K G xs vs := by simpa only [Rp] using h
theorem Rp.tup_inv {K : PySem.W.Frag} {G : Hp} {xs : List D} {v : V} (h : Rp K G (.tup xs) v) : ∃ a vs, v = .ref a ∧ SqT K G a vs ∧ RpL K G xs vs := by simpa only [Rp] using h
theorem Rp.dct_inv {K : PySem.W.Frag} {G : Hp} {xs : List (Key × D)} {v : V} (h : Rp K G (.dct xs) v) : ∃ a vs, v = .ref a ∧ DcK G a (.dK vs) ∧ RpK K G xs vs := by simpa only [Rp] using h
theorem Rp.obj_inv {K : PySem.W.Frag} {G : Hp} {C : Addr} {xs : List (Str × D)} {v : V} (h : Rp K G (.obj C xs) v) : ∃ a dx vs, v = .ref a ∧ G a = some (.ins C dx vs) ∧ RpF K G xs vs := by simpa only [Rp] using h
theorem Rp.klst_inv {K : PySem.W.Frag} {G : Hp} {xs : List D} {v : V} (h : Rp K G (.klst xs) v) : ∃ a vs, v = .ref a ∧ SqL K G a vs ∧ RpL K G xs vs := by simpa only [Rp] using h
theorem Rp.own_inv {K : PySem.W.Frag} {G : Hp} {P : Addr → HO → Prop} {v : V} (h : Rp K G (.own P) v) : ∃ a o, v = .ref a ∧ G a = some o ∧ Nd o ∧ P a o := by simpa only [Rp] using h
theorem rp_own {K : PySem.W.Frag} {G : Hp} {P : Addr → HO → Prop} {a : Addr} {o : HO} (h : G a = some o) (n : Nd o) (q : P a o) : Rp K G (.own P) (.ref a) := by simp only [Rp]; exact ⟨a, o, rfl, h, n, q⟩
theorem rp_int {K : PySem.W.Frag} {G : Hp} {i : Int} : Rp K G (.int i) (.int i) := by simp only [Rp]
theorem rp_str {K : PySem.W.Frag} {G : Hp} {i : Str} : Rp K G (.str i) (.str i) := by simp only [Rp]
theorem rp_bl {K : PySem.W.Frag} {G : Hp} {i : Bool} : Rp K G (.bl i) (.bl i) := by simp only [Rp]
theorem rp_non {K : PySem.W.Frag} {G : Hp} : Rp K G .non .non := by simp only [Rp]
theorem rp_raw {K : PySem.W.Frag} {G : Hp} {w : V} : Rp K G (.raw w) w := by simp only [Rp]
theorem rp_lst {K : PySem.W.Frag} {G : Hp} {xs : List D} {p : Addr} {vs : List V} (h : G p = some (.lst vs)) (r : RpL K G xs vs) : Rp K G (.lst xs) (.ref p) := by simp only [Rp]; exact ⟨p, vs, rfl, h, r⟩
theorem rp_tup {K : PySem.W.Frag} {G : Hp} {xs : List D} {p : Addr} {vs : List V} (h : SqT K G p vs) (r : RpL K G xs vs) : Rp K G (.tup xs) (.ref p) := by simp only [Rp]; exact ⟨p, vs, rfl, h, r⟩
theorem rp_obj {K : PySem.W.Frag} {G : Hp} {C : Addr} {xs : List (Str × D)} {p dx : Addr} {vs : List (Str × V)} (h : G p = some (.ins C dx vs)) (r : RpF K G xs vs) : Rp K G (.obj C xs) (.ref p) := by simp only [Rp]; exact ⟨p, dx, vs, rfl, h, r⟩
theorem rp_dct {K : PySem.W.Frag} {G : Hp} {xs : List (Key × D)} {p : Addr} {vs : List (Key × V)} (h : DcK G p (.dK vs)) (r : RpK K G xs vs) : Rp K G (.dct xs) (.ref p) := by simp only [Rp]; exact ⟨p, vs, rfl, h, r⟩

/-! ### names, constants -/
theorem we_var (i : Nat) {x : Str} {d : D} (hN : X.N[i]? = some x) (hd : ds[i]? = some (some d)) (q : Q d M) (hv : Vis X.env.scope x := by first | exact Or.inl rfl | exact Or.inr (Or.inl rfl) | exact Or.inr (Or.inr rfl))
    (h1 : (x == ("__debug__" : Str)) = false := by decide) (h2 : (x == ("__classdict__" : Str)) = false := by decide) : WE Pm X (.Name x pos) M ds Q := by
  intro σ H F mF ok
  obtain ⟨v, hv'⟩ : ∃ v, σ[i]? = some (some v) := ok.use fun G _ h => let ⟨v, a, _⟩ := h.1.get hd; ⟨v, a⟩
  refine wE_of (pe_var hN hv h1 h2) ⟨v, hv', d, M, ok.imp fun G _ h => ⟨?_, h⟩, q⟩
  obtain ⟨w, e1, e2⟩ := h.1.get hd
  rw [hv'] at e1
  cases e1
  exact e2
theorem we_const {v : V} {d : D} (h : PE X e (tC v)) (hd : ∀ G, Rp X.K G d v) (q : Q d M) : WE Pm X e M ds Q :=
  fun σ H F mF ok => wE_of h ⟨d, M, ok.imp fun G _ h => ⟨hd G, h⟩, q⟩
theorem we_int {i : Int} {j : Nat} (q : Q (.int i) M) : WE Pm X (.Constant (.int i) j pos) M ds Q := we_const pe_int (fun _ => rp_int) q
theorem we_bl {i : Bool} {j : Nat} (q : Q (.bl i) M) : WE Pm X (.Constant (.bool i) j pos) M ds Q := we_const pe_bl (fun _ => rp_bl) q
theorem we_non {j : Nat} (q : Q .non M) : WE Pm X (.Constant .none j pos) M ds Q := we_const pe_non (fun _ => rp_non) q
theorem we_str {i : Str} {j : Nat} (q : Q (.str i) M) : WE Pm X (.Constant (.str i) j pos) M ds Q := we_const pe_str (fun _ => rp_str) q
/-- a name of the module: a class, a def, a constant -/
theorem we_glob {x : Str} {u : Value} {v : V} {d : D} (hm : X.mg x = some u) (r : RelV v u) (hd : ∀ G, Rp X.K G d v) (q : Q d M) (hg : Gl X x := by rfl) (h1 : (x == ("__debug__" : Str)) = false := by decide) : WE Pm X (.Name x pos) M ds Q :=
  we_const (pe_glob hg hm r h1) hd q
/-- a built-in's name as a value -/
theorem we_bltn {x : Str} {u : Value} {v : V} {d : D} (hm : X.mg x = none) (hv : bootBuiltins x = some u) (r : RelV v u) (hd : ∀ G, Rp X.K G d v) (q : Q d M) (hg : Gl X x := by rfl) (h0 : x ≠ "__name__" := by decide) (h1 : (x == ("__debug__" : Str)) = false := by decide) : WE Pm X (.Name x pos) M ds Q :=
  we_const (pe_bltn hg hm hv r h0 h1) hd q

/-! ### operators -/
theorem mono_x {Pm : Hp → Prop} {K : PySem.W.Frag} {ds : Ds} {σ : L2.St} {F : Hp → Prop} (mF : MonoF Pm F) : MonoF Pm (fun G => EnvR K G ds σ ∧ F G) := MonoF.and mono_env mF
theorem ok_swap {K : PySem.W.Frag} {M : Mst} {H : Hp} {A B C : Hp → Prop} (h : Ok K M (fun G => A G ∧ B G ∧ C G) H) : Ok K M (fun G => B G ∧ A G ∧ C G) H := h.imp fun _ _ ⟨a, b, c⟩ => ⟨b, a, c⟩
theorem endE_swap {K : PySem.W.Frag} {A B : Hp → Prop} {Q : QD} {v : V} {H : Hp} (h : EndE K (fun G => A G ∧ B G) Q v H) : EndE K (fun G => B G ∧ A G) Q v H :=
  let ⟨d, M, o, q⟩ := h; ⟨d, M, o.imp fun _ _ ⟨x, y, z⟩ => ⟨x, z, y⟩, q⟩
theorem endE_imp {K : PySem.W.Frag} {A B : Hp → Prop} {Q Q' : QD} {v : V} {H : Hp} (h : EndE K A Q v H) (f : ∀ G, A G → B G) (g : ∀ d M, Q d M → Q' d M) : EndE K B Q' v H :=
  let ⟨d, M, o, q⟩ := h; ⟨d, M, o.imp fun _ _ ⟨x, y⟩ => ⟨x, f _ y⟩, g _ _ q⟩
/-- two expressions in a row, then an action on both values -/
theorem run2 {σ : L2.St} {H : Hp} {F : Hp → Prop} {R : V → V → Hp → Prop} (mF : MonoF Pm F) (ok : Ok X.K M (fun G => EnvR X.K G ds σ ∧ F G) H) {P : D → D → Mst → Prop}
    (h : WE Pm X a M ds fun x M1 => WE Pm X b M1 ds fun y M2 => P x y M2)
    (f : ∀ v u H' x y M', Ok X.K M' (fun G => Rp X.K G x v ∧ Rp X.K G y u ∧ EnvR X.K G ds σ ∧ F G) H' → P x y M' → R v u H') :
    wE X a σ H fun v H1 => wE X b σ H1 fun u H2 => R v u H2 := by
  refine wE_mono (h σ H F mF ok) fun v H1 ⟨x, M1, ok1, hb⟩ => ?_
  refine wE_mono (hb σ H1 (fun G => Rp X.K G x v ∧ F G) (MonoF.and mono_rp mF) (ok1.imp fun _ _ ⟨p, q, r⟩ => ⟨q, p, r⟩)) fun u H2 ⟨y, M2, ok2, hp⟩ => ?_
  exact f v u H2 x y M2 (ok2.imp fun _ _ ⟨p, q, r, s⟩ => ⟨r, p, q, s⟩) hp
theorem we_bin {op : Operator} (h : WE Pm X a M ds fun x M1 => WE Pm X b M1 ds fun y M2 => BinG Pm X (binaryOp op) x y M2 Q) : WE Pm X (.BinOp a op b pos) M ds Q := by
  intro σ H F mF ok
  refine wE_of (pe_op or_w pe_w pe_w) ?_
  refine run2 mF ok h fun v u H' x y M' ok' q => ?_
  exact wOp_mono (q v u H' _ (mono_x mF) ok') fun _ _ z => z
theorem we_cmp {op : CmpOp} (h : WE Pm X a M ds fun x M1 => WE Pm X b M1 ds fun y M2 => BinG Pm X (compareOp op) x y M2 Q) (hm : behindInMarks op b = false := by first | exact nobehind _ (by decide) (by decide) | rfl | with_unfolding_all rfl) : WE Pm X (.Compare a [op] [b] pos) M ds Q := by
  intro σ H F mF ok
  refine wE_of (pe_cmpR or_w pe_w pe_w hm) ?_
  refine run2 mF ok h fun v u H' x y M' ok' q => ?_
  exact wOp_mono (q v u H' _ (mono_x mF) ok') fun _ _ z => z
theorem wt_cmp {op : CmpOp} {Q : Bool → Mst → Prop} (h : WE Pm X a M ds fun x M1 => WE Pm X b M1 ds fun y M2 => BinG Pm X (compareOp op) x y M2 fun d M3 => ∃ k, d = .bl k ∧ Q k M3) (hm : behindInMarks op b = false := by first | exact nobehind _ (by decide) (by decide) | rfl | with_unfolding_all rfl) : WT Pm X (.Compare a [op] [b] pos) M ds Q := by
  intro σ H F mF ok
  refine wT_of (pt_cmpR or_w pe_w pe_w hm) ?_
  refine run2 mF ok h fun v u H' x y M' ok' q => ?_
  refine wOp_mono (q v u H' _ (mono_x mF) ok') fun w H2 ⟨d, M2, o2, k, e, q2⟩ => ?_
  subst e
  obtain rfl : w = .bl k := o2.use fun _ _ h => h.1.bl_inv
  exact ⟨k, rfl, M2, o2.imp fun _ _ h => h.2, q2⟩
/-- a op1 b op2 c -/
theorem wt_chain {op op' : CmpOp} {Q : Bool → Mst → Prop} (h : WE Pm X a M ds fun x M1 => WE Pm X b M1 ds fun y M2 => BinG Pm X (compareOp op) x y M2 fun d M3 => ∃ k, d = .bl k ∧
      (k = true → WE Pm X c M3 ds fun z M4 => BinG Pm X (compareOp op') y z M4 fun d M5 => ∃ k, d = .bl k ∧ Q k M5) ∧ (k = false → Q false M3))
    (hm : lastMarks [op, op'] [b, c] = false := by with_unfolding_all rfl) : WT Pm X (.Compare a [op, op'] [b, c] pos) M ds Q := by
  intro σ H F mF ok
  refine wT_of (pt_chain or_w or_w pe_w pe_w pe_w hm) ?_
  refine run2 mF ok h fun v u H' x y M' ok' q => ?_
  refine wOp_mono (q v u H' (fun G => Rp X.K G y u ∧ EnvR X.K G ds σ ∧ F G) (MonoF.and mono_rp (mono_x mF)) (ok'.imp fun _ _ ⟨p, q, r⟩ => ⟨p, q, q, r⟩)) fun w H2 ⟨d, M2, o2, k, e, q1, q2⟩ => ?_
  subst e
  obtain rfl : w = .bl k := o2.use fun _ _ h => h.1.bl_inv
  refine ⟨k, rfl, ?_⟩
  cases k with
  | false => exact iteF ⟨false, rfl, M2, o2.imp fun _ _ h => h.2.2, q2 rfl⟩
  | true =>
    refine iteT ?_
    refine wE_mono (q1 rfl σ H2 (fun G => Rp X.K G y u ∧ F G) (MonoF.and mono_rp mF) (o2.imp fun _ _ h => ⟨h.2.2.1, h.2.1, h.2.2.2⟩)) fun t H3 ⟨z, M3, o3, q3⟩ => ?_
    refine wOp_mono (q3 u t H3 _ (mono_x mF) (o3.imp fun _ _ h => ⟨h.2.2.1, h.1, h.2.1, h.2.2.2⟩)) fun s H4 ⟨d, M4, o4, k, e, q4⟩ => ?_
    subst e
    obtain rfl : s = .bl k := o4.use fun _ _ h => h.1.bl_inv
    exact ⟨k, rfl, M4, o4.imp fun _ _ h => h.2, q4⟩
theorem we_un {op : UnaryOp} (h : WE Pm X a M ds fun x M1 => UnG Pm X (unaryOp op) x M1 Q) : WE Pm X (.UnaryOp op a pos) M ds Q := by
  intro σ H F mF ok
  refine wE_of (pe_un ur_w pe_w) ?_
  refine wE_mono (h σ H F mF ok) fun v H1 ⟨x, M1, o1, q⟩ => ?_
  exact q v H1 _ (mono_x mF) o1

/-! ### truth, and, or, not, if -/
theorem wt_truth {Q : Bool → Mst → Prop} (h : WE Pm X a M ds fun x M1 => TruG Pm X x M1 Q) (he : ∀ whole, isTrue a X.env whole = (do let v ← whole; standAt a.pos; holding [v] (truthy v)) := by intro _; rfl) : WT Pm X a M ds Q := by
  intro σ H F mF ok
  refine wT_of (pt_truthR pe_w tr_w he) ?_
  refine wE_mono (h σ H F mF ok) fun v H1 ⟨x, M1, o1, q⟩ => ?_
  exact q v H1 _ (mono_x mF) o1
theorem wt_not {Q : Bool → Mst → Prop} (h : WT Pm X a M ds fun k M1 => Q (!k) M1) : WT Pm X (.UnaryOp .Not a pos) M ds Q := by
  intro σ H F mF ok
  refine wT_of (pt_not pt_w) ?_
  exact wT_mono (h σ H F mF ok) fun k H1 ⟨M1, o1, q⟩ => ⟨M1, o1, q⟩
theorem wt_w {Q : Bool → Mst → Prop} (h : WW Pm X a M ds Q) : WT Pm X a M ds Q := fun σ H F mF ok => wT_of pw_w.pt (h σ H F mF ok)
theorem ww_and1 {Q : Bool → Mst → Prop} (h : WT Pm X a M ds Q) : WW Pm X (.BoolOp .And [a] pos) M ds Q := fun σ H F mF ok => wW_of (pw_and1 pt_w) (h σ H F mF ok)
theorem ww_or1 {Q : Bool → Mst → Prop} (h : WT Pm X a M ds Q) : WW Pm X (.BoolOp .Or [a] pos) M ds Q := fun σ H F mF ok => wW_of (pw_or1 pt_w) (h σ H F mF ok)
theorem ww_and {r : List Expr} {Q : Bool → Mst → Prop} (h : WT Pm X a M ds fun k M1 => (k = true → WW Pm X (.BoolOp .And (b :: r) pos) M1 ds Q) ∧ (k = false → Q false M1)) : WW Pm X (.BoolOp .And (a :: b :: r) pos) M ds Q := by
  intro σ H F mF ok
  refine wW_of (pw_and pt_w pw_w) ?_
  refine wT_mono (h σ H F mF ok) fun k H1 ⟨M1, o1, q1, q2⟩ => ?_
  cases k with
  | true => exact iteT (q1 rfl σ H1 F mF o1)
  | false => exact iteF ⟨M1, o1, q2 rfl⟩
theorem ww_or {r : List Expr} {Q : Bool → Mst → Prop} (h : WT Pm X a M ds fun k M1 => (k = true → Q true M1) ∧ (k = false → WW Pm X (.BoolOp .Or (b :: r) pos) M1 ds Q)) : WW Pm X (.BoolOp .Or (a :: b :: r) pos) M ds Q := by
  intro σ H F mF ok
  refine wW_of (pw_or pt_w pw_w) ?_
  refine wT_mono (h σ H F mF ok) fun k H1 ⟨M1, o1, q1, q2⟩ => ?_
  cases k with
  | true => exact iteT ⟨M1, o1, q1 rfl⟩
  | false => exact iteF (q2 rfl σ H1 F mF o1)
theorem we_ifx (h : WT Pm X c M ds fun k M1 => (k = true → WE Pm X a M1 ds Q) ∧ (k = false → WE Pm X b M1 ds Q)) : WE Pm X (.IfExp c a b pos) M ds Q := by
  intro σ H F mF ok
  refine wE_of (pe_ifExp pt_w pe_w pe_w) ?_
  refine wT_mono (h σ H F mF ok) fun k H1 ⟨M1, o1, q1, q2⟩ => ?_
  cases k with
  | true => exact iteT (q1 rfl σ H1 F mF o1)
  | false => exact iteF (q2 rfl σ H1 F mF o1)
/-- a truth that TruV tells -/
def truD : D → Option Bool
  | .non => some false
  | .bl k => some k
  | .int i => some (i != 0)
  | .lst xs => some (!xs.isEmpty)
  | .tup xs => some (!xs.isEmpty)
  | _ => none
theorem truV_of {K : PySem.W.Frag} {G H : Hp} (s : Le G H) : ∀ {x : D} {v : V} {k : Bool}, Rp K G x v → truD x = some k → TruV K v H k
  | .non, v, k, r, h => by cases r.non_inv; cases h; rfl
  | .bl k, v, _, r, h => by cases r.bl_inv; cases h; rfl
  | .int i, v, k, r, h => by cases r.int_inv; cases h; rfl
  | .lst xs, v, k, r, h => by
    obtain ⟨p, vs, rfl, h1, h2⟩ := r.lst_inv
    cases h
    exact .inl ⟨vs, SqL.of (s.at h1), by rw [h2.isEmpty]⟩
  | .tup xs, v, k, r, h => by
    obtain ⟨p, vs, rfl, h1, h2⟩ := r.tup_inv
    cases h
    exact .inr (.inl ⟨vs, sqt_mono s h1, by rw [h2.isEmpty]⟩)
  | .str _, _, _, _, h => by cases h
  | .dct _, _, _, _, h => by cases h
  | .dctT _, _, _, _, h => by cases h
  | .obj _ _, _, _, _, h => by cases h
  | .raw _, _, _, _, h => by cases h
  | .own _, _, _, _, h => by cases h
  | .xo _ _ _, _, _, _, h => by cases h
  | .xf _ _, _, _, _, h => by cases h
  | .klst _, _, _, _, h => by cases h
theorem tru_is {x : D} {k : Bool} {Q : Bool → Mst → Prop} (h : truD x = some k) (q : Q k M) : TruG Pm X x M Q := by
  intro v H F mF ok
  refine wTru_of tru_ok ⟨k, ok.use fun G s z => truV_of s z.1 h, M, ok.imp fun _ _ z => z.2, q⟩
/-- a mutable list's truth -/
theorem tru_mlst {p : Addr} {xs : List D} {Q : Bool → Mst → Prop} (h : M p = some (.lst xs)) (q : Q (!xs.isEmpty) M) : TruG Pm X (.raw (.ref p)) M Q := by
  intro v H F mF ok
  obtain rfl : v = .ref p := ok.use fun _ _ z => z.1.raw_inv
  obtain ⟨vs, h1, h2⟩ := (ok.getM h).use fun G _ z => (let ⟨vs, a, b⟩ := z.1; (⟨vs, a, b.isEmpty⟩ : ∃ vs : List V, H p = some (HO.lst vs) ∧ vs.isEmpty = xs.isEmpty))
  exact wTru_of tru_ok ⟨!xs.isEmpty, .inl ⟨vs, SqL.of h1, by rw [h2]⟩, M, ok.imp fun _ _ z => z.2, q⟩
theorem we_andT {r : List Expr} (h : WE Pm X a M ds fun x M1 => TruG Pm X x M1 fun k M2 => (k = true → WE Pm X (.BoolOp .And (b :: r) pos) M2 ds Q) ∧ (k = false → Q x M2)) : WE Pm X (.BoolOp .And (a :: b :: r) pos) M ds Q := by
  intro σ H F mF ok pins s I
  refine BoolOp_and (thn (h σ H F mF ok pins s I) fun v s1 ⟨x, H1, I1, r1, d, M1, o1, q1⟩ => ?_)
  refine thn (q1 x H1 (fun G => Rp X.K G d x ∧ EnvR X.K G ds σ ∧ F G) (MonoF.and mono_rp (mono_x mF)) (o1.imp fun _ _ z => ⟨z.1, z⟩) pins s1 σ v I1 r1) fun k s2 ⟨H2, I2, M2, o2, q2, q3⟩ => ?_
  cases k with
  | true => exact q2 rfl σ H2 F mF (o2.imp fun _ _ z => z.2) pins s2 I2
  | false => exact ⟨x, H2, I2, r1, d, M2, o2, q3 rfl⟩
theorem we_orT {r : List Expr} (h : WE Pm X a M ds fun x M1 => TruG Pm X x M1 fun k M2 => (k = true → Q x M2) ∧ (k = false → WE Pm X (.BoolOp .Or (b :: r) pos) M2 ds Q)) : WE Pm X (.BoolOp .Or (a :: b :: r) pos) M ds Q := by
  intro σ H F mF ok pins s I
  refine BoolOp_or (thn (h σ H F mF ok pins s I) fun v s1 ⟨x, H1, I1, r1, d, M1, o1, q1⟩ => ?_)
  refine thn (q1 x H1 (fun G => Rp X.K G d x ∧ EnvR X.K G ds σ ∧ F G) (MonoF.and mono_rp (mono_x mF)) (o1.imp fun _ _ z => ⟨z.1, z⟩) pins s1 σ v I1 r1) fun k s2 ⟨H2, I2, M2, o2, q2, q3⟩ => ?_
  cases k with
  | false => exact q3 rfl σ H2 F mF (o2.imp fun _ _ z => z.2) pins s2 I2
  | true => exact ⟨x, H2, I2, r1, d, M2, o2, q2 rfl⟩
theorem we_one {op : BoolOp} (h : WE Pm X a M ds Q) : WE Pm X (.BoolOp op [a] pos) M ds Q := fun σ H F mF ok => wE_of (pe_one pe_w) (h σ H F mF ok)
theorem we_notT (h : WE Pm X a M ds fun x M1 => TruG Pm X x M1 fun k M2 => Q (.bl (!k)) M2) : WE Pm X (.UnaryOp .Not a pos) M ds Q := by
  intro σ H F mF ok pins s I
  refine UnaryOp_ (thn (h σ H F mF ok pins s I) fun v s1 ⟨x, H1, I1, r1, d, M1, o1, q1⟩ => ?_)
  refine not_of ?_
  refine thn (q1 x H1 _ (mono_x mF) o1 pins s1 σ v I1 r1) fun k s2 ⟨H2, I2, M2, o2, q2⟩ => ?_
  exact ⟨.bl (!k), H2, I2, rfl, .bl (!k), M2, o2.imp fun _ _ z => ⟨rp_bl, z⟩, q2⟩

/-! ### argument lists, displays -/
theorem wa_nil {Q : List D → Mst → Prop} (q : Q [] M) : WA Pm X [] M ds Q := fun σ H F mF ok => wA_of pa_nil ⟨[], M, ok.imp fun _ _ z => ⟨RpL.nil, z⟩, q⟩
theorem wa_cons {es : List Expr} {Q : List D → Mst → Prop} (h : WE Pm X e M ds fun x M1 => WA Pm X es M1 ds fun xs M2 => Q (x :: xs) M2) (hs : starEach (e :: es) X.env = (false, eval e X.env) :: starEach es X.env := by rfl) : WA Pm X (e :: es) M ds Q := by
  intro σ H F mF ok
  refine wA_of (pa_cons pe_w pa_w hs) ?_
  refine wE_mono (h σ H F mF ok) fun v H1 ⟨x, M1, o1, q1⟩ => ?_
  refine wA_mono (q1 σ H1 (fun G => Rp X.K G x v ∧ F G) (MonoF.and mono_rp mF) (o1.imp fun _ _ z => ⟨z.2.1, z.1, z.2.2⟩)) fun vs H2 ⟨xs, M2, o2, q2⟩ => ?_
  exact ⟨x :: xs, M2, o2.imp fun _ _ z => ⟨RpL.cons z.2.2.1 z.1, z.2.1, z.2.2.2⟩, q2⟩
theorem we_tup {es : List Expr} {x1} (h : WA Pm X es M ds fun xs M1 => xs.length ≤ sizeLine ∧ Q (.tup xs) M1) : WE Pm X (.Tuple es x1 pos) M ds Q := by
  intro σ H F mF ok
  refine wE_of (pe_tup pa_w) ?_
  refine wA_mono (h σ H F mF ok) fun vs H1 ⟨xs, M1, o1, hz, q1⟩ => ?_
  have hl : vs.length = xs.length := o1.use fun _ _ z => z.1.length
  refine ⟨by rw [hl]; exact hz, fun p hp => ?_⟩
  exact ⟨.tup xs, M1, (o1.new (o := .tup vs) (MonoF.and mono_rpl (mono_x mF)) hp).imp fun _ _ z => ⟨rp_tup (SqT.of z.1) z.2.1, z.2.2⟩, q1⟩
theorem we_lst {es : List Expr} (h : WA Pm X es M ds fun xs M1 => xs.length ≤ sizeLine ∧ Q (.lst xs) M1) : WE Pm X (.List es pos) M ds Q := by
  intro σ H F mF ok
  refine wE_of (pe_lst pa_w) ?_
  refine wA_mono (h σ H F mF ok) fun vs H1 ⟨xs, M1, o1, hz, q1⟩ => ?_
  have hl : vs.length = xs.length := o1.use fun _ _ z => z.1.length
  refine ⟨by rw [hl]; exact hz, fun p hp => ?_⟩
  exact ⟨.lst xs, M1, (o1.new (o := .lst vs) (MonoF.and mono_rpl (mono_x mF)) hp).imp fun _ _ z => ⟨rp_lst z.1 z.2.1, z.2.2⟩, q1⟩
/-- a list that will be changed -/
theorem we_lstM {es : List Expr} (h : WA Pm X es M ds fun xs M1 => xs.length ≤ sizeLine ∧ ∀ p, M1 p = none → Q (.raw (.ref p)) (updM M1 p (.lst xs))) : WE Pm X (.List es pos) M ds Q := by
  intro σ H F mF ok
  refine wE_of (pe_lst pa_w) ?_
  refine wA_mono (h σ H F mF ok) fun vs H1 ⟨xs, M1, o1, hz, q1⟩ => ?_
  have hl : vs.length = xs.length := o1.use fun _ _ z => z.1.length
  refine ⟨by rw [hl]; exact hz, fun p hp => ?_⟩
  exact ⟨_, _, (o1.newM (o := .lst vs) (d := .lst xs) hp fun G s z => ⟨vs, rfl, z.1⟩).imp fun _ _ z => ⟨rp_raw, z.2⟩, q1 p (o1.free hp)⟩
theorem we_dictM (q : ∀ p, M p = none → Q (.raw (.ref p)) (updM M p (.dct []))) : WE Pm X (.Dict [] [] pos) M ds Q := by
  intro σ H F mF ok
  refine wE_of pe_dnewK fun p hp => ?_
  exact ⟨_, _, (ok.newM (o := .dK []) (d := .dct []) hp fun G s z => ⟨[], rfl, by simp only [RpK]⟩).imp fun _ _ z => ⟨rp_raw, z⟩, q p (ok.free hp)⟩

/-! ### calls of built-ins -/
theorem we_callB {x : Str} {p : Pos} {es : List Expr} {id : String} (h : WA Pm X (e :: es) M ds fun xs M1 => CallG Pm X (.builtin id) xs M1 Q) (hm : X.mg x = none) (hv : bootBuiltins x = some (.builtin id)) (hg : Gl X x := by rfl) (hn : x ≠ "__name__" := by decide) (hdb : (x == ("__debug__" : Str)) = false := by decide)
    (he : starEach (e :: es) X.env = (false, eval e X.env) :: starEach es X.env := by rfl) (hpl : (backTo pos (starEach es X.env)).any (·.1) = false := by rfl) : WE Pm X (.Call (.Name x p) (e :: es) [] pos) M ds Q := by
  intro σ H F mF ok
  refine wE_of (pe_callB cr_w hg hm hv pa_w hn hdb he hpl) ?_
  refine wA_mono (h σ H F mF ok) fun vs H1 ⟨xs, M1, o1, q1⟩ => q1 vs H1 _ (mono_x mF) o1
theorem we_callTy {x : Str} {p : Pos} {es : List Expr} {T : String} (h : WA Pm X (e :: es) M ds fun xs M1 => CallG Pm X (.type T) xs M1 Q) (hm : X.mg x = none) (hv : bootBuiltins x = some (.type T)) (hg : Gl X x := by rfl) (hn : x ≠ "__name__" := by decide) (hdb : (x == ("__debug__" : Str)) = false := by decide)
    (he : starEach (e :: es) X.env = (false, eval e X.env) :: starEach es X.env := by rfl) (hpl : (backTo pos (starEach es X.env)).any (·.1) = false := by rfl) : WE Pm X (.Call (.Name x p) (e :: es) [] pos) M ds Q := by
  intro σ H F mF ok
  refine wE_of (pe_callTy cr_w hg hm hv pa_w hn hdb he hpl) ?_
  refine wA_mono (h σ H F mF ok) fun vs H1 ⟨xs, M1, o1, q1⟩ => q1 vs H1 _ (mono_x mF) o1
/-- a built-in function that stands under a name of the module (gcd, lcm) -/
theorem we_callG {x : Str} {p : Pos} {es : List Expr} {id : String} (h : WA Pm X (e :: es) M ds fun xs M1 => CallG Pm X (.builtin id) xs M1 Q) (hm : X.mg x = some (.builtin id)) (hg : Gl X x := by rfl) (hdb : (x == ("__debug__" : Str)) = false := by decide)
    (he : starEach (e :: es) X.env = (false, eval e X.env) :: starEach es X.env := by rfl) (hpl : (backTo pos (starEach es X.env)).any (·.1) = false := by rfl) : WE Pm X (.Call (.Name x p) (e :: es) [] pos) M ds Q := by
  intro σ H F mF ok
  refine wE_of (pe_callBfun cr_w hg hm pa_w hdb he hpl) ?_
  refine wA_mono (h σ H F mF ok) fun vs H1 ⟨xs, M1, o1, q1⟩ => q1 vs H1 _ (mono_x mF) o1

/-! ### subscripts and slices -/
abbrev wIx (X : Cx) : R2 := fun x y H Q => ∀ (value slice : Expr) pins s σ v u, Inv X pins σ H s → RelV x v → RelV y u → subscripted slice false v u = operate [v, u] (getItem v u) → wpAny (model X.prog X.w) X.A (subscriptTail value slice v u) (EP X pins σ Q) X.xe s
theorem ix_w : IxR X (wIx X) := fun value slice pins s σ H x y v u Q I r1 r2 h hs => h value slice pins s σ v u I r1 r2 hs
theorem wIx_of {r : R2} (h : IxR X r) {x y : V} {H : Hp} {Q : VK} (q : r x y H Q) : wIx X x y H Q := fun value slice pins s σ v u I r1 r2 hs => h value slice pins s σ H x y v u Q I r1 r2 q hs
def IxG (Pm : Hp → Prop) (X : Cx) (x y : D) (M : Mst) (Q : QD) : Prop := ∀ v u H F, MonoF Pm F → Ok X.K M (fun G => Rp X.K G x v ∧ Rp X.K G y u ∧ F G) H → wIx X v u H (EndE X.K F Q)
theorem we_ix (h : WE Pm X a M ds fun x M1 => WE Pm X b M1 ds fun y M2 => IxG Pm X x y M2 Q) (hs : PlainIx b := by exact fun _ _ => rfl) : WE Pm X (.Subscript a b pos) M ds Q := by
  intro σ H F mF ok
  refine wE_of (pe_ix ix_w pe_w pe_w hs) ?_
  exact run2 mF ok h fun v u H' x y M' ok' q => q v u H' _ (mono_x mF) ok'
theorem RpL.atI {K : PySem.W.Frag} {G : Hp} {xs : List D} {vs : List V} {i : Int} {d : D} (h : RpL K G xs vs) (e : L2.atI xs i = some d) : ∃ v, L2.atI vs i = some v ∧ Rp K G d v := by
  unfold L2.atI at e ⊢
  rw [h.length]
  cases q : ixN xs.length i with
  | none => rw [q] at e; cases e
  | some j =>
    rw [q] at e
    exact h.get e
theorem ix_lst {xs : List D} {i : Int} {d : D} (h : atI xs i = some d) (q : Q d M) : IxG Pm X (.lst xs) (.int i) M Q := by
  intro v u H F mF ⟨G, s, hM, z1, z2, z3⟩
  obtain ⟨p, vs, rfl, h1, h2⟩ := z1.lst_inv
  obtain ⟨w, e1, r⟩ := h2.atI h
  exact wIx_of ix_list ⟨p, vs, i, w, rfl, z2.int_inv, SqL.of (s.at h1), e1, d, M, ⟨G, s, hM, r, z3⟩, q⟩
theorem ix_tupD {xs : List D} {i : Int} {d : D} (h : atI xs i = some d) (q : Q d M) : IxG Pm X (.tup xs) (.int i) M Q := by
  intro v u H F mF ⟨G, s, hM, z1, z2, z3⟩
  obtain ⟨p, vs, rfl, h1, h2⟩ := z1.tup_inv
  obtain ⟨w, e1, r⟩ := h2.atI h
  exact wIx_of ix_tup ⟨p, vs, i, w, rfl, z2.int_inv, sqt_mono s h1, e1, d, M, ⟨G, s, hM, r, z3⟩, q⟩
theorem ix_mlst {p : Addr} {xs : List D} {i : Int} {d : D} (hp : M p = some (.lst xs)) (h : atI xs i = some d) (q : Q d M) : IxG Pm X (.raw (.ref p)) (.int i) M Q := by
  intro v u H F mF ⟨G, s, hM, z1, z2, z3⟩
  cases z1.raw_inv
  obtain ⟨_, vs, h1, h2⟩ := hM p _ hp
  obtain ⟨w, e1, r⟩ := h2.atI h
  exact wIx_of ix_list ⟨p, vs, i, w, rfl, z2.int_inv, SqL.of h1, e1, d, M, ⟨G, s, hM, r, z3⟩, q⟩
/-! slices -/
def cutD (xs : List D) (lo hi : Option Int) : List D := (xs.drop (HT.sIx xs.length 0 lo)).take (HT.sIx xs.length xs.length hi - HT.sIx xs.length 0 lo)
theorem RpL.cut {K : PySem.W.Frag} {G : Hp} {xs : List D} {vs : List V} (h : RpL K G xs vs) (lo hi : Option Int) : RpL K G (cutD xs lo hi) (cutV vs lo hi) := by
  unfold cutD cutV
  rw [h.length]
  exact (h.drop _).take _
end
end DL

/-! DL4: operators, built-ins, slices by data -/
namespace DL
open PySem PySem.Spec L2
open PyProof.Rows hiding St
section
variable {X : Cx} {Pm : Hp → Prop} {M : Mst} {ds : Ds} {Q : QD} {pos : Pos} {a b c e : Expr}

/-! ### two ints -/
theorem bin_II {f : Value → Value → Sem Value} {C : Int → Int → Prop} {g : Int → Int → V} {d : D} (h : OpR X f (rI C g)) {i j : Int} (hc : C i j) (hd : ∀ G, Rp X.K G d (g i j)) (q : Q d M) : BinG Pm X f (.int i) (.int j) M Q := by
  intro v u H F mF ⟨G, s, hM, z1, z2, z3⟩
  exact wOp_of h ⟨i, j, z1.int_inv, z2.int_inv, hc, d, M, ⟨G, s, hM, hd G, z3⟩, q⟩
theorem bin_I0 {f : Value → Value → Sem Value} {g : Int → Int → V} {d : D} (h : OpR X f (rI0 g)) {i j : Int} (hd : ∀ G, Rp X.K G d (g i j)) (q : Q d M) : BinG Pm X f (.int i) (.int j) M Q := by
  intro v u H F mF ⟨G, s, hM, z1, z2, z3⟩
  exact wOp_of h ⟨i, j, z1.int_inv, z2.int_inv, d, M, ⟨G, s, hM, hd G, z3⟩, q⟩
theorem b_add {i j : Int} (q : Q (.int (i + j)) M) : BinG Pm X (binaryOp .Add) (.int i) (.int j) M Q := bin_I0 op_add (fun _ => rp_int) q
theorem b_sub {i j : Int} (q : Q (.int (i - j)) M) : BinG Pm X (binaryOp .Sub) (.int i) (.int j) M Q := bin_I0 op_sub (fun _ => rp_int) q
theorem b_mul {i j : Int} (h : CMul i j) (q : Q (.int (i * j)) M) : BinG Pm X (binaryOp .Mult) (.int i) (.int j) M Q := bin_II op_mul h (fun _ => rp_int) q
theorem b_div {i j : Int} (h : CDiv i j) (q : Q (.int (i / j)) M) : BinG Pm X (binaryOp .FloorDiv) (.int i) (.int j) M Q := bin_II op_fdiv h (fun _ => rp_int) q
theorem b_divW {i j : Int} (h : CDivW i j) (q : Q (.int (i / j)) M) : BinG Pm X (binaryOp .FloorDiv) (.int i) (.int j) M Q := bin_II op_fdivW h (fun _ => rp_int) q
theorem b_mod {i j : Int} (h : 0 < j) (q : Q (.int (i % j)) M) : BinG Pm X (binaryOp .Mod) (.int i) (.int j) M Q := bin_II op_mod h (fun _ => rp_int) q
theorem b_pow {i j : Int} (h : CPow i j) (q : Q (.int (i ^ j.toNat)) M) : BinG Pm X (binaryOp .Pow) (.int i) (.int j) M Q := bin_II op_pow h (fun _ => rp_int) q
theorem b_lt {i j : Int} (q : Q (.bl (decide (i < j))) M) : BinG Pm X (compareOp .Lt) (.int i) (.int j) M Q := bin_I0 op_lt (fun _ => rp_bl) q
theorem b_le {i j : Int} (q : Q (.bl (decide (i ≤ j))) M) : BinG Pm X (compareOp .LtE) (.int i) (.int j) M Q := bin_I0 op_le (fun _ => rp_bl) q
theorem b_gt {i j : Int} (q : Q (.bl (decide (j < i))) M) : BinG Pm X (compareOp .Gt) (.int i) (.int j) M Q := bin_I0 op_gt (fun _ => rp_bl) q
theorem b_ge {i j : Int} (q : Q (.bl (decide (j ≤ i))) M) : BinG Pm X (compareOp .GtE) (.int i) (.int j) M Q := bin_I0 op_ge (fun _ => rp_bl) q
theorem bi_add {i j : Int} (q : Q (.int (i + j)) M) : BinG Pm X (inplaceOp .Add) (.int i) (.int j) M Q := bin_I0 iop_add (fun _ => rp_int) q
theorem bi_sub {i j : Int} (q : Q (.int (i - j)) M) : BinG Pm X (inplaceOp .Sub) (.int i) (.int j) M Q := bin_I0 iop_sub (fun _ => rp_int) q
theorem b_and {i j : Int} (q : Q (.int (Builtin.bitAnd i j)) M) : BinG Pm X (binaryOp .BitAnd) (.int i) (.int j) M Q := bin_I0 op_and (fun _ => rp_int) q
theorem b_or {i j : Int} (q : Q (.int (Builtin.bitOr i j)) M) : BinG Pm X (binaryOp .BitOr) (.int i) (.int j) M Q := bin_I0 op_or (fun _ => rp_int) q
theorem b_xor {i j : Int} (q : Q (.int (Builtin.bitXor i j)) M) : BinG Pm X (binaryOp .BitXor) (.int i) (.int j) M Q := bin_I0 op_xor (fun _ => rp_int) q
theorem b_neg {i : Int} (q : Q (.int (-i)) M) : UnG Pm X (unaryOp .USub) (.int i) M Q := by
  intro v H F mF ⟨G, s, hM, z1, z3⟩
  exact wUn_of un_neg ⟨i, z1.int_inv, _, M, ⟨G, s, hM, rp_int, z3⟩, q⟩

/-! ### lists, tuples, texts added -/
theorem b_addL {xs ys : List D} (hz : xs.length + ys.length ≤ sizeLine) (q : Q (.lst (xs ++ ys)) M) : BinG Pm X (binaryOp .Add) (.lst xs) (.lst ys) M Q := by
  intro v u H F mF ok
  obtain ⟨G, s, hM, z1, z2, z3⟩ := id ok
  obtain ⟨p, vs, rfl, h1, h2⟩ := z1.lst_inv
  obtain ⟨p', ws, rfl, h1', h2'⟩ := z2.lst_inv
  refine wOp_of op_cat ⟨p, p', vs, ws, rfl, rfl, s.at h1, s.at h1', by rw [h2.length, h2'.length]; exact hz, fun r hr => ?_⟩
  have ok2 : Ok X.K M (fun G => RpL X.K G xs vs ∧ RpL X.K G ys ws ∧ F G) H := ⟨G, s, hM, h2, h2', z3⟩
  exact ⟨_, M, (ok2.new (o := .lst (vs ++ ws)) (MonoF.and mono_rpl (MonoF.and mono_rpl mF)) hr).imp fun _ _ z => ⟨rp_lst z.1 (z.2.1.append z.2.2.1), z.2.2.2⟩, q⟩
theorem b_addT {xs ys : List D} (hz : xs.length + ys.length ≤ sizeLine) (q : Q (.tup (xs ++ ys)) M) : BinG Pm X (binaryOp .Add) (.tup xs) (.tup ys) M Q := by
  intro v u H F mF ok
  obtain ⟨G, s, hM, z1, z2, z3⟩ := id ok
  obtain ⟨p, vs, rfl, h1, h2⟩ := z1.tup_inv
  obtain ⟨p', ws, rfl, h1', h2'⟩ := z2.tup_inv
  refine wOp_of op_catA ⟨p, p', vs, ws, rfl, rfl, sqt_mono s h1, sqt_mono s h1', by rw [h2.length, h2'.length]; exact hz, fun e => ?_, fun _ e => ?_, fun _ _ r hr => ?_⟩
  · subst e
    have : xs = [] := List.eq_nil_of_length_eq_zero (by rw [← h2.length]; rfl)
    subst this
    exact ⟨_, M, ⟨G, s, hM, rp_tup h1' h2', z3⟩, q⟩
  · subst e
    have : ys = [] := List.eq_nil_of_length_eq_zero (by rw [← h2'.length]; rfl)
    subst this
    rw [List.append_nil] at q
    exact ⟨_, M, ⟨G, s, hM, rp_tup h1 h2, z3⟩, q⟩
  · have ok2 : Ok X.K M (fun G => RpL X.K G xs vs ∧ RpL X.K G ys ws ∧ F G) H := ⟨G, s, hM, h2, h2', z3⟩
    exact ⟨_, M, (ok2.new (o := .tup (vs ++ ws)) (MonoF.and mono_rpl (MonoF.and mono_rpl mF)) hr).imp fun _ _ z => ⟨rp_tup (SqT.of z.1) (z.2.1.append z.2.2.1), z.2.2.2⟩, q⟩
theorem b_addS {x y : Str} (hz : x.length + y.length ≤ sizeLine) (q : Q (.str (x ++ y)) M) : BinG Pm X (binaryOp .Add) (.str x) (.str y) M Q := by
  intro v u H F mF ⟨G, s, hM, z1, z2, z3⟩
  exact wOp_of op_add_str ⟨x, y, z1.str_inv, z2.str_inv, hz, _, M, ⟨G, s, hM, rp_str, z3⟩, q⟩
theorem RpL.replicate {K : PySem.W.Frag} {G : Hp} {xs : List D} {vs : List V} (h : RpL K G xs vs) : ∀ n, RpL K G (List.replicate n xs).flatten (List.replicate n vs).flatten
  | 0 => RpL.nil
  | n + 1 => by
    rw [List.replicate_succ, List.replicate_succ, List.flatten_cons, List.flatten_cons]
    exact h.append (RpL.replicate h n)
theorem b_mulL {xs : List D} {k : Int} (h1 : -(2 ^ 63) ≤ k) (h2 : k < 2 ^ 63) (hz : xs.length * k.toNat ≤ sizeLine) (q : Q (.lst (List.replicate k.toNat xs).flatten) M) : BinG Pm X (binaryOp .Mult) (.lst xs) (.int k) M Q := by
  intro v u H F mF ok
  obtain ⟨G, s, hM, z1, z2, z3⟩ := id ok
  obtain ⟨p, vs, rfl, g1, g2⟩ := z1.lst_inv
  refine wOp_of op_rep ⟨p, k, vs, rfl, z2.int_inv, s.at g1, h1, h2, by rw [g2.length]; exact hz, fun r hr => ?_⟩
  have ok2 : Ok X.K M (fun G => RpL X.K G xs vs ∧ F G) H := ⟨G, s, hM, g2, z3⟩
  exact ⟨_, M, (ok2.new (o := .lst _) (MonoF.and mono_rpl mF) hr).imp fun _ _ z => ⟨rp_lst z.1 (z.2.1.replicate _), z.2.2⟩, q⟩

/-! ### equality of data -/
mutual
/-- as plain data, where it is -/
def pd : D → Option PyData
  | .non => some .none
  | .bl b => some (.bool b)
  | .int i => some (.int i)
  | .str x => some (.str x)
  | .lst xs => (pds xs).map .list
  | .tup xs => (pds xs).map .tuple
  | _ => none
def pds : List D → Option (List PyData)
  | [] => some []
  | d :: ds => (pd d).bind fun x => (pds ds).map fun xs => x :: xs
end
theorem pds_nil : pds [] = some [] := by simp only [pds]
theorem pds_cons_inv {d : D} {ds : List D} {y : List PyData} (h : pds (d :: ds) = some y) : ∃ x xs, pd d = some x ∧ pds ds = some xs ∧ y = x :: xs := by
  simp only [pds] at h
  cases e : pd d with
  | none => rw [e] at h; cases h
  | some x =>
    rw [e] at h
    cases e2 : pds ds with
    | none => rw [e2] at h; cases h
    | some xs =>
      rw [e2] at h
      cases h
      exact ⟨x, xs, rfl, rfl, rfl⟩
mutual
theorem dp_of {K : PySem.W.Frag} {G H : Hp} (s : Le G H) : ∀ {d : D} {v : V} {x : PyData}, Rp K G d v → pd d = some x → Dp K H v x
  | .non, v, x, r, h => by
    cases r.non_inv
    simp only [pd] at h
    cases h
    exact .non
  | .bl b, v, x, r, h => by
    cases r.bl_inv
    simp only [pd] at h
    cases h
    exact .bl b
  | .int i, v, x, r, h => by
    cases r.int_inv
    simp only [pd] at h
    cases h
    exact .int i
  | .str y, v, x, r, h => by
    cases r.str_inv
    simp only [pd] at h
    cases h
    exact .str y
  | .lst xs, v, x, r, h => by
    obtain ⟨p, vs, rfl, h1, h2⟩ := r.lst_inv
    simp only [pd] at h
    cases e : pds xs with
    | none => rw [e] at h; cases h
    | some ys =>
      rw [e] at h
      cases h
      exact .lst (SqL.of (s.at h1)) (dps_of s h2 e)
  | .tup xs, v, x, r, h => by
    obtain ⟨p, vs, rfl, h1, h2⟩ := r.tup_inv
    simp only [pd] at h
    cases e : pds xs with
    | none => rw [e] at h; cases h
    | some ys =>
      rw [e] at h
      cases h
      exact .tup (sqt_mono s h1) (dps_of s h2 e)
  | .dct _, _, _, _, h => by simp [pd] at h
  | .dctT _, _, _, _, h => by simp [pd] at h
  | .obj _ _, _, _, _, h => by simp [pd] at h
  | .raw _, _, _, _, h => by simp [pd] at h
  | .own _, _, _, _, h => by simp [pd] at h
  | .xo _ _ _, _, _, _, h => by simp [pd] at h
  | .xf _ _, _, _, _, h => by simp [pd] at h
  | .klst _, _, _, _, h => by simp [pd] at h
theorem dps_of {K : PySem.W.Frag} {G H : Hp} (s : Le G H) : ∀ {d : List D} {v : List V} {x : List PyData}, RpL K G d v → pds d = some x → DpAll K H v x
  | [], v, x, r, h => by
    cases r.nil_inv
    rw [pds_nil] at h
    cases h
    exact .nil
  | d :: ds, v, x, r, h => by
    obtain ⟨w, rs, rfl, r1, r2⟩ := r.cons_inv
    obtain ⟨y, ys, e1, e2, rfl⟩ := pds_cons_inv h
    exact .cons (dp_of s r1 e1) (dps_of s r2 e2)
end
theorem b_eqD (hr : X.A.units + 64 < cLine) {x y : D} {p q : PyData} {k : Bool} (h1 : pd x = some p) (h2 : pd y = some q) (s1 : SeqAt.shaped p = true) (s2 : SeqAt.shaped q = true) (hk : PyData.eqv p q = k) (hq : Q (.bl k) M) : BinG Pm X (compareOp .Eq) x y M Q := by
  intro v u H F mF ⟨G, s, hM, z1, z2, z3⟩
  exact wOp_of (op_eqD hr) ⟨p, q, dp_of s z1 h1, dp_of s z2 h2, s1, s2, .bl k, M, ⟨G, s, hM, by rw [hk]; exact rp_bl, z3⟩, hq⟩
theorem b_neD (hr : X.A.units + 64 < cLine) {x y : D} {p q : PyData} {k : Bool} (h1 : pd x = some p) (h2 : pd y = some q) (s1 : SeqAt.shaped p = true) (s2 : SeqAt.shaped q = true) (hk : PyData.eqv p q = k) (hq : Q (.bl (!k)) M) : BinG Pm X (compareOp .NotEq) x y M Q := by
  intro v u H F mF ⟨G, s, hM, z1, z2, z3⟩
  exact wOp_of (op_neD hr) ⟨p, q, dp_of s z1 h1, dp_of s z2 h2, s1, s2, .bl (!k), M, ⟨G, s, hM, by rw [hk]; exact rp_bl, z3⟩, hq⟩
theorem b_isN {x : D} {k : Bool} (hx : ∀ G v, Rp X.K G x v → decide (v = .non) = k) (q : Q (.bl k) M) : BinG Pm X (compareOp .Is) x .non M Q := by
  intro v u H F mF ⟨G, s, hM, z1, z2, z3⟩
  exact wOp_of op_isN ⟨z2.non_inv, .bl k, M, ⟨G, s, hM, by rw [hx G v z1]; exact rp_bl, z3⟩, q⟩
theorem b_notN {x : D} {k : Bool} (hx : ∀ G v, Rp X.K G x v → decide (v = .non) = k) (q : Q (.bl (!k)) M) : BinG Pm X (compareOp .IsNot) x .non M Q := by
  intro v u H F mF ⟨G, s, hM, z1, z2, z3⟩
  exact wOp_of op_notN ⟨z2.non_inv, .bl (!k), M, ⟨G, s, hM, by rw [hx G v z1]; exact rp_bl, z3⟩, q⟩
theorem nonN {K : PySem.W.Frag} {G : Hp} {v : V} (h : Rp K G .non v) : decide (v = .non) = true := by rw [h.non_inv]; rfl
theorem nonI {K : PySem.W.Frag} {G : Hp} {i : Int} {v : V} (h : Rp K G (.int i) v) : decide (v = .non) = false := by rw [h.int_inv]; rfl
theorem nonT {K : PySem.W.Frag} {G : Hp} {i : List D} {v : V} (h : Rp K G (.tup i) v) : decide (v = .non) = false := by obtain ⟨p, vs, rfl, _⟩ := h.tup_inv; rfl
theorem nonL {K : PySem.W.Frag} {G : Hp} {i : List D} {v : V} (h : Rp K G (.lst i) v) : decide (v = .non) = false := by obtain ⟨p, vs, rfl, _⟩ := h.lst_inv; rfl
theorem b_isB {x y : Bool} (q : Q (.bl (decide (x = y))) M) : BinG Pm X (compareOp .Is) (.bl x) (.bl y) M Q := by
  intro v u H F mF ⟨G, s, hM, z1, z2, z3⟩
  exact wOp_of op_isBl ⟨x, y, z1.bl_inv, z2.bl_inv, _, M, ⟨G, s, hM, rp_bl, z3⟩, q⟩
theorem b_notB {x y : Bool} (q : Q (.bl (!decide (x = y))) M) : BinG Pm X (compareOp .IsNot) (.bl x) (.bl y) M Q := by
  intro v u H F mF ⟨G, s, hM, z1, z2, z3⟩
  exact wOp_of op_notBl ⟨x, y, z1.bl_inv, z2.bl_inv, _, M, ⟨G, s, hM, rp_bl, z3⟩, q⟩

/-! ### in, not in, of a list or tuple of ints -/
abbrev dI (ns : List Int) : List D := ns.map D.int
theorem RpL.ints {K : PySem.W.Frag} {G : Hp} : ∀ {ns : List Int} {vs : List V}, RpL K G (ns.map D.int) vs → vs = ns.map V.int
  | [], _, h => by cases h.nil_inv; rfl
  | n :: ns, _, h => by
    obtain ⟨v, r, rfl, h1, h2⟩ := RpL.cons_inv h
    rw [h1.int_inv, RpL.ints h2]
    rfl
theorem rpl_ints {K : PySem.W.Frag} {G : Hp} : ∀ {ns : List Int}, RpL K G (ns.map D.int) (ns.map V.int)
  | [] => RpL.nil
  | n :: ns => RpL.cons rp_int rpl_ints
theorem flat_ints (ns : List Int) : (ns.map V.int).all flatV = true := by
  rw [List.all_map]
  exact List.all_eq_true.mpr fun _ _ => rfl
theorem inV_ints (i : Int) (ns : List Int) : inV (.int i) (ns.map V.int) = decide (i ∈ ns) := by
  unfold inV
  rw [List.any_map]
  apply Bool.eq_iff_iff.mpr
  simp [List.any_eq_true, eqV]
theorem b_in {i : Int} {ns : List Int} (q : Q (.bl (decide (i ∈ ns))) M) : BinG Pm X (compareOp .In) (.int i) (.lst (ns.map D.int)) M Q := by
  intro v u H F mF ⟨G, s, hM, z1, z2, z3⟩
  obtain ⟨p, vs, rfl, h1, h2⟩ := z2.lst_inv
  cases h2.ints
  cases z1.int_inv
  exact wOp_of op_in_seq ⟨p, _, rfl, .inl (SqL.of (s.at h1)), rfl, flat_ints ns, _, M, ⟨G, s, hM, by rw [if_neg Bool.false_ne_true, inV_ints]; exact rp_bl, z3⟩, q⟩
theorem b_notin {i : Int} {ns : List Int} (q : Q (.bl (!decide (i ∈ ns))) M) : BinG Pm X (compareOp .NotIn) (.int i) (.lst (ns.map D.int)) M Q := by
  intro v u H F mF ⟨G, s, hM, z1, z2, z3⟩
  obtain ⟨p, vs, rfl, h1, h2⟩ := z2.lst_inv
  cases h2.ints
  cases z1.int_inv
  exact wOp_of op_notIn_seq ⟨p, _, rfl, .inl (SqL.of (s.at h1)), rfl, flat_ints ns, _, M, ⟨G, s, hM, by rw [if_pos rfl, inV_ints]; exact rp_bl, z3⟩, q⟩

/-! ### built-ins -/
theorem RpL.one_inv {K : PySem.W.Frag} {G : Hp} {d : D} {vs : List V} (h : RpL K G [d] vs) : ∃ v, vs = [v] ∧ Rp K G d v := by
  obtain ⟨v, r, rfl, h1, h2⟩ := h.cons_inv
  cases h2.nil_inv
  exact ⟨v, rfl, h1⟩
theorem RpL.two_inv {K : PySem.W.Frag} {G : Hp} {d e : D} {vs : List V} (h : RpL K G [d, e] vs) : ∃ v w, vs = [v, w] ∧ Rp K G d v ∧ Rp K G e w := by
  obtain ⟨v, r, rfl, h1, h2⟩ := h.cons_inv
  obtain ⟨w, rfl, h3⟩ := h2.one_inv
  exact ⟨v, w, rfl, h1, h3⟩
theorem c_len {xs : List D} (q : Q (.int xs.length) M) : CallG Pm X (.builtin "len") [.lst xs] M Q := by
  intro vs H F mF ⟨G, s, hM, z1, z3⟩
  obtain ⟨v, rfl, r⟩ := z1.one_inv
  obtain ⟨p, ws, rfl, h1, h2⟩ := r.lst_inv
  exact wCall_of call_len_seq ⟨p, ws, rfl, .inl (SqL.of (s.at h1)), _, M, ⟨G, s, hM, by rw [h2.length]; exact rp_int, z3⟩, q⟩
theorem c_lenT {xs : List D} (q : Q (.int xs.length) M) : CallG Pm X (.builtin "len") [.tup xs] M Q := by
  intro vs H F mF ⟨G, s, hM, z1, z3⟩
  obtain ⟨v, rfl, r⟩ := z1.one_inv
  obtain ⟨p, ws, rfl, h1, h2⟩ := r.tup_inv
  exact wCall_of call_len_seq ⟨p, ws, rfl, .inr (sqt_mono s h1), _, M, ⟨G, s, hM, by rw [h2.length]; exact rp_int, z3⟩, q⟩
theorem c_lenM {p : Addr} {xs : List D} (hp : M p = some (.lst xs)) (q : Q (.int xs.length) M) : CallG Pm X (.builtin "len") [.raw (.ref p)] M Q := by
  intro vs H F mF ⟨G, s, hM, z1, z3⟩
  obtain ⟨v, rfl, r⟩ := z1.one_inv
  cases r.raw_inv
  obtain ⟨_, ws, h1, h2⟩ := hM p _ hp
  exact wCall_of call_len_seq ⟨p, ws, rfl, .inl (SqL.of h1), _, M, ⟨G, s, hM, by rw [h2.length]; exact rp_int, z3⟩, q⟩
theorem c_lenS {x : Str} (hz : x.length ≤ sizeLine) (q : Q (.int x.length) M) : CallG Pm X (.builtin "len") [.str x] M Q := by
  intro vs H F mF ⟨G, s, hM, z1, z3⟩
  obtain ⟨v, rfl, r⟩ := z1.one_inv
  cases r.str_inv
  exact wCall_of call_len_str ⟨x, rfl, hz, _, M, ⟨G, s, hM, rp_int, z3⟩, q⟩
theorem c_int {i : Int} (q : Q (.int i) M) : CallG Pm X (.type "int") [.int i] M Q := by
  intro vs H F mF ⟨G, s, hM, z1, z3⟩
  obtain ⟨v, rfl, r⟩ := z1.one_inv
  cases r.int_inv
  exact wCall_of call_int1 (.inl ⟨i, rfl, _, M, ⟨G, s, hM, rp_int, z3⟩, q⟩)
theorem c_intB {k : Bool} (q : Q (.int (if k then 1 else 0)) M) : CallG Pm X (.type "int") [.bl k] M Q := by
  intro vs H F mF ⟨G, s, hM, z1, z3⟩
  obtain ⟨v, rfl, r⟩ := z1.one_inv
  cases r.bl_inv
  exact wCall_of call_int1 (.inr ⟨k, rfl, _, M, ⟨G, s, hM, rp_int, z3⟩, q⟩)
theorem c_abs {i : Int} (q : Q (.int (if i < 0 then -i else i)) M) : CallG Pm X (.builtin "abs") [.int i] M Q := by
  intro vs H F mF ⟨G, s, hM, z1, z3⟩
  obtain ⟨v, rfl, r⟩ := z1.one_inv
  cases r.int_inv
  exact wCall_of call_abs ⟨i, rfl, _, M, ⟨G, s, hM, rp_int, z3⟩, q⟩
theorem c_str {i : Int} (h : i.natAbs.log2 < 1920) (q : Q (.str (toString i : Str)) M) : CallG Pm X (.type "str") [.int i] M Q := by
  intro vs H F mF ⟨G, s, hM, z1, z3⟩
  obtain ⟨v, rfl, r⟩ := z1.one_inv
  cases r.int_inv
  exact wCall_of call_str_int ⟨i, rfl, h, _, M, ⟨G, s, hM, rp_str, z3⟩, q⟩
theorem c_max2 (hc : X.calm = true) {i j : Int} (q : Q (.int (if j > i then j else i)) M) : CallG Pm X (.builtin "max") [.int i, .int j] M Q := by
  intro vs H F mF ⟨G, s, hM, z1, z3⟩
  obtain ⟨v, w, rfl, r1, r2⟩ := z1.two_inv
  cases r1.int_inv
  cases r2.int_inv
  exact wCall_of (call_max2 hc) ⟨i, j, rfl, _, M, ⟨G, s, hM, rp_int, z3⟩, q⟩
theorem c_min2 (hc : X.calm = true) {i j : Int} (q : Q (.int (if j < i then j else i)) M) : CallG Pm X (.builtin "min") [.int i, .int j] M Q := by
  intro vs H F mF ⟨G, s, hM, z1, z3⟩
  obtain ⟨v, w, rfl, r1, r2⟩ := z1.two_inv
  cases r1.int_inv
  cases r2.int_inv
  exact wCall_of (call_min2 hc) ⟨i, j, rfl, _, M, ⟨G, s, hM, rp_int, z3⟩, q⟩
theorem c_maxL (hc : X.calm = true) {ns : List Int} (h : 0 < ns.length) (q : ∀ m, m ∈ ns → (∀ y ∈ ns, y ≤ m) → Q (.int m) M) : CallG Pm X (.builtin "max") [.lst (ns.map D.int)] M Q := by
  intro vs H F mF ⟨G, s, hM, z1, z3⟩
  obtain ⟨v, rfl, r⟩ := z1.one_inv
  obtain ⟨p, ws, rfl, h1, h2⟩ := r.lst_inv
  cases h2.ints
  exact wCall_of (cr_max hc) ⟨p, ns, rfl, SqL.of (s.at h1), h, fun m hm hy => ⟨_, M, ⟨G, s, hM, rp_int, z3⟩, q m hm hy⟩⟩
theorem c_minL (hc : X.calm = true) {ns : List Int} (h : 0 < ns.length) (q : ∀ m, m ∈ ns → (∀ y ∈ ns, m ≤ y) → Q (.int m) M) : CallG Pm X (.builtin "min") [.lst (ns.map D.int)] M Q := by
  intro vs H F mF ⟨G, s, hM, z1, z3⟩
  obtain ⟨v, rfl, r⟩ := z1.one_inv
  obtain ⟨p, ws, rfl, h1, h2⟩ := r.lst_inv
  cases h2.ints
  exact wCall_of (cr_min hc) ⟨p, ns, rfl, SqL.of (s.at h1), h, fun m hm hy => ⟨_, M, ⟨G, s, hM, rp_int, z3⟩, q m hm hy⟩⟩
theorem c_sum (hc : X.calm = true) {ns : List Int} (q : Q (.int ns.sum) M) : CallG Pm X (.builtin "sum") [.lst (ns.map D.int)] M Q := by
  intro vs H F mF ⟨G, s, hM, z1, z3⟩
  obtain ⟨v, rfl, r⟩ := z1.one_inv
  obtain ⟨p, ws, rfl, h1, h2⟩ := r.lst_inv
  cases h2.ints
  exact wCall_of (cr_sum hc) ⟨p, ns, rfl, SqL.of (s.at h1), _, M, ⟨G, s, hM, rp_int, z3⟩, q⟩
/-- list(xs), of a list or a tuple: frozen -/
theorem c_list {xs : List D} (q : Q (.lst xs) M) : CallG Pm X (.type "list") [.lst xs] M Q := by
  intro vs H F mF ⟨G, s, hM, z1, z3⟩
  obtain ⟨v, rfl, r⟩ := z1.one_inv
  obtain ⟨p, ws, rfl, h1, h2⟩ := r.lst_inv
  refine wCall_of call_list_of ⟨p, ws, rfl, .inl (SqL.of (s.at h1)), fun l hl => ?_⟩
  have ok2 : Ok X.K M (fun G => RpL X.K G xs ws ∧ F G) H := ⟨G, s, hM, h2, z3⟩
  exact ⟨_, M, (ok2.new (o := .lst ws) (MonoF.and mono_rpl mF) hl).imp fun _ _ z => ⟨rp_lst z.1 z.2.1, z.2.2⟩, q⟩
theorem c_listT {xs : List D} (q : Q (.lst xs) M) : CallG Pm X (.type "list") [.tup xs] M Q := by
  intro vs H F mF ⟨G, s, hM, z1, z3⟩
  obtain ⟨v, rfl, r⟩ := z1.one_inv
  obtain ⟨p, ws, rfl, h1, h2⟩ := r.tup_inv
  refine wCall_of call_list_of ⟨p, ws, rfl, .inr (sqt_mono s h1), fun l hl => ?_⟩
  have ok2 : Ok X.K M (fun G => RpL X.K G xs ws ∧ F G) H := ⟨G, s, hM, h2, z3⟩
  exact ⟨_, M, (ok2.new (o := .lst ws) (MonoF.and mono_rpl mF) hl).imp fun _ _ z => ⟨rp_lst z.1 z.2.1, z.2.2⟩, q⟩
/-- list(xs) that will be changed -/
theorem c_listM {xs : List D} (q : ∀ l, M l = none → Q (.raw (.ref l)) (updM M l (.lst xs))) : CallG Pm X (.type "list") [.lst xs] M Q := by
  intro vs H F mF ok
  obtain ⟨G, s, hM, z1, z3⟩ := id ok
  obtain ⟨v, rfl, r⟩ := z1.one_inv
  obtain ⟨p, ws, rfl, h1, h2⟩ := r.lst_inv
  refine wCall_of call_list_of ⟨p, ws, rfl, .inl (SqL.of (s.at h1)), fun l hl => ?_⟩
  have ok2 : Ok X.K M (fun G => RpL X.K G xs ws ∧ F G) H := ⟨G, s, hM, h2, z3⟩
  exact ⟨_, _, (ok2.newM (o := .lst ws) (d := .lst xs) hl fun _ _ z => ⟨ws, rfl, z.1⟩).imp fun _ _ z => ⟨rp_raw, z.2⟩, q l (ok.free hl)⟩
theorem c_tuple {xs : List D} (q : Q (.tup xs) M) : CallG Pm X (.type "tuple") [.lst xs] M Q := by
  intro vs H F mF ⟨G, s, hM, z1, z3⟩
  obtain ⟨v, rfl, r⟩ := z1.one_inv
  obtain ⟨p, ws, rfl, h1, h2⟩ := r.lst_inv
  refine wCall_of call_tuple_of ⟨p, ws, rfl, .inl ⟨SqL.of (s.at h1), fun l hl => ?_⟩⟩
  have ok2 : Ok X.K M (fun G => RpL X.K G xs ws ∧ F G) H := ⟨G, s, hM, h2, z3⟩
  exact ⟨_, M, (ok2.new (o := .tup ws) (MonoF.and mono_rpl mF) hl).imp fun _ _ z => ⟨rp_tup (SqT.of z.1) z.2.1, z.2.2⟩, q⟩
theorem c_tupleT {xs : List D} (q : Q (.tup xs) M) : CallG Pm X (.type "tuple") [.tup xs] M Q := by
  intro vs H F mF ⟨G, s, hM, z1, z3⟩
  obtain ⟨v, rfl, r⟩ := z1.one_inv
  obtain ⟨p, ws, rfl, h1, h2⟩ := r.tup_inv
  exact wCall_of call_tuple_of ⟨p, ws, rfl, .inr ⟨sqt_mono s h1, _, M, ⟨G, s, hM, rp_tup h1 h2, z3⟩, q⟩⟩
theorem c_sortedI {ns : List Int} (q : ∀ ns' : List Int, ns'.Perm ns → ns'.Pairwise (· ≤ ·) → Q (.lst (ns'.map D.int)) M) : CallG Pm X (.builtin "sorted") [.lst (ns.map D.int)] M Q := by
  intro vs H F mF ⟨G, s, hM, z1, z3⟩
  obtain ⟨v, rfl, r⟩ := z1.one_inv
  obtain ⟨p, ws, rfl, h1, h2⟩ := r.lst_inv
  cases h2.ints
  refine wCall_of cr_sortedI ⟨p, ns, rfl, SqL.of (s.at h1), fun ns' l hp ho hl => ?_⟩
  have ok2 : Ok X.K M F H := ⟨G, s, hM, z3⟩
  exact ⟨_, M, (ok2.new (o := .lst _) mF hl).imp fun _ _ z => ⟨rp_lst z.1 rpl_ints, z.2⟩, q ns' hp ho⟩
/-- a set of ints, those of ns -/
def setP (w : World) (ns : List Int) : Addr → HO → Prop := fun a o => ∃ n, n ≤ ns.length ∧ o = SetO w a (fun j => decide (j ∈ ns)) n
theorem nd_ext {φ : Heap → Prop} : Nd (.ext φ) := ⟨rfl, (fun _ h => by cases h), (fun _ h => by cases h)⟩
theorem c_set (hc : X.calm = true) {ns : List Int} (h : ns.length ≤ 4000) (q : Q (.own (setP X.w ns)) M) : CallG Pm X (.type "set") [.lst (ns.map D.int)] M Q := by
  intro vs H F mF ⟨G, s, hM, z1, z3⟩
  obtain ⟨v, rfl, r⟩ := z1.one_inv
  obtain ⟨p, ws, rfl, h1, h2⟩ := r.lst_inv
  cases h2.ints
  refine wCall_of (DLs.cr_setL hc) ⟨p, ns, rfl, SqL.of (s.at h1), h, fun r n hr hn => ?_⟩
  have ok2 : Ok X.K M F H := ⟨G, s, hM, z3⟩
  exact ⟨_, M, (ok2.new mF hr).imp fun _ _ z => ⟨rp_own z.1 nd_ext ⟨n, hn, rfl⟩, z.2⟩, q⟩
/-- sorted(set): below 64 different ones -/
theorem nodup_len {l : List Int} (h : l.Nodup) {m : List Int} (hs : ∀ k, k ∈ l → k ∈ m) : l.length ≤ m.length := by
  induction l generalizing m with
  | nil => exact Nat.zero_le _
  | cons a l ih =>
    obtain ⟨h1, h2⟩ := List.nodup_cons.mp h
    have ha : a ∈ m := hs a List.mem_cons_self
    have := ih h2 (m := m.erase a) fun k hk => (List.mem_erase_of_ne (fun e => h1 (by rw [← e]; exact hk))).mpr (hs k (List.mem_cons_of_mem _ hk))
    rw [List.length_erase_of_mem ha] at this
    have : 0 < m.length := List.length_pos_of_mem ha
    simp only [List.length_cons]
    omega
theorem setR_count {w : World} {h : Heap} {a : Addr} {S : Int → Bool} {n : Nat} (R : SetR w h a S n) : ∃ l : List Int, l.Nodup ∧ l.length = n ∧ ∀ k, k ∈ l ↔ S k = true := by
  obtain ⟨o, es, ep, t, ho, _, _, _, nd, hm, _, _, hn, _⟩ := R
  exact ⟨es.toList.map keyOf, nd, by rw [List.length_map, Array.length_toList]; exact hn, fun k => (hm k).symm⟩
theorem c_sortedSet (hc : X.calm = true) {ns ms : List Int} (hms : ∀ k, k ∈ ns → k ∈ ms) (hl : ms.length < 64)
    (q : ∀ ns' : List Int, ns'.Pairwise (· < ·) → (∀ k, k ∈ ns' ↔ k ∈ ns) → Q (.lst (ns'.map D.int)) M) : CallG Pm X (.builtin "sorted") [.own (setP X.w ns)] M Q := by
  intro vs H F mF ⟨G, s, hM, z1, z3⟩
  obtain ⟨v, rfl, r⟩ := z1.one_inv
  obtain ⟨p, o, rfl, h1, h2, n, hn, rfl⟩ := r.own_inv
  have hH : H p = some (SetO X.w p (fun j => decide (j ∈ ns)) n) := s.at h1 h2.1 h2.2.1 h2.2.2
  intro pins st σ us I rv
  obtain ⟨l, nl, ll, hk⟩ := setR_count (setO_get I hH)
  have hn64 : n < 64 := by
    have := nodup_len nl (m := ms) fun k h => hms k (by simpa using (hk k).mp h)
    omega
  refine wCall_of (cr_sortedSet hc) ⟨p, _, n, rfl, hH, hn64, fun ns' l hp ho _ hl => ?_⟩ pins st σ us I rv
  have ok2 : Ok X.K M F H := ⟨G, s, hM, z3⟩
  exact ⟨_, M, (ok2.new (o := .lst _) mF hl).imp fun _ _ z => ⟨rp_lst z.1 rpl_ints, z.2⟩, q ns' hp fun k => by rw [ho k]; simp⟩
theorem c_gcd {i j : Int} (q : Q (.int ((Nat.gcd i.natAbs j.natAbs : Nat) : Int)) M) : CallG Pm X (.builtin "math.gcd") [.int i, .int j] M Q := by
  intro vs H F mF ⟨G, s, hM, z1, z3⟩
  obtain ⟨v, w, rfl, r1, r2⟩ := z1.two_inv
  cases r1.int_inv
  cases r2.int_inv
  exact wCall_of cr_gcd ⟨i, j, rfl, _, M, ⟨G, s, hM, rp_int, z3⟩, q⟩
def rLcm : List V → Hp → VK → Prop := fun vs H Q => ∃ a b : Int, vs = [.int a, .int b] ∧ (a.natAbs < 2 ^ 64 ∧ b.natAbs < 2 ^ 64) ∧ Q (.int ((Nat.lcm a.natAbs b.natAbs : Nat) : Int)) H
theorem cr_lcm : CallR X (.builtin "math.lcm") rLcm := by
  intro pins s σ H vs us Q I r h
  obtain ⟨a, b, rfl, ⟨h1, h2⟩, q⟩ := h
  obtain ⟨t, u, rfl⟩ := Vals.int2 r
  refine PySem.W.mg_lcm_v (c := ((Nat.lcm a.natAbs b.natAbs : Nat) : Int)) h1 h2 (by rw [Nat.lcm_one_left]) ?_ ⟨.int _, H, I.tok _, ⟨_, rfl⟩, q⟩
  have e1 : Nat.lcm a.natAbs b.natAbs ≤ a.natAbs * b.natAbs := by
    unfold Nat.lcm
    exact Nat.div_le_self _ _
  have e2 : a.natAbs * b.natAbs < 2 ^ 64 * 2 ^ 64 := Nat.mul_lt_mul'' h1 h2
  have e3 : Nat.lcm a.natAbs b.natAbs < 2 ^ 128 := by
    have : (2:Nat) ^ 64 * 2 ^ 64 = 2 ^ 128 := by decide
    omega
  have e4 : (((Nat.lcm a.natAbs b.natAbs : Nat) : Int)).natAbs = Nat.lcm a.natAbs b.natAbs := Int.natAbs_natCast _
  rw [e4]
  have e5 : (Nat.lcm a.natAbs b.natAbs).log2 < 128 := PySem.Flt.log2_lt_of (by decide) e3
  have e6 : bitsLine = 134217728 := by decide
  omega
theorem c_lcm {i j : Int} (h1 : i.natAbs < 2 ^ 64) (h2 : j.natAbs < 2 ^ 64) (q : Q (.int ((Nat.lcm i.natAbs j.natAbs : Nat) : Int)) M) : CallG Pm X (.builtin "math.lcm") [.int i, .int j] M Q := by
  intro vs H F mF ⟨G, s, hM, z1, z3⟩
  obtain ⟨v, w, rfl, r1, r2⟩ := z1.two_inv
  cases r1.int_inv
  cases r2.int_inv
  exact wCall_of cr_lcm ⟨i, j, rfl, ⟨h1, h2⟩, _, M, ⟨G, s, hM, rp_int, z3⟩, q⟩
end
end DL

/-! DL5: statements, loops, comprehensions over data -/
namespace DL
open PySem PySem.Spec L2
open PyProof.Rows hiding St
section
variable {X : Cx} {Pm : Hp → Prop} {M : Mst} {ds : Ds} {Q : QD} {pos : Pos} {a b c e : Expr} {Dn : EndD}

/-! ### blocks, plain statements -/
theorem wss_nil (q : Dn.nx ds M) : WSs Pm X [] M ds Dn := fun σ H F mF ok => wSs_of pss_nil ⟨ds, M, ok, q⟩
theorem wss_cons {st : Stmt} {r : List Stmt} (h : WS Pm X st M ds { Dn with nx := fun ds1 M1 => WSs Pm X r M1 ds1 Dn }) : WSs Pm X (st :: r) M ds Dn := by
  intro σ H F mF ok
  refine wSs_of (pss_cons ps_w pss_w) ?_
  refine wS_mono (h σ H F mF ok) (fun σ' H' ⟨ds1, M1, o1, q1⟩ => q1 σ' H' F mF o1) (fun _ _ z => z) (fun _ _ z => z) (fun _ _ z => z)
theorem wss_one {st : Stmt} (h : WS Pm X st M ds Dn) : WSs Pm X [st] M ds Dn := fun σ H F mF ok => wSs_of (pss_one ps_w) (h σ H F mF ok)
theorem WSs.mono {st : List Stmt} {D1 D2 : EndD} (h : WSs Pm X st M ds D1) (h1 : ∀ ds M, D1.nx ds M → D2.nx ds M) (h2 : ∀ d M, D1.rt d M → D2.rt d M) (h3 : ∀ ds M, D1.bk ds M → D2.bk ds M) (h4 : ∀ ds M, D1.ct ds M → D2.ct ds M) : WSs Pm X st M ds D2 :=
  fun σ H F mF ok => wSs_mono (h σ H F mF ok) (fun _ _ ⟨d, m, o, q⟩ => ⟨d, m, o, h1 _ _ q⟩) (fun _ _ ⟨d, m, o, q⟩ => ⟨d, m, o, h2 _ _ q⟩) (fun _ _ ⟨d, m, o, q⟩ => ⟨d, m, o, h3 _ _ q⟩) (fun _ _ ⟨d, m, o, q⟩ => ⟨d, m, o, h4 _ _ q⟩)
/-- a block, then what is behind it, told once -/
theorem wss_cut {st : Stmt} {r : List Stmt} (Mid : Ds → Mst → Prop) (h : WS Pm X st M ds { Dn with nx := Mid }) (k : ∀ ds1 M1, Mid ds1 M1 → WSs Pm X r M1 ds1 Dn) : WSs Pm X (st :: r) M ds Dn := by
  intro σ H F mF ok
  refine wSs_of (pss_cons ps_w pss_w) ?_
  refine wS_mono (h σ H F mF ok) (fun σ' H' ⟨ds1, M1, o1, q1⟩ => k _ _ q1 σ' H' F mF o1) (fun _ _ z => z) (fun _ _ z => z) (fun _ _ z => z)
theorem ws_pass (q : Dn.nx ds M) : WS Pm X (.Pass pos) M ds Dn := fun σ H F mF ok => wS_of ps_pass ⟨ds, M, ok, q⟩
theorem ws_break (q : Dn.bk ds M) : WS Pm X (.Break pos) M ds Dn := fun σ H F mF ok => wS_of ps_break ⟨ds, M, ok, q⟩
theorem ws_continue (q : Dn.ct ds M) : WS Pm X (.Continue pos) M ds Dn := fun σ H F mF ok => wS_of ps_continue ⟨ds, M, ok, q⟩
theorem ws_expr (h : WE Pm X e M ds fun _ M1 => Dn.nx ds M1) (hs : swapsWith e none pos.line X.env = pure false := by rfl) : WS Pm X (.Expr e pos) M ds Dn := by
  intro σ H F mF ok
  refine wS_of (ps_expr pe_w hs) ?_
  exact wE_mono (h σ H F mF ok) fun v H1 ⟨d, M1, o1, q⟩ => ⟨ds, M1, o1.imp fun _ _ z => z.2, q⟩
theorem ws_ret (h : WE Pm X e M ds Dn.rt) : WS Pm X (.Return (some e) pos) M ds Dn := by
  intro σ H F mF ok
  refine wS_of (ps_ret pe_w) ?_
  exact wE_mono (h σ H F mF ok) fun v H1 ⟨d, M1, o1, q⟩ => ⟨d, M1, o1.imp fun _ _ z => ⟨z.1, z.2.2⟩, q⟩
theorem ws_retN (q : Dn.rt .non M) : WS Pm X (.Return none pos) M ds Dn := fun σ H F mF ok => wS_of ps_retN ⟨.non, M, ok.imp fun _ _ z => ⟨rp_non, z.2⟩, q⟩
theorem ws_if {p q : List Stmt} (h : WT Pm X c M ds fun k M1 => (k = true → WSs Pm X p M1 ds Dn) ∧ (k = false → WSs Pm X q M1 ds Dn)) : WS Pm X (.If c p q pos) M ds Dn := by
  intro σ H F mF ok
  refine wS_of (ps_if pt_w pss_w pss_w) ?_
  refine wT_mono (h σ H F mF ok) fun k H1 ⟨M1, o1, q1, q2⟩ => ?_
  cases k with
  | true => exact iteT (q1 rfl σ H1 F mF o1)
  | false => exact iteF (q2 rfl σ H1 F mF o1)
/-- a mutable list is frozen, its name then holds the data -/
theorem wss_freeze {st : List Stmt} (i : Nat) {p : Addr} {xs : List D} (hi : ds[i]? = some (some (.raw (.ref p)))) (hp : M p = some (.lst xs)) (h : WSs Pm X st (delM M p) (ds.set i (some (.lst xs))) Dn) : WSs Pm X st M ds Dn := by
  intro σ H F mF ok
  obtain ⟨vs, hH⟩ : ∃ vs, H p = some (.lst vs) := (ok.getM hp).use fun G _ z => let ⟨vs, a, _⟩ := z.1; ⟨vs, a⟩
  have ok2 := ok.freeze (mono_x mF) hp hH
  have hv : σ[i]? = some (some (.ref p)) := ok.use fun G _ z => by
    obtain ⟨v, e1, e2⟩ := z.1.get hi
    rw [e2.raw_inv] at e1
    exact e1
  refine h σ H F mF (ok2.imp fun G _ z => ⟨?_, z.2.2.2⟩)
  obtain ⟨g1, ⟨ws, e, r⟩, g2, _⟩ := z
  cases e
  have := EnvR.set (rp_lst g1 r) i g2
  have e2 : σ.set i (some (V.ref p)) = σ := by
    apply List.ext_getElem?
    intro j
    by_cases hj : i = j
    · subst hj
      obtain ⟨hl, _⟩ := List.getElem?_eq_some_iff.mp hv
      rw [List.getElem?_set_self hl, hv]
    · rw [List.getElem?_set_ne hj]
  rw [e2] at this
  exact this
theorem wss_freezeD {st : List Stmt} (i : Nat) {p : Addr} {xs : List (Key × D)} (hi : ds[i]? = some (some (.raw (.ref p)))) (hp : M p = some (.dct xs)) (h : WSs Pm X st (delM M p) (ds.set i (some (.dct xs))) Dn) : WSs Pm X st M ds Dn := by
  intro σ H F mF ok
  obtain ⟨vs, hH⟩ : ∃ vs, H p = some (.dK vs) := (ok.getM hp).use fun G _ z => let ⟨vs, a, _⟩ := z.1; ⟨vs, a⟩
  have ok2 := ok.freeze (mono_x mF) hp hH
  have hv : σ[i]? = some (some (.ref p)) := ok.use fun G _ z => by
    obtain ⟨v, e1, e2⟩ := z.1.get hi
    rw [e2.raw_inv] at e1
    exact e1
  refine h σ H F mF (ok2.imp fun G _ z => ⟨?_, z.2.2.2⟩)
  obtain ⟨g1, ⟨ws, e, r⟩, g2, _⟩ := z
  cases e
  have := EnvR.set (rp_dct ⟨_, g1, rfl⟩ r) i g2
  have e2 : σ.set i (some (V.ref p)) = σ := by
    apply List.ext_getElem?
    intro j
    by_cases hj : i = j
    · subst hj
      obtain ⟨hl, _⟩ := List.getElem?_eq_some_iff.mp hv
      rw [List.getElem?_set_self hl, hv]
    · rw [List.getElem?_set_ne hj]
  rw [e2] at this
  exact this
/-- a mutable object that nobody names any more is forgotten -/
theorem wss_forget {st : List Stmt} {p : Addr} {d : D} (hp : M p = some d) (h : WSs Pm X st (delM M p) ds Dn) : WSs Pm X st M ds Dn := by
  intro σ H F mF ok
  obtain ⟨u, hH⟩ : ∃ u, H p = some u := (ok.getM hp).use fun G _ z => z.1.some
  exact h σ H F mF ((ok.freeze (mono_x mF) hp hH).imp fun G _ z => z.2.2)

/-! ### targets -/
/-- x = e -/
theorem ws_set (i : Nat) {x : Str} {pos' : Pos} (hN : X.N.Nodup) (hi : X.N[i]? = some x) (h : WE Pm X e M ds fun d M1 => Dn.nx (ds.set i (some d)) M1) (hx : Loc X.env.scope x := by first | exact Or.inl rfl | exact Or.inr rfl)
    (hs : swapsWith e (some (.Name x pos')) pos.line X.env = pure false := by rfl) (hf : X.fn x = true ∨ X.env.scope.names.lookup x = some .local := by first | exact .inl rfl | exact .inr rfl) : WS Pm X (.Assign [.Name x pos'] e pos) M ds Dn := by
  intro σ H F mF ok
  refine wS_of (ps_set (i := i) hN hi hx pe_w hs hf) ?_
  exact wE_mono (h σ H F mF ok) fun v H1 ⟨d, M1, o1, q⟩ => ⟨_, M1, o1.imp fun _ _ z => ⟨EnvR.set z.1 i z.2.1, z.2.2⟩, q⟩
/-- targets of names -/
inductive Tg where
  | nm (j : Nat) | tp (js : List Nat) | ls (js : List Nat)
def gNs : List Nat → TGs
  | [] => gNil
  | j :: js => gCons (gName j) (gNs js)
def gOf (K : PySem.W.Frag) : Tg → TG
  | .nm j => gName j
  | .tp js => gTup K js.length (gNs js)
  | .ls js => gUnl K js.length (gNs js)
def setAll (ds : Ds) : List Nat → List D → Ds
  | j :: js, d :: xs => setAll (ds.set j (some d)) js xs
  | _, _ => ds
def setAllV (σ : L2.St) : List Nat → List V → L2.St
  | j :: js, d :: xs => setAllV (σ.set j (some d)) js xs
  | _, _ => σ
def bindT (ds : Ds) : Tg → D → Option Ds
  | .nm j, d => some (ds.set j (some d))
  | .tp js, .tup xs => if xs.length = js.length then some (setAll ds js xs) else none
  | .ls js, .lst xs => if xs.length = js.length then some (setAll ds js xs) else none
  | _, _ => none
def slots : Tg → List Nat
  | .nm j => [j]
  | .tp js => js
  | .ls js => js
theorem gNs_ok {K : PySem.W.Frag} {H : Hp} {P : L2.St → Hp → Prop} : ∀ {js : List Nat} {vs : List V} {σ : L2.St}, vs.length = js.length → P (setAllV σ js vs) H → gNs js vs σ H P
  | [], [], σ, _, h => ⟨rfl, h⟩
  | [], _ :: _, _, h, _ => by simp at h
  | _ :: _, [], _, h, _ => by simp at h
  | j :: js, v :: vs, σ, h, q => ⟨v, vs, rfl, gNs_ok (K := K) (js := js) (vs := vs) (by simpa using h) q⟩
theorem EnvR.setAll {K : PySem.W.Frag} {G : Hp} : ∀ {js : List Nat} {xs : List D} {vs : List V} {ds : Ds} {σ : L2.St}, RpL K G xs vs → EnvR K G ds σ → EnvR K G (DL.setAll ds js xs) (setAllV σ js vs)
  | [], _, _, _, _, _, h => h
  | _ :: _, [], _, _, _, r, h => by
    cases r.nil_inv
    exact h
  | j :: js, x :: xs, _, ds, σ, r, h => by
    obtain ⟨v, rs, rfl, r1, r2⟩ := r.cons_inv
    exact EnvR.setAll (js := js) r2 (EnvR.set r1 j h)
/-- the target is stored; σ' is σ but for its slots -/
theorem bind_ok {σ : L2.St} {H : Hp} {F : Hp → Prop} {t : Tg} {d : D} {v : V} {ds' : Ds} {P : L2.St → Hp → Prop} (ok : Ok X.K M (fun G => Rp X.K G d v ∧ EnvR X.K G ds σ ∧ F G) H) (hb : bindT ds t d = some ds')
    (h : ∀ σ', (∃ vs, σ' = setAllV σ (slots t) vs) → Ok X.K M (fun G => EnvR X.K G ds' σ' ∧ F G) H → P σ' H) : gOf X.K t v σ H P := by
  cases t with
  | nm j =>
    cases hb
    exact h _ ⟨[v], rfl⟩ (ok.imp fun _ _ z => ⟨EnvR.set z.1 j z.2.1, z.2.2⟩)
  | tp js =>
    cases d with
    | tup xs =>
      simp only [bindT] at hb
      by_cases hl : xs.length = js.length
      · rw [if_pos hl] at hb
        cases hb
        obtain ⟨G, s, hM, z1, z2, z3⟩ := ok
        obtain ⟨p, vs, rfl, h1, h2⟩ := z1.tup_inv
        have hlv : vs.length = js.length := h2.length.trans hl
        exact ⟨p, vs, rfl, sqt_mono s h1, hlv, gNs_ok (K := X.K) hlv (h _ ⟨vs, rfl⟩ ⟨G, s, hM, EnvR.setAll h2 z2, z3⟩)⟩
      · rw [if_neg hl] at hb
        cases hb
    | _ => cases hb
  | ls js =>
    cases d with
    | lst xs =>
      simp only [bindT] at hb
      by_cases hl : xs.length = js.length
      · rw [if_pos hl] at hb
        cases hb
        obtain ⟨G, s, hM, z1, z2, z3⟩ := ok
        obtain ⟨p, vs, rfl, h1, h2⟩ := z1.lst_inv
        have hlv : vs.length = js.length := h2.length.trans hl
        exact ⟨p, vs, rfl, SqL.of (s.at h1), hlv, gNs_ok (K := X.K) hlv (h _ ⟨vs, rfl⟩ ⟨G, s, hM, EnvR.setAll h2 z2, z3⟩)⟩
      · rw [if_neg hl] at hb
        cases hb
    | _ => cases hb
/-- (x, y, ..) = e, x = e -/
theorem ws_asg {tg : Expr} (t : Tg) (hg : PG X tg (gOf X.K t)) (h : WE Pm X e M ds fun d M1 => ∃ ds', bindT ds t d = some ds' ∧ Dn.nx ds' M1)
    (hs : swapsWithSole [tg] e pos.line X.env = pure false := by rfl) (hw : swappedStores [tg] e X.env = pure none := by rfl) (h1 : (assignEach [tg] X.env).map (·.2) = [assign tg X.env] := by rfl) : WS Pm X (.Assign [tg] e pos) M ds Dn := by
  intro σ H F mF ok
  refine wS_of (ps_asg pe_w hg hs hw h1) ?_
  refine wE_mono (h σ H F mF ok) fun v H1 ⟨d, M1, o1, ds', hb, q⟩ => ?_
  exact bind_ok o1 hb fun σ' _ o2 => ⟨ds', M1, o2, q⟩
/-- x, y = a, b with plain local names -/
theorem ws_par2 (i j : Nat) {x y : Str} {px py pt : Pos} {kt k2 pt2} (hc : X.calm = true) (hN : X.N.Nodup) (hi : X.N[i]? = some x) (hj : X.N[j]? = some y) (h : WA Pm X [a, b] M ds fun xs M1 => ∃ d1 d2, xs = [d1, d2] ∧ Dn.nx ((ds.set i (some d1)).set j (some d2)) M1)
    (hij : i ≠ j := by decide) (hx : X.env.scope.names.lookup x = some .local := by rfl) (hy : X.env.scope.names.lookup y = some .local := by rfl)
    (hw : swappedStores [.Tuple [.Name x px, .Name y py] kt pt] (.Tuple [a, b] k2 pt2) X.env = pure (some [x, y]) := by with_unfolding_all rfl)
    (hs : swapsWithSole [.Tuple [.Name x px, .Name y py] kt pt] (.Tuple [a, b] k2 pt2) pos.line X.env = pure false := by rfl) :
    WS Pm X (.Assign [.Tuple [.Name x px, .Name y py] kt pt] (.Tuple [a, b] k2 pt2) pos) M ds Dn := by
  intro σ H F mF ok
  refine wS_of (ps_par (i := i) (j := j) hc hN hi hj hij hx hy pa_w hw hs) ?_
  refine wA_mono (h σ H F mF ok) fun vs H1 ⟨xs, M1, o1, d1, d2, e, q⟩ => ?_
  subst e
  obtain ⟨v, w, rfl⟩ : ∃ v w, vs = [v, w] := o1.use fun _ _ z => let ⟨v, w, a, _⟩ := z.1.two_inv; ⟨v, w, a⟩
  refine ⟨v, w, rfl, _, M1, o1.imp fun _ _ z => ?_, q⟩
  obtain ⟨v', w', e, r1, r2⟩ := z.1.two_inv
  cases e
  exact ⟨EnvR.set r2 j (EnvR.set r1 i z.2.1), z.2.2⟩
theorem RpL.three_inv {K : PySem.W.Frag} {G : Hp} {d e f : D} {vs : List V} (h : RpL K G [d, e, f] vs) : ∃ v w u, vs = [v, w, u] ∧ Rp K G d v ∧ Rp K G e w ∧ Rp K G f u := by
  obtain ⟨v, r, rfl, h1, h2⟩ := h.cons_inv
  obtain ⟨w, u, rfl, h3, h4⟩ := h2.two_inv
  exact ⟨v, w, u, rfl, h1, h3, h4⟩
theorem ws_par3 (i j l : Nat) {x y z : Str} {px py pz pt : Pos} {kt k2 pt2} (hc : X.calm = true) (hN : X.N.Nodup) (hi : X.N[i]? = some x) (hj : X.N[j]? = some y) (hl : X.N[l]? = some z)
    (h : WA Pm X [a, b, c] M ds fun xs M1 => ∃ d1 d2 d3, xs = [d1, d2, d3] ∧ Dn.nx (((ds.set i (some d1)).set j (some d2)).set l (some d3)) M1)
    (hij : i ≠ j := by decide) (hil : i ≠ l := by decide) (hjl : j ≠ l := by decide) (hx : X.env.scope.names.lookup x = some .local := by rfl) (hy : X.env.scope.names.lookup y = some .local := by rfl) (hz : X.env.scope.names.lookup z = some .local := by rfl)
    (hw : swappedStores [.Tuple [.Name x px, .Name y py, .Name z pz] kt pt] (.Tuple [a, b, c] k2 pt2) X.env = pure (some [x, y, z]) := by with_unfolding_all rfl)
    (hs : swapsWithSole [.Tuple [.Name x px, .Name y py, .Name z pz] kt pt] (.Tuple [a, b, c] k2 pt2) pos.line X.env = pure false := by rfl) :
    WS Pm X (.Assign [.Tuple [.Name x px, .Name y py, .Name z pz] kt pt] (.Tuple [a, b, c] k2 pt2) pos) M ds Dn := by
  intro σ H F mF ok
  refine wS_of (ps_par3 (i := i) (j := j) (l := l) hc hN hi hj hl hij hil hjl hx hy hz pa_w hw hs) ?_
  refine wA_mono (h σ H F mF ok) fun vs H1 ⟨xs, M1, o1, d1, d2, d3, e, q⟩ => ?_
  subst e
  obtain ⟨v, w, u, rfl⟩ : ∃ v w u, vs = [v, w, u] := o1.use fun _ _ z => let ⟨v, w, u, a, _⟩ := z.1.three_inv; ⟨v, w, u, a⟩
  refine ⟨v, w, u, rfl, _, M1, o1.imp fun _ _ z => ?_, q⟩
  obtain ⟨v', w', u', e, r1, r2, r3⟩ := z.1.three_inv
  cases e
  exact ⟨EnvR.set r3 l (EnvR.set r2 j (EnvR.set r1 i z.2.1)), z.2.2⟩
/-- x op= e -/
theorem ws_aug (i : Nat) {x : Str} {op : Operator} {pos' : Pos} {d0 : D} (hN : X.N.Nodup) (hi : X.N[i]? = some x) (hd : ds[i]? = some (some d0)) (h : WE Pm X e M ds fun y M1 => BinG Pm X (inplaceOp op) d0 y M1 fun z M2 => Dn.nx (ds.set i (some z)) M2)
    (hx : Loc X.env.scope x := by first | exact Or.inl rfl | exact Or.inr rfl) (hf : X.fn x = true ∨ X.env.scope.names.lookup x = some .local := by first | exact .inl rfl | exact .inr rfl) : WS Pm X (.AugAssign (.Name x pos') op e pos) M ds Dn := by
  intro σ H F mF ok
  refine wS_of (ps_aug (i := i) (ti := fun x y H Q => wOp X (inplaceOp op) x y H Q) hN hi hx pe_w (fun pins s σ H x y v u Q I r1 r2 h => h pins s σ v u I r1 r2) hf) ?_
  obtain ⟨v, hv⟩ : ∃ v, σ[i]? = some (some v) := ok.use fun G _ z => let ⟨v, a, _⟩ := z.1.get hd; ⟨v, a⟩
  refine ⟨v, hv, ?_⟩
  refine wE_mono (h σ H F mF ok) fun u H1 ⟨y, M1, o1, q⟩ => ?_
  refine wOp_mono (q v u H1 _ (mono_x mF) (o1.imp fun G _ z => ⟨?_, z⟩)) fun w H2 ⟨z, M2, o2, q2⟩ => ⟨_, M2, o2.imp fun _ _ z => ⟨EnvR.set z.1 i z.2.1, z.2.2⟩, q2⟩
  obtain ⟨v', e1, e2⟩ := z.2.1.get hd
  rw [hv] at e1
  cases e1
  exact e2

/-! ### what is walked -/
/-- J gives the n items, while F0 holds of the frozen part -/
structure Feeds (K : PySem.W.Frag) (J : It) (n : Nat) (item : Nat → D) (F0 : Hp → Prop) : Prop where
  mono : Mono1 F0
  goes : ∀ i H G, Le G H → F0 G → i < n → J.go i H
  stops : ∀ H G, Le G H → F0 G → J.stop n H
  gives : ∀ {Pm : Hp → Prop} i H M F, MonoF Pm F → Ok K M (fun G => F0 G ∧ F G) H → i < n → ∀ x H', J.yld i H x H' → Ok K M (fun G => Rp K G (item i) x ∧ F0 G ∧ F G) H'
def WI (Pm : Hp → Prop) (X : Cx) (tg iter : Expr) (M : Mst) (ds : Ds) (R : (n : Nat) → (Nat → D) → Mst → Prop) : Prop :=
  ∀ σ H F, MonoF Pm F → Ok X.K M (fun G => EnvR X.K G ds σ ∧ F G) H → ∃ wi, PI X tg iter wi ∧ ∀ R' : It → Hp → Prop, (∀ J H1 n item M1 F0, Feeds X.K J n item F0 → Ok X.K M1 (fun G => F0 G ∧ EnvR X.K G ds σ ∧ F G) H1 → R n item M1 → R' J H1) → wi σ H R'
theorem wE_inv {e : Expr} {σ : L2.St} {H : Hp} {Q : VK} (h : wE X e σ H Q) : wE X e σ H fun v H1 => (∃ pins s, Inv X pins σ H1 s) ∧ Q v H1 :=
  fun pins s I => thn (h pins s I) fun u s' ⟨v, H', a, b, c⟩ => ⟨v, H', a, b, ⟨pins, s', a⟩, c⟩
theorem wi_list {tg : Expr} {R : (n : Nat) → (Nat → D) → Mst → Prop} (h : WE Pm X e M ds fun d M1 => ∃ xs, d = .lst xs ∧ (xs.length ≤ sizeLine → R xs.length (fun i => xs.getD i .non) M1)) : WI Pm X tg e M ds R := by
  intro σ H F mF ok
  refine ⟨_, pi_list pe_w, fun R' k => ?_⟩
  refine wE_mono (wE_inv (h σ H F mF ok)) fun v H1 ⟨⟨pi, st, I⟩, d, M1, o1, xs, e, q⟩ => ?_
  subst e
  obtain ⟨p, vs, rfl, hH, hl⟩ : ∃ p vs, v = .ref p ∧ H1 p = some (.lst vs) ∧ vs.length = xs.length := o1.use fun G s z => by
    obtain ⟨p, vs, rfl, h1, h2⟩ := z.1.lst_inv
    exact ⟨p, vs, rfl, s.at h1, h2.length⟩
  have hz : xs.length ≤ sizeLine := by
    obtain ⟨its, r', pl, hz⟩ := I.list (SqL.of hH)
    omega
  refine ⟨p, rfl, ⟨vs, SqL.of hH⟩, k _ _ xs.length _ M1 (fun G => G p = some (.lst vs) ∧ RpL X.K G xs vs) ⟨fun G G' s z => ⟨s.at z.1, z.2.mono s⟩, fun i H G s z hi => ?_, fun H G s z => ?_, fun i H M F mF ok hi x H' y => ?_⟩ (o1.imp fun G s z => ⟨?_, z.2⟩) (q hz)⟩
  · exact walk_list.goes i H (by rw [hl]; exact hi) (SqL.of (s.at z.1))
  · rw [← hl]
    exact walk_list.stops H (SqL.of (s.at z.1))
  · obtain ⟨G, s, hM, z, zF⟩ := ok
    obtain ⟨rfl, e⟩ := walk_list.yields i H x H' (by rw [hl]; exact hi) (SqL.of (s.at z.1)) y
    obtain ⟨d, e1, e2⟩ := z.2.getV e
    refine ⟨G, s, hM, ?_, z, zF⟩
    rw [List.getD_eq_getElem?_getD, e1]
    exact e2
  · obtain ⟨p', vs', e0, h1, h2⟩ := z.1.lst_inv
    cases e0
    have e3 := s.at h1
    rw [hH] at e3
    cases e3
    exact ⟨h1, h2⟩
theorem wi_tup {tg : Expr} {R : (n : Nat) → (Nat → D) → Mst → Prop} (h : WE Pm X e M ds fun d M1 => ∃ xs, d = .tup xs ∧ (xs.length ≤ sizeLine → R xs.length (fun i => xs.getD i .non) M1)) : WI Pm X tg e M ds R := by
  intro σ H F mF ok
  refine ⟨_, pi_tup pe_w, fun R' k => ?_⟩
  refine wE_mono (wE_inv (h σ H F mF ok)) fun v H1 ⟨⟨pi, st, I⟩, d, M1, o1, xs, e, q⟩ => ?_
  subst e
  obtain ⟨G, s, hM, z1, z2⟩ := id o1
  obtain ⟨p, vs, rfl, h1, h2⟩ := z1.tup_inv
  have hl := h2.length
  have hz : xs.length ≤ sizeLine := by
    obtain ⟨its, r', pl, hz⟩ := I.tuple (sqt_mono s h1)
    omega
  refine ⟨p, rfl, ⟨vs, sqt_mono s h1⟩, k _ _ xs.length _ M1 (fun G => SqT X.K G p vs ∧ RpL X.K G xs vs) ⟨fun G G' s z => ⟨sqt_mono s z.1, z.2.mono s⟩, fun i H G s z hi => ?_, fun H G s z => ?_, fun i H M F mF ok hi x H' y => ?_⟩ ⟨G, s, hM, ⟨h1, h2⟩, z2⟩ (q hz)⟩
  · exact walk_tup.goes i H (by rw [hl]; exact hi) (sqt_mono s z.1)
  · rw [← hl]
    exact walk_tup.stops H (sqt_mono s z.1)
  · obtain ⟨G, s, hM, z, zF⟩ := ok
    obtain ⟨rfl, e⟩ := walk_tup.yields i H x H' (by rw [hl]; exact hi) (sqt_mono s z.1) y
    obtain ⟨d, e1, e2⟩ := z.2.getV e
    refine ⟨G, s, hM, ?_, z, zF⟩
    rw [List.getD_eq_getElem?_getD, e1]
    exact e2
theorem feeds_range {lo : Int} {n : Nat} : Feeds X.K (Itr lo n) n (fun i => .int (lo + i)) (fun _ => True) :=
  ⟨fun _ _ _ z => z, fun i H G s z hi => hi, fun H G s z => Nat.le_refl _, fun i H M F mF ok hi x H' y => by
    obtain ⟨rfl, rfl⟩ := y
    exact ok.imp fun _ _ z => ⟨rp_int, z⟩⟩
theorem wi_range1 {tg : Expr} {R : (n : Nat) → (Nat → D) → Mst → Prop} {p : Pos} (hm : X.mg "range" = none) (h : WA Pm X [e] M ds fun xs M1 => ∃ j : Int, xs = [.int j] ∧ -(2 ^ 62) ≤ j ∧ j < 2 ^ 62 ∧ R j.toNat (fun i => .int i) M1) (hg : Gl X "range" := by rfl)
    (hs : starEach [e] X.env = [(false, eval e X.env)] := by rfl) : WI Pm X tg (.Call (.Name "range" p) [e] [] pos) M ds R := by
  intro σ H F mF ok
  refine ⟨_, pi_range1 hg hm pa_w hs, fun R' kk => ?_⟩
  refine wA_mono (h σ H F mF ok) fun vs H1 ⟨xs, M1, o1, j, e, h1, h2, q⟩ => ?_
  subst e
  obtain rfl : vs = [.int j] := o1.use fun _ _ z => by
    obtain ⟨v, rfl, r⟩ := z.1.one_inv
    rw [r.int_inv]
  refine ⟨j, rfl, h1, h2, kk _ _ j.toNat _ M1 _ feeds_range (o1.imp fun _ _ z => ⟨trivial, z.2⟩) ?_⟩
  simpa using q
theorem wi_range2 {tg : Expr} {R : (n : Nat) → (Nat → D) → Mst → Prop} {p : Pos} (hm : X.mg "range" = none) (h : WA Pm X [a, b] M ds fun xs M1 => ∃ i j : Int, xs = [.int i, .int j] ∧ (-(2 ^ 62) ≤ i ∧ i < 2 ^ 62 ∧ -(2 ^ 62) ≤ j ∧ j < 2 ^ 62) ∧ R (j - i).toNat (fun k => .int (i + k)) M1) (hg : Gl X "range" := by rfl)
    (hs : starEach [a, b] X.env = [(false, eval a X.env), (false, eval b X.env)] := by rfl) (hs2 : starEach [b] X.env = [(false, eval b X.env)] := by rfl) : WI Pm X tg (.Call (.Name "range" p) [a, b] [] pos) M ds R := by
  intro σ H F mF ok
  refine ⟨_, pi_range2 hg hm pa_w hs hs2, fun R' kk => ?_⟩
  refine wA_mono (h σ H F mF ok) fun vs H1 ⟨xs, M1, o1, i, j, e, h1, q⟩ => ?_
  subst e
  obtain rfl : vs = [.int i, .int j] := o1.use fun _ _ z => by
    obtain ⟨v, w, rfl, r1, r2⟩ := z.1.two_inv
    rw [r1.int_inv, r2.int_inv]
  exact ⟨i, j, rfl, h1, kk _ _ _ _ M1 _ feeds_range (o1.imp fun _ _ z => ⟨trivial, z.2⟩) q⟩
theorem wi_range3 {tg : Expr} {R : (n : Nat) → (Nat → D) → Mst → Prop} {p : Pos} (hm : X.mg "range" = none) (h : WA Pm X [a, b, c] M ds fun xs M1 => ∃ (i j k : Int) (n : Nat), xs = [.int i, .int j, .int k] ∧ RgC i j k n ∧ R n (fun l => .int (i + (l : Nat) * k)) M1) (hg : Gl X "range" := by rfl)
    (hs : starEach [a, b, c] X.env = (false, eval a X.env) :: starEach [b, c] X.env := by rfl) (hpl : (backTo pos (starEach [b, c] X.env)).any (·.1) = false := by rfl) : WI Pm X tg (.Call (.Name "range" p) [a, b, c] [] pos) M ds R := by
  intro σ H F mF ok
  refine ⟨_, pi_range3 hg hm pa_w hs hpl, fun R' kk => ?_⟩
  refine wA_mono (h σ H F mF ok) fun vs H1 ⟨xs, M1, o1, i, j, k, n, e, h1, q⟩ => ?_
  subst e
  obtain rfl : vs = [.int i, .int j, .int k] := o1.use fun _ _ z => by
    obtain ⟨v, w, u, rfl, r1, r2, r3⟩ := z.1.three_inv
    rw [r1.int_inv, r2.int_inv, r3.int_inv]
  refine ⟨i, j, k, n, rfl, h1, kk _ _ n _ M1 (fun _ => True) ⟨fun _ _ _ z => z, fun i H G s z hi => hi, fun H G s z => Nat.le_refl _, fun i H M F mF ok hi x H' y => ?_⟩ (o1.imp fun _ _ z => ⟨trivial, z.2⟩) q⟩
  obtain ⟨rfl, rfl⟩ := y
  exact ok.imp fun _ _ z => ⟨rp_int, z⟩
end
end DL

/-! DL6: loops and comprehensions over data -/
namespace DL
open PySem PySem.Spec L2
open PyProof.Rows hiding St
section
variable {X : Cx} {Pm : Hp → Prop} {M : Mst} {ds : Ds} {Q : QD} {pos : Pos} {a b c e : Expr} {Dn : EndD}

/-! ### for, while -/
theorem ws_for (t : Tg) {tg iter : Expr} {body : List Stmt} (hp : PassesOwn (model X.prog X.w) X.A X.env X.xe) (hc : X.calm = true) (hg : PG X tg (gOf X.K t))
    (h : WI Pm X tg iter M ds fun n item M1 => ∃ Iv : Nat → Ds → Mst → Prop, Iv 0 ds M1 ∧ (∀ ds M, Iv n ds M → Dn.nx ds M) ∧
      ∀ i ds M, i < n → Iv i ds M → ∃ ds', bindT ds t (item i) = some ds' ∧ WSs Pm X body M ds' { Dn with nx := Iv (i + 1), ct := Iv (i + 1), bk := Dn.nx })
    (hs : ∀ x, foldedSetIterable iter X.env x = pure x := by intro _; rfl) : WS Pm X (.For tg iter body [] pos) M ds Dn := by
  intro σ H F mF ok
  obtain ⟨wi, pi, hw⟩ := h σ H F mF ok
  refine wS_of (ps_for hp hc pi hg pss_w hs) ?_
  refine hw _ fun J H1 n item M1 F0 fd o1 ⟨Iv, h0, hn, hs⟩ => ?_
  refine ⟨fun i m σ' H' => m = n - i ∧ i ≤ n ∧ ∃ ds' M', Ok X.K M' (fun G => F0 G ∧ EnvR X.K G ds' σ' ∧ F G) H' ∧ Iv i ds' M', ⟨n, by simp, Nat.zero_le _, ds, M1, o1, h0⟩, ?_⟩
  rintro i m σ' H' ⟨rfl, hi, ds', M', o', iv⟩
  by_cases hlt : i < n
  · refine .inr ⟨o'.use fun G s z => fd.goes i H' G s z.1 hlt, fun σ2 H2 => ∃ ds2 M2, Ok X.K M2 (fun G => F0 G ∧ EnvR X.K G ds2 σ2 ∧ F G) H2 ∧ Iv (i + 1) ds2 M2, fun σ2 H2 ⟨ds2, M2, o2, iv2⟩ => ⟨n - (i + 1), by omega, rfl, hlt, ds2, M2, o2, iv2⟩, fun x H2 y => ?_⟩
    have o2 := fd.gives i H' M' (fun G => EnvR X.K G ds' σ' ∧ F G) (mono_x mF) o' hlt x H2 y
    obtain ⟨ds2, hb, hbody⟩ := hs i ds' M' hlt iv
    refine bind_ok (F := fun G => F0 G ∧ F G) (o2.imp fun _ _ ⟨z1, z2, z3, z4⟩ => ⟨z1, z3, z2, z4⟩) hb fun σ3 _ o3 => ?_
    exact wSs_mono (hbody σ3 H2 (fun G => F0 G ∧ F G) (fd.mono.and mF) o3) (fun _ _ ⟨d, m, o, q⟩ => ⟨d, m, o.imp fun _ _ ⟨z1, z2, z3⟩ => ⟨z2, z1, z3⟩, q⟩) (fun _ _ ⟨d, m, o, q⟩ => ⟨d, m, o.imp fun _ _ ⟨z1, z2, z3⟩ => ⟨z1, z3⟩, q⟩)
      (fun _ _ ⟨d, m, o, q⟩ => ⟨d, m, o.imp fun _ _ ⟨z1, z2, z3⟩ => ⟨z1, z3⟩, q⟩) (fun _ _ ⟨d, m, o, q⟩ => ⟨d, m, o.imp fun _ _ ⟨z1, z2, z3⟩ => ⟨z2, z1, z3⟩, q⟩)
  · have e : i = n := by omega
    subst e
    exact .inl ⟨o'.use fun G s z => fd.stops H' G s z.1, ds', M', o'.imp fun _ _ z => z.2, hn _ _ iv⟩
theorem ws_while (Iv : Nat → Ds → Mst → Prop) {body : List Stmt} (hp : PassesOwn (model X.prog X.w) X.A X.env X.xe) (h0 : ∃ m, Iv m ds M)
    (hs : ∀ m ds M, Iv m ds M → WT Pm X c M ds fun k M1 => (k = true → WSs Pm X body M1 ds { Dn with nx := fun ds M => ∃ m', m' < m ∧ Iv m' ds M, ct := fun ds M => ∃ m', m' < m ∧ Iv m' ds M, bk := Dn.nx }) ∧ (k = false → Dn.nx ds M1)) : WS Pm X (.While c body [] pos) M ds Dn := by
  intro σ H F mF ok
  refine wS_of (ps_while hp pt_w pss_w) ?_
  refine ⟨fun m σ' H' => ∃ ds' M', Ok X.K M' (fun G => EnvR X.K G ds' σ' ∧ F G) H' ∧ Iv m ds' M', let ⟨m, h⟩ := h0; ⟨m, ds, M, ok, h⟩, ?_⟩
  rintro m σ' H' ⟨ds', M', o', iv⟩
  refine wT_mono (hs m ds' M' iv σ' H' F mF o') fun k H1 ⟨M1, o1, q1, q2⟩ => ?_
  cases k with
  | false => exact iteF ⟨ds', M1, o1, q2 rfl⟩
  | true =>
    refine iteT ⟨fun σ2 H2 => ∃ m', m' < m ∧ ∃ ds2 M2, Ok X.K M2 (fun G => EnvR X.K G ds2 σ2 ∧ F G) H2 ∧ Iv m' ds2 M2, fun σ2 H2 ⟨m', hm, ds2, M2, o2, iv2⟩ => ⟨m', hm, ds2, M2, o2, iv2⟩, ?_⟩
    exact wSs_mono (q1 rfl σ' H1 F mF o1) (fun _ _ ⟨d, M, o, m', hm, q⟩ => ⟨m', hm, d, M, o, q⟩) (fun _ _ z => z) (fun _ _ z => z) (fun _ _ ⟨d, M, o, m', hm, q⟩ => ⟨m', hm, d, M, o, q⟩)

/-- the n items are those of ys -/
def LI {α : Type} (ys : List α) (g : α → D) (n : Nat) (item : Nat → D) : Prop := n = ys.length ∧ ∀ i (h : i < ys.length), item i = g ys[i]
theorem li_map {α : Type} (ys : List α) (g : α → D) : LI ys g (ys.map g).length (fun i => (ys.map g).getD i .non) :=
  ⟨by simp, fun i h => by simp [List.getD_eq_getElem?_getD, List.getElem?_map, List.getElem?_eq_getElem h]⟩
theorem li_self (ys : List D) : LI ys id ys.length (fun i => ys.getD i .non) := ⟨rfl, fun i h => by simp [List.getD_eq_getElem?_getD, List.getElem?_eq_getElem h]⟩
theorem li_range (n : Nat) (g : Nat → D) : LI (List.range n) g n g := ⟨by simp, fun i h => by simp⟩
theorem ws_forL {α : Type} (t : Tg) (ys : List α) (g : α → D) (Iv : List α → Ds → Mst → Prop) {tg iter : Expr} {body : List Stmt} (hp : PassesOwn (model X.prog X.w) X.A X.env X.xe) (hc : X.calm = true) (hg : PG X tg (gOf X.K t))
    (h : WI Pm X tg iter M ds fun n item M1 => LI ys g n item ∧ Iv ys ds M1)
    (hn : ∀ ds M, Iv [] ds M → Dn.nx ds M)
    (hst : ∀ y r ds M, Iv (y :: r) ds M → ∃ ds', bindT ds t (g y) = some ds' ∧ WSs Pm X body M ds' { Dn with nx := Iv r, ct := Iv r, bk := Dn.nx })
    (hs : ∀ x, foldedSetIterable iter X.env x = pure x := by intro _; rfl) : WS Pm X (.For tg iter body [] pos) M ds Dn := by
  refine ws_for t hp hc hg ?_ hs
  intro σ H F mF ok
  obtain ⟨wi, pi, hw⟩ := h σ H F mF ok
  refine ⟨wi, pi, fun R' k => hw R' fun J H1 n item M1 F0 fd o1 ⟨⟨l1, l2⟩, iv⟩ => k J H1 n item M1 F0 fd o1 ⟨fun i ds M => Iv (ys.drop i) ds M, by simpa using iv, fun ds M q => hn ds M (by rw [l1, List.drop_length] at q; exact q), fun i ds M hi q => ?_⟩⟩
  have hi' : i < ys.length := by rw [l1] at hi; exact hi
  replace q : Iv (ys.drop i) ds M := q
  rw [List.drop_eq_getElem_cons hi'] at q
  obtain ⟨ds', h1, h2⟩ := hst _ _ ds M q
  exact ⟨ds', by rw [l2 i hi']; exact h1, h2⟩

/-! ### comprehensions -/
def wipeD (ds : Ds) : List Nat → Ds
  | [] => ds
  | v :: vs => (wipeD ds vs).set v none
theorem EnvR.setN {K : PySem.W.Frag} {G : Hp} : ∀ {ds : Ds} {σ : L2.St} (i : Nat), EnvR K G ds σ → EnvR K G (ds.set i none) (σ.set i none)
  | [], _, _, h => by
    have h : _ = [] := h
    subst h
    rfl
  | o :: ds, _, 0, ⟨s, q, e, _, h3⟩ => by subst e; exact ⟨none, q, rfl, trivial, h3⟩
  | o :: ds, _, i + 1, ⟨s, q, e, h2, h3⟩ => by subst e; exact ⟨s, _, rfl, h2, EnvR.setN i h3⟩
theorem EnvR.wipe {K : PySem.W.Frag} {G : Hp} {ds : Ds} {σ : L2.St} (h : EnvR K G ds σ) : ∀ vs : List Nat, EnvR K G (wipeD ds vs) (L2.wipe σ vs)
  | [] => h
  | v :: vs => EnvR.setN v (EnvR.wipe h vs)
theorem wipe_in {σ : L2.St} {i : Nat} : ∀ {vs : List Nat}, i ∈ vs → (wipe σ vs)[i]? = (σ[i]?).map fun _ => none
  | [], h => by cases h
  | v :: vs, h => by
    unfold wipe
    by_cases e : v = i
    · subst e
      by_cases hl : v < σ.length
      · rw [List.getElem?_set_self (by rw [wipe_length]; exact hl), List.getElem?_eq_getElem hl]; rfl
      · rw [List.getElem?_eq_none (by rw [List.length_set, wipe_length]; omega), List.getElem?_eq_none (by omega)]; rfl
    · rw [List.getElem?_set_ne e]
      exact wipe_in ((List.mem_cons.mp h).resolve_left fun q => e q.symm)
theorem wipe_set {σ : L2.St} {j : Nat} {x : Option V} {vs : List Nat} (h : j ∈ vs) : wipe (σ.set j x) vs = wipe σ vs := by
  apply List.ext_getElem?
  intro i
  by_cases hi : i ∈ vs
  · rw [wipe_in hi, wipe_in hi]
    by_cases e : j = i
    · subst e
      by_cases hl : j < σ.length
      · rw [List.getElem?_set_self hl, List.getElem?_eq_getElem hl]; rfl
      · rw [List.getElem?_eq_none (by rw [List.length_set]; omega), List.getElem?_eq_none (by omega)]
    · rw [List.getElem?_set_ne e]
  · rw [wipe_out hi, wipe_out hi, List.getElem?_set_ne (fun e => hi (by rw [← e]; exact h))]
theorem wipe_setAll {vs : List Nat} : ∀ {js : List Nat} {us : List V} {σ : L2.St}, (∀ j ∈ js, j ∈ vs) → wipe (setAllV σ js us) vs = wipe σ vs
  | [], _, _, _ => by unfold setAllV; rfl
  | j :: js, [], _, _ => rfl
  | j :: js, u :: us, σ, h => by
    show wipe (setAllV (σ.set j (some u)) js us) vs = _
    rw [wipe_setAll fun i hi => h i (List.mem_cons_of_mem _ hi), wipe_set (h j List.mem_cons_self)]
theorem wipe_wipe {σ : L2.St} {vs : List Nat} : wipe (wipe σ vs) vs = wipe σ vs := by
  apply List.ext_getElem?
  intro i
  by_cases hi : i ∈ vs
  · rw [wipe_in hi, wipe_in hi]; cases σ[i]? <;> rfl
  · rw [wipe_out hi, wipe_out hi]
theorem delM_updM' {M : Mst} {p : Addr} {d : D} (h : M p = none) : delM (updM M p d) p = M := by
  funext b
  unfold delM updM
  by_cases e : b = p
  · subst e; rw [if_pos rfl, h]
  · rw [if_neg e, if_neg e]
abbrev wTs (X : Cx) (ifs : List Expr) : TT := fun σ H Q => ∀ pins s, Inv X pins σ H s →
  wpAny (model X.prog X.w) X.A (forIn ifs true fun c r => if r = true then do let ok ← isTrue c X.env (eval c X.env); pure (ForInStep.yield ok) else pure (ForInStep.yield r)) (TP X pins σ Q) X.xe s
def WTs (Pm : Hp → Prop) (X : Cx) (ifs : List Expr) (M : Mst) (ds : Ds) (Q : Bool → Mst → Prop) : Prop :=
  ∀ σ H F, MonoF Pm F → Ok X.K M (fun G => EnvR X.K G ds σ ∧ F G) H → wTs X ifs σ H (EndT X.K (fun G => EnvR X.K G ds σ ∧ F G) Q)
theorem wts_nil {Q : Bool → Mst → Prop} (q : Q true M) : WTs Pm X [] M ds Q := fun σ H F mF ok pins s I => pts_nil.run pins s σ H _ I ⟨M, ok, q⟩
theorem wts_one {Q : Bool → Mst → Prop} (h : WT Pm X c M ds Q) : WTs Pm X [c] M ds Q := fun σ H F mF ok pins s I => (pts_one pt_w).run pins s σ H _ I (h σ H F mF ok)
/-- the readings of all contexts of a block -/
abbrev uE (X : Cx) (scope : Scope) (e : Expr) : TE := fun σ H Q => ∀ s0 H0 C cl fp, wE (X.blk s0 H0 scope (compEnvC scope cl C X.env) fp) e σ H Q
abbrev uTs (X : Cx) (scope : Scope) (ifs : List Expr) : TT := fun σ H Q => ∀ s0 H0 C cl fp, wTs (X.blk s0 H0 scope (compEnvC scope cl C X.env) fp) ifs σ H Q
/-- a judgement in all contexts of a block -/
abbrev InB (X : Cx) (scope : Scope) (P : Cx → Prop) : Prop := ∀ (s0 : Shared) (H0 : Hp) (C : Addr) (cl : List (Str × Addr)) (fp : List Addr), P (X.blk s0 H0 scope (compEnvC scope cl C X.env) fp)
/-- what a list comprehension's turns do: Iv by the turn, the items so far, the state -/
def LcT (Pm : Hp → Prop) (X : Cx) (scope : Scope) (t : Tg) (vs : List Nat) (ifs : List Expr) (elt : Expr) (ds : Ds) (n : Nat) (item : Nat → D) (Iv : Nat → List D → Mst → Prop) : Prop :=
  ∀ i acc M p, i < n → Iv i acc M → M p = none → ∃ ds', bindT (wipeD ds vs) t (item i) = some ds' ∧
    InB X scope fun Y => WTs Pm Y ifs (updM M p (.lst acc)) ds' fun k M2 => ∃ M3, M2 = updM M3 p (.lst acc) ∧ M3 p = none ∧
      (k = true → InB X scope fun Y => WE Pm Y elt (updM M3 p (.lst acc)) ds' fun d M4 => ∃ M5, M4 = updM M5 p (.lst acc) ∧ M5 p = none ∧ Iv (i + 1) (acc ++ [d]) M5) ∧ (k = false → Iv (i + 1) acc M3)
theorem lc_core {tg iter elt : Expr} {ifs : List Expr} {scope : Scope} {vs : List Nat} (t : Tg) (hsub : ∀ j ∈ slots t, j ∈ vs) {R : Nat → (Nat → D) → Mst → Prop} (h : WI Pm X tg iter M ds R) {Q : QD}
    (hR : ∀ n item M1, R n item M1 → n ≤ sizeLine ∧ ∃ Iv : Nat → List D → Mst → Prop, Iv 0 [] M1 ∧ (∀ acc M2, Iv n acc M2 → Q (.lst acc) M2) ∧ LcT Pm X scope t vs ifs elt ds n item Iv)
    {σ : L2.St} {H : Hp} {F : Hp → Prop} {Qf : VK} (mF : MonoF Pm F) (ok : Ok X.K M (fun G => EnvR X.K G ds σ ∧ F G) H) (hf : ∀ v H', EndE X.K (fun G => EnvR X.K G ds σ ∧ F G) Q v H' → Qf v H') :
    ∃ wi, PI X tg iter wi ∧ tLc wi (gOf X.K t) (uTs X scope ifs) (uE X scope elt) vs σ H Qf := by
  obtain ⟨wi, pi, hw⟩ := h σ H F mF ok
  refine ⟨wi, pi, hw _ fun J H1 n item M1 F0 fd o1 r => ?_⟩
  obtain ⟨hz, Iv, h0, hend, step⟩ := hR n item M1 r
  intro p hp
  have hp1 : M1 p = none := o1.free hp
  have o1' : Ok X.K (updM M1 p (.lst [])) (fun G => F0 G ∧ EnvR X.K G ds σ ∧ F G) (upd H1 p (.lst [])) := o1.newM hp fun _ _ _ => ⟨[], rfl, RpL.nil⟩
  have mAll : MonoF Pm (fun G => F0 G ∧ EnvR X.K G ds σ ∧ F G) := fd.mono.and (mono_x mF)
  refine ⟨fun i m H' => m = n - i ∧ i ≤ n ∧ ∃ acc M', Ok X.K (updM M' p (.lst acc)) (fun G => F0 G ∧ EnvR X.K G ds σ ∧ F G) H' ∧ M' p = none ∧ acc.length ≤ i ∧ Iv i acc M', ⟨n, by simp, Nat.zero_le _, [], M1, o1', hp1, Nat.le_refl _, h0⟩, ?_⟩
  rintro i m H' ⟨rfl, hi, acc, M', o', hM', hacc, iv⟩
  by_cases hlt : i < n
  · refine .inr ⟨o'.use fun G s z => fd.goes i H' G s z.1 hlt, fun H2 => ∃ acc2 M2, Ok X.K (updM M2 p (.lst acc2)) (fun G => F0 G ∧ EnvR X.K G ds σ ∧ F G) H2 ∧ M2 p = none ∧ acc2.length ≤ i + 1 ∧ Iv (i + 1) acc2 M2,
      fun H2 ⟨acc2, M2, o2, a2, b2, iv2⟩ => ⟨n - (i + 1), by omega, rfl, hlt, acc2, M2, o2, a2, b2, iv2⟩, fun x H2 y => ?_⟩
    have o2 := fd.gives i H' _ (fun G => EnvR X.K G ds σ ∧ F G) (mono_x mF) o' hlt x H2 y
    obtain ⟨ds', hb, htest⟩ := step i acc M' p hlt iv hM'
    refine bind_ok (F := fun G => F0 G ∧ EnvR X.K G ds σ ∧ F G) (o2.imp fun _ _ ⟨z1, z2, z3, z4⟩ => ⟨z1, z3.wipe vs, z2, z3, z4⟩) hb fun σ3 ⟨us, e3⟩ o3 => ?_
    refine ⟨by rw [e3, wipe_setAll hsub, wipe_wipe], fun s0 H0 C cl fp => ?_⟩
    intro pins s I
    refine thn (htest s0 H0 C cl fp σ3 H2 _ mAll o3 pins s I) fun k s1 ⟨H3, I3, M2, o4, M3, e4, hM3, q1, q2⟩ => ⟨H3, I3, ?_⟩
    subst e4
    cases k with
    | false => exact iteF ⟨acc, M3, o4.imp fun _ _ z => z.2, hM3, by omega, q2 rfl⟩
    | true =>
      refine iteT fun s0 H0 C cl fp => ?_
      refine wE_mono (q1 rfl s0 H0 C cl fp σ3 H3 _ mAll o4) fun v H4 ⟨d, M4, o5, M5, e5, hM5, q⟩ => ?_
      subst e5
      obtain ⟨G, s, hM, z⟩ := id o5
      obtain ⟨_, ws, hw, hr⟩ := hM p _ updM_same
      have hl := hr.length
      refine ⟨ws, hw, by omega, acc ++ [d], M5, ?_, hM5, by simp; omega, q⟩
      have o6 := o5.setM (o := .lst (ws ++ [v])) (d := .lst (acc ++ [d])) updM_same fun G' s' z' ⟨ws', e', r'⟩ => by
        rw [hw] at e'
        cases e'
        exact ⟨_, rfl, r'.append (RpL.cons z'.1 RpL.nil)⟩
      rw [updM_updM] at o6
      exact o6.imp fun _ _ z => z.2.2
  · have e : i = n := by omega
    subst e
    refine .inl ⟨o'.use fun G s z => fd.stops H' G s z.1, hf _ _ ⟨.lst acc, M', ?_, hend _ _ iv⟩⟩
    obtain ⟨G, s, hM, z⟩ := id o'
    obtain ⟨_, ws, hw, hr⟩ := hM p _ updM_same
    have o7 := o'.freeze mAll updM_same hw
    rw [delM_updM' hM'] at o7
    refine o7.imp fun G s z => ?_
    obtain ⟨g1, ⟨ws', e', r'⟩, g2, g3, g4⟩ := z
    cases e'
    exact ⟨rp_lst g1 r', g3, g4⟩
theorem we_lcG {tg iter elt : Expr} {ifs : List Expr} {scope : Scope} {own : List (Str × Nat)} (t : Tg) (hc : X.calm = true) (hN : X.N.Nodup) (ok : BlkOk X.N X.env.scope scope own) (hsub : ∀ j ∈ slots t, j ∈ own.map (·.2))
    (hg : InB X scope fun Y => PG Y tg (gOf X.K t)) {R : Nat → (Nat → D) → Mst → Prop} (h : WI Pm X tg iter M ds R)
    (hR : ∀ n item M1, R n item M1 → n ≤ sizeLine ∧ ∃ Iv : Nat → List D → Mst → Prop, Iv 0 [] M1 ∧ (∀ acc M2, Iv n acc M2 → Q (.lst acc) M2) ∧ LcT Pm X scope t (own.map (·.2)) ifs elt ds n item Iv)
    (hs : ∀ x, foldedSetIterable iter X.env x = pure x := by intro _; rfl) : WE Pm X (.ListComp elt [⟨tg, iter, ifs, 0⟩] scope pos) M ds Q := by
  intro σ H F mF o
  obtain ⟨wi, pi, hw⟩ := lc_core t hsub h hR mF o (fun _ _ z => z)
  exact wE_of (pe_lc hc hN pi ok hg (tt := uTs X scope ifs) (te := uE X scope elt) (fun s H C cl fp => ⟨fun pins s' σ H Q I h => h _ _ _ _ _ pins s' I⟩) (fun s H C cl fp => ⟨fun pins s' σ H Q I h => h _ _ _ _ _ pins s' I⟩) hs) hw
/-- y = [..] on one line -/
theorem ws_lcG (i : Nat) {y : Str} {py : Pos} {spos : Pos} {tg iter elt : Expr} {ifs : List Expr} {scope : Scope} {own : List (Str × Nat)} (t : Tg) (hc : X.calm = true) (hN : X.N.Nodup) (hy : X.N[i]? = some y) (ok : BlkOk X.N X.env.scope scope own) (hsub : ∀ j ∈ slots t, j ∈ own.map (·.2))
    (hg : InB X scope fun Y => PG Y tg (gOf X.K t)) {R : Nat → (Nat → D) → Mst → Prop} (h : WI Pm X tg iter M ds R)
    (hR : ∀ n item M1, R n item M1 → n ≤ sizeLine ∧ ∃ Iv : Nat → List D → Mst → Prop, Iv 0 [] M1 ∧ (∀ acc M2, Iv n acc M2 → Dn.nx (ds.set i (some (.lst acc))) M2) ∧ LcT Pm X scope t (own.map (·.2)) ifs elt ds n item Iv)
    (hyl : X.env.scope.names.lookup y = some .local := by rfl) (hsw : swapsWith (.ListComp elt [⟨tg, iter, ifs, 0⟩] scope pos) (some (.Name y py)) spos.line X.env = pure true := by exact sw_true rfl rfl rfl rfl)
    (hs : ∀ x, foldedSetIterable iter X.env x = pure x := by intro _; rfl) : WS Pm X (.Assign [.Name y py] (.ListComp elt [⟨tg, iter, ifs, 0⟩] scope pos) spos) M ds Dn := by
  intro σ H F mF o
  obtain ⟨wi, pi, hw⟩ := lc_core t hsub h (Q := fun d M2 => ∃ acc, d = .lst acc ∧ Dn.nx (ds.set i (some (.lst acc))) M2) (Qf := fun x H1 => gName i x σ H1 (Dn.to X.K F).nx)
    (fun n item M1 r => let ⟨a, Iv, b, c, d⟩ := hR n item M1 r; ⟨a, Iv, b, fun acc M2 z => ⟨acc, rfl, c acc M2 z⟩, d⟩) mF o fun v H' z => by
      obtain ⟨d, M2, o2, acc, e, q⟩ := z
      subst e
      exact ⟨_, M2, o2.imp fun _ _ z => ⟨EnvR.set z.1 i z.2.1, z.2.2⟩, q⟩
  exact wS_of (ps_setLc (i := i) hc hN hy hyl hsw pi ok hg (tt := uTs X scope ifs) (te := uE X scope elt) (fun s H C cl fp => ⟨fun pins s' σ H Q I h => h _ _ _ _ _ pins s' I⟩) (fun s H C cl fp => ⟨fun pins s' σ H Q I h => h _ _ _ _ _ pins s' I⟩) hs) hw
end
end DL

/-! DL7: pure comprehensions, dicts, methods, slices, texts -/
namespace DL
open PySem PySem.Spec L2
open PyProof.Rows hiding St
section
variable {X : Cx} {Pm : Hp → Prop} {M : Mst} {ds : Ds} {Q : QD} {pos : Pos} {a b c e : Expr} {Dn : EndD}

/-! ### pure list comprehensions -/
def Sub (M M' : Mst) : Prop := ∀ q d, M q = some d → M' q = some d
theorem sub_upd {M : Mst} {p : Addr} {d : D} (h : M p = none) : Sub M (updM M p d) := fun q e hq => by
  rw [updM_ne (fun z => by rw [z, h] at hq; cases hq)]; exact hq
def PureT {α : Type} (Pm : Hp → Prop) (X : Cx) (scope : Scope) (t : Tg) (vs : List Nat) (ifs : List Expr) (elt : Expr) (ds : Ds) (M1 : Mst) (ys : List α) (g : α → D) (p : α → Bool) (f : α → D) : Prop :=
  ∀ y, y ∈ ys → ∀ M', Sub M1 M' → ∃ ds', bindT (wipeD ds vs) t (g y) = some ds' ∧ (InB X scope fun Y => WTs Pm Y ifs M' ds' fun k M2 => k = p y ∧ M2 = M') ∧ (p y = true → InB X scope fun Y => WE Pm Y elt M' ds' fun d M2 => d = f y ∧ M2 = M')
theorem lct_pure {α : Type} {scope : Scope} {t : Tg} {vs : List Nat} {ifs : List Expr} {elt : Expr} {n : Nat} {item : Nat → D} {M1 : Mst} {ys : List α} {g : α → D} {p : α → Bool} {f : α → D} (l : LI ys g n item) (h : PureT Pm X scope t vs ifs elt ds M1 ys g p f) :
    LcT Pm X scope t vs ifs elt ds n item fun i acc M2 => M2 = M1 ∧ acc = ((ys.take i).filter p).map f := by
  rintro i acc M p' hi ⟨rfl, rfl⟩ hp
  obtain ⟨l1, l2⟩ := l
  have hi' : i < ys.length := by omega
  obtain ⟨ds', hb, h1, h2⟩ := h ys[i] (List.getElem_mem hi') _ (sub_upd (d := .lst (((ys.take i).filter p).map f)) hp)
  have e1 : ys.take (i + 1) = ys.take i ++ [ys[i]] := by rw [List.take_add_one, List.getElem?_eq_getElem hi']; rfl
  have e2 : ((ys.take (i + 1)).filter p).map f = ((ys.take i).filter p).map f ++ (if p ys[i] = true then [f ys[i]] else []) := by
    rw [e1, List.filter_append, List.map_append]
    by_cases q : p ys[i] = true <;> simp [q]
  refine ⟨ds', by rw [l2 i hi']; exact hb, fun s0 H0 C cl fp σ H F mF ok => ?_⟩
  refine fun pins s I => thn (h1 s0 H0 C cl fp σ H F mF ok pins s I) fun k s' ⟨H', I', M2, o2, k1, k2⟩ => ⟨H', I', M2, o2, M, k2, hp, fun hk => ?_, fun hk => ⟨rfl, ?_⟩⟩
  · have hp' : p ys[i] = true := by rw [← k1]; exact hk
    intro s0 H0 C cl fp σ H F mF ok
    refine wE_mono (h2 hp' s0 H0 C cl fp σ H F mF ok) fun v H2 ⟨d, M4, o4, d1, d2⟩ => ⟨d, M4, o4, M, d2, hp, rfl, ?_⟩
    rw [e2, if_pos hp', d1]
  · have hp' : ¬ p ys[i] = true := by rw [← k1, hk]; exact Bool.false_ne_true
    rw [e2, if_neg hp', List.append_nil]
theorem we_lcP {α : Type} (t : Tg) (ys : List α) (g : α → D) (p : α → Bool) (f : α → D) {tg iter elt : Expr} {ifs : List Expr} {scope : Scope} {own : List (Str × Nat)} (hc : X.calm = true) (hN : X.N.Nodup) (ok : BlkOk X.N X.env.scope scope own) (hsub : ∀ j ∈ slots t, j ∈ own.map (·.2))
    (hg : InB X scope fun Y => PG Y tg (gOf X.K t))
    (h : WI Pm X tg iter M ds fun n item M1 => n ≤ sizeLine ∧ LI ys g n item ∧ PureT Pm X scope t (own.map (·.2)) ifs elt ds M1 ys g p f ∧ Q (.lst ((ys.filter p).map f)) M1)
    (hs : ∀ x, foldedSetIterable iter X.env x = pure x := by intro _; rfl) : WE Pm X (.ListComp elt [⟨tg, iter, ifs, 0⟩] scope pos) M ds Q :=
  we_lcG t hc hN ok hsub hg h (fun n item M1 ⟨hz, l, hp, q⟩ => ⟨hz, _, ⟨rfl, rfl⟩, fun acc M2 ⟨e1, e2⟩ => by subst e1; rw [e2, l.1, List.take_length]; exact q, lct_pure l hp⟩) hs
theorem ws_lcP (i : Nat) {α : Type} (t : Tg) (ys : List α) (g : α → D) (p : α → Bool) (f : α → D) {y : Str} {py : Pos} {spos : Pos} {tg iter elt : Expr} {ifs : List Expr} {scope : Scope} {own : List (Str × Nat)} (hc : X.calm = true) (hN : X.N.Nodup) (hy : X.N[i]? = some y) (ok : BlkOk X.N X.env.scope scope own) (hsub : ∀ j ∈ slots t, j ∈ own.map (·.2))
    (hg : InB X scope fun Y => PG Y tg (gOf X.K t))
    (h : WI Pm X tg iter M ds fun n item M1 => n ≤ sizeLine ∧ LI ys g n item ∧ PureT Pm X scope t (own.map (·.2)) ifs elt ds M1 ys g p f ∧ Dn.nx (ds.set i (some (.lst ((ys.filter p).map f)))) M1)
    (hyl : X.env.scope.names.lookup y = some .local := by rfl) (hsw : swapsWith (.ListComp elt [⟨tg, iter, ifs, 0⟩] scope pos) (some (.Name y py)) spos.line X.env = pure true := by exact sw_true rfl rfl rfl rfl)
    (hs : ∀ x, foldedSetIterable iter X.env x = pure x := by intro _; rfl) : WS Pm X (.Assign [.Name y py] (.ListComp elt [⟨tg, iter, ifs, 0⟩] scope pos) spos) M ds Dn :=
  ws_lcG i t hc hN hy ok hsub hg h (fun n item M1 ⟨hz, l, hp, q⟩ => ⟨hz, _, ⟨rfl, rfl⟩, fun acc M2 ⟨e1, e2⟩ => by subst e1; rw [e2, l.1, List.take_length]; exact q, lct_pure l hp⟩) hyl hsw hs

/-! ### dicts: keys ints or texts -/
def keyD : Key → D
  | .inl i => .int i
  | .inr x => .str x
theorem Rp.key {K : PySem.W.Frag} {G : Hp} {k : Key} {v : V} (h : Rp K G (keyD k) v) : v = kV k := by
  cases k with
  | inl i => exact h.int_inv
  | inr x => exact h.str_inv
def getD (kvs : List (Key × D)) (k : Key) : Option D := (kvs.find? fun kv => decide (kv.1 = k)).map (·.2)
def putD (kvs : List (Key × D)) (k : Key) (v : D) : List (Key × D) :=
  if (kvs.any fun kv => decide (kv.1 = k)) = true then kvs.map (fun kv => if kv.1 = k then (kv.1, v) else kv) else kvs ++ [(k, v)]
theorem RpK.nil_inv {K : PySem.W.Frag} {G : Hp} {ws : List (Key × V)} (h : RpK K G [] ws) : ws = [] := by simpa only [RpK] using h
theorem RpK.cons_inv {K : PySem.W.Frag} {G : Hp} {k : Key} {d : D} {kvs : List (Key × D)} {ws : List (Key × V)} (h : RpK K G ((k, d) :: kvs) ws) : ∃ v r, ws = (k, v) :: r ∧ Rp K G d v ∧ RpK K G kvs r := by simpa only [RpK] using h
theorem RpK.nil {K : PySem.W.Frag} {G : Hp} : RpK K G [] [] := by simp only [RpK]
theorem RpK.cons {K : PySem.W.Frag} {G : Hp} {k : Key} {d : D} {v : V} {kvs : List (Key × D)} {ws : List (Key × V)} (h : Rp K G d v) (t : RpK K G kvs ws) : RpK K G ((k, d) :: kvs) ((k, v) :: ws) := by
  simp only [RpK]; exact ⟨v, ws, rfl, h, t⟩
theorem RpK.get {K : PySem.W.Frag} {G : Hp} {k : Key} : ∀ {kvs : List (Key × D)} {ws : List (Key × V)}, RpK K G kvs ws → (match getD kvs k with | some d => ∃ v, valV ws k = some v ∧ Rp K G d v | none => valV ws k = none)
  | [], _, h => by cases h.nil_inv; rfl
  | (k', d) :: kvs, _, h => by
    obtain ⟨v, r, rfl, h1, h2⟩ := h.cons_inv
    have ih := RpK.get (k := k) h2
    by_cases e : k' = k
    · subst e
      simp only [getD, valV, List.find?_cons, decide_true, Option.map_some]
      exact ⟨v, rfl, h1⟩
    · simp only [getD, valV, List.find?_cons, decide_eq_false e] at ih ⊢
      exact ih
theorem RpK.any {K : PySem.W.Frag} {G : Hp} {k : Key} : ∀ {kvs : List (Key × D)} {ws : List (Key × V)}, RpK K G kvs ws → (ws.any fun kv => decide (kv.1 = k)) = kvs.any fun kv => decide (kv.1 = k)
  | [], _, h => by cases h.nil_inv; rfl
  | (k', d) :: kvs, _, h => by
    obtain ⟨v, r, rfl, h1, h2⟩ := h.cons_inv
    simp only [List.any_cons, RpK.any h2]
theorem RpK.length {K : PySem.W.Frag} {G : Hp} : ∀ {kvs : List (Key × D)} {ws : List (Key × V)}, RpK K G kvs ws → ws.length = kvs.length
  | [], _, h => by cases h.nil_inv; rfl
  | (k', d) :: kvs, _, h => by
    obtain ⟨v, r, rfl, h1, h2⟩ := h.cons_inv
    simp [RpK.length h2]
theorem RpK.app {K : PySem.W.Frag} {G : Hp} {k : Key} {d : D} {v : V} (q : Rp K G d v) : ∀ {kvs : List (Key × D)} {ws : List (Key × V)}, RpK K G kvs ws → RpK K G (kvs ++ [(k, d)]) (ws ++ [(k, v)])
  | [], _, h => by cases h.nil_inv; exact RpK.cons q RpK.nil
  | (k', d') :: kvs, _, h => by
    obtain ⟨v', r, rfl, h1, h2⟩ := h.cons_inv
    exact RpK.cons h1 (RpK.app q h2)
theorem RpK.repl {K : PySem.W.Frag} {G : Hp} {k : Key} {d : D} {v : V} (q : Rp K G d v) : ∀ {kvs : List (Key × D)} {ws : List (Key × V)}, RpK K G kvs ws → RpK K G (kvs.map fun kv => if kv.1 = k then (kv.1, d) else kv) (ws.map fun kv => if kv.1 = k then (kv.1, v) else kv)
  | [], _, h => by cases h.nil_inv; exact RpK.nil
  | (k', d') :: kvs, _, h => by
    obtain ⟨v', r, rfl, h1, h2⟩ := h.cons_inv
    by_cases e : k' = k
    · simp only [List.map_cons, if_pos e]
      exact RpK.cons q (RpK.repl q h2)
    · simp only [List.map_cons, if_neg e]
      exact RpK.cons h1 (RpK.repl q h2)
theorem RpK.put {K : PySem.W.Frag} {G : Hp} {k : Key} {d : D} {v : V} {kvs : List (Key × D)} {ws : List (Key × V)} (h : RpK K G kvs ws) (q : Rp K G d v) : RpK K G (putD kvs k d) (putK ws k v) := by
  unfold putD putK
  rw [h.any]
  by_cases e : (kvs.any fun kv => decide (kv.1 = k)) = true
  · rw [if_pos e, if_pos e]; exact RpK.repl q h
  · rw [if_neg e, if_neg e]; exact RpK.app q h
theorem rd_of {H : Hp} {p : Addr} {ws : List (Key × V)} {o : HO} (h : H p = some o) (e : uf o = .dK ws) : Rd H p (.dK ws) := by
  unfold uf at e
  split at e
  · cases e; exact .inr ⟨_, h⟩
  · cases e
  · subst e; exact .inl h
theorem rd_frz {G H : Hp} (s : Le G H) {p : Addr} {ws : List (Key × V)} (h : DcK G p (.dK ws)) : Rd H p (.dK ws) := by
  obtain ⟨o, h1, h2⟩ := h
  obtain ⟨o', h3, h4⟩ := s p o h1
  exact rd_of h3 (h4.trans h2)
/-- where a dict is: written out, or mutable at an address -/
def IsDct (M : Mst) (x : D) (kvs : List (Key × D)) : Prop := x = .dct kvs ∨ ∃ p, x = .raw (.ref p) ∧ M p = some (.dct kvs)
theorem isDct_at {F : Hp → Prop} {H : Hp} {x : D} {v : V} {kvs : List (Key × D)} (h : IsDct M x kvs) (ok : Ok X.K M (fun G => Rp X.K G x v ∧ F G) H) : ∃ p ws, v = .ref p ∧ Rd H p (.dK ws) ∧ Ok X.K M (fun G => RpK X.K G kvs ws ∧ Rp X.K G x v ∧ F G) H := by
  obtain ⟨G, s, hM, z1, z2⟩ := ok
  rcases h with rfl | ⟨p, rfl, hp⟩
  · obtain ⟨p, ws, rfl, h1, h2⟩ := z1.dct_inv
    exact ⟨p, ws, rfl, rd_frz s h1, G, s, hM, h2, z1, z2⟩
  · cases z1.raw_inv
    obtain ⟨_, ws, h1, h2⟩ := hM p _ hp
    exact ⟨p, ws, rfl, .inl h1, G, s, hM, h2, rp_raw, z2⟩
/-- k in d, k not in d -/
theorem we_din (hu : X.A.units + 1 < cLine) (h : WE Pm X a M ds fun y M1 => WE Pm X b M1 ds fun x M2 => ∃ k kvs, y = keyD k ∧ IsDct M2 x kvs ∧ Q (.bl (getD kvs k).isSome) M2) (hm : behindInMarks .In b = false := by first | exact nobehind _ (by decide) (by decide) | rfl | with_unfolding_all rfl) : WE Pm X (.Compare a [.In] [b] pos) M ds Q := by
  intro σ H F mF ok
  refine wE_of (pe_cmp (pc_din hu pe_w pe_w) hm) ?_
  refine run2 mF ok h fun v u H' y x M' ok' ⟨k, kvs, ey, hx, q⟩ => ?_
  subst ey
  obtain ⟨p, ws, rfl, hr, o2⟩ := isDct_at (F := fun G => Rp X.K G (keyD k) v ∧ EnvR X.K G ds σ ∧ F G) hx (ok'.imp fun _ _ ⟨z1, z2, z3⟩ => ⟨z2, z1, z3⟩)
  obtain rfl : v = kV k := o2.use fun _ _ z => z.2.2.1.key
  have e : (valV ws k).isSome = (getD kvs k).isSome := o2.use fun _ _ z => by
    have := z.1.get (k := k)
    cases q2 : getD kvs k with
    | none => rw [q2] at this; rw [show valV ws k = none from this]; rfl
    | some d => rw [q2] at this; obtain ⟨v, e, _⟩ := this; rw [e]; rfl
  refine ⟨p, valV ws k, rfl, .inl ⟨ws, k, hr, rfl, rfl⟩, _, M', o2.imp fun _ _ z => ⟨?_, z.2.2.2⟩, q⟩
  rw [e]; exact rp_bl
theorem we_dnotin (hu : X.A.units + 1 < cLine) (h : WE Pm X a M ds fun y M1 => WE Pm X b M1 ds fun x M2 => ∃ k kvs, y = keyD k ∧ IsDct M2 x kvs ∧ Q (.bl (!(getD kvs k).isSome)) M2) (hm : behindInMarks .NotIn b = false := by first | exact nobehind _ (by decide) (by decide) | rfl | with_unfolding_all rfl) : WE Pm X (.Compare a [.NotIn] [b] pos) M ds Q := by
  intro σ H F mF ok
  refine wE_of (pe_cmp (pc_dnotin hu pe_w pe_w) hm) ?_
  refine run2 mF ok h fun v u H' y x M' ok' ⟨k, kvs, ey, hx, q⟩ => ?_
  subst ey
  obtain ⟨p, ws, rfl, hr, o2⟩ := isDct_at (F := fun G => Rp X.K G (keyD k) v ∧ EnvR X.K G ds σ ∧ F G) hx (ok'.imp fun _ _ ⟨z1, z2, z3⟩ => ⟨z2, z1, z3⟩)
  obtain rfl : v = kV k := o2.use fun _ _ z => z.2.2.1.key
  have e : (valV ws k).isSome = (getD kvs k).isSome := o2.use fun _ _ z => by
    have := z.1.get (k := k)
    cases q2 : getD kvs k with
    | none => rw [q2] at this; rw [show valV ws k = none from this]; rfl
    | some d => rw [q2] at this; obtain ⟨v, e, _⟩ := this; rw [e]; rfl
  refine ⟨p, valV ws k, rfl, .inl ⟨ws, k, hr, rfl, rfl⟩, _, M', o2.imp fun _ _ z => ⟨?_, z.2.2.2⟩, q⟩
  rw [e]; exact rp_bl
/-- the truth of a flat test whose value is a bool -/
theorem wt_bl {Q : Bool → Mst → Prop} (h : WE Pm X a M ds fun d M1 => ∃ k, d = .bl k ∧ Q k M1) (he : ∀ whole, isTrue a X.env whole = (do let v ← whole; standAt a.pos; holding [v] (truthy v)) := by intro _; rfl) : WT Pm X a M ds Q :=
  wt_truth (fun σ H F mF ok => wE_mono (h σ H F mF ok) fun v H1 ⟨d, M1, o, k, e, q⟩ => ⟨d, M1, o, by subst e; exact tru_is rfl q⟩) he
/-- d[k] -/
theorem we_dget (hu : X.A.units + 1 < cLine) (h : WE Pm X a M ds fun x M1 => WE Pm X b M1 ds fun y M2 => ∃ k kvs d, y = keyD k ∧ IsDct M2 x kvs ∧ getD kvs k = some d ∧ Q d M2) (hs : NoSl b := by exact fun _ _ => rfl) : WE Pm X (.Subscript a b pos) M ds Q := by
  intro σ H F mF ok
  refine wE_of (pe_dget hu pe_w pe_w hs) ?_
  refine run2 mF ok h fun v u H' x y M' ok' ⟨k, kvs, d, ey, hx, hd, q⟩ => ?_
  subst ey
  obtain ⟨p, ws, rfl, hr, o2⟩ := isDct_at hx ok'
  obtain rfl : u = kV k := o2.use fun _ _ z => z.2.2.1.key
  obtain ⟨w, hw⟩ : ∃ w, valV ws k = some w := o2.use fun _ _ z => by
    have := z.1.get (k := k)
    rw [hd] at this
    exact ⟨this.choose, this.choose_spec.1⟩
  refine ⟨p, w, rfl, .inl ⟨ws, k, hr, rfl, hw.symm⟩, d, M', o2.imp fun _ _ z => ⟨?_, z.2.2.2⟩, q⟩
  have := z.1.get (k := k)
  rw [hd, hw] at this
  obtain ⟨v, e, r⟩ := this
  cases e
  exact r
/-- d[k] = v -/
theorem ws_dput (hu : X.A.units + 1 < cLine) {o i value : Expr} {pos' : Pos} (h : WE Pm X value M ds fun v M1 => WE Pm X o M1 ds fun x M2 => WE Pm X i M2 ds fun y M3 => ∃ k kvs p, y = keyD k ∧ x = .raw (.ref p) ∧ M3 p = some (.dct kvs) ∧ kvs.length < sizeLine ∧ Dn.nx ds (updM M3 p (.dct (putD kvs k v))))
    (hs : swapsWith value (some (.Subscript o i pos')) pos.line X.env = pure false := by rfl) : WS Pm X (.Assign [.Subscript o i pos'] value pos) M ds Dn := by
  intro σ H F mF ok
  refine wS_of (ps_dput hu pe_w pe_w pe_w hs) ?_
  refine wE_mono (h σ H F mF ok) fun v H1 ⟨d, M1, o1, h1⟩ => ?_
  refine wE_mono (h1 σ H1 (fun G => Rp X.K G d v ∧ F G) (mono_rp.and mF) (o1.imp fun _ _ ⟨p, q, r⟩ => ⟨q, p, r⟩)) fun u H2 ⟨x, M2, o2, h2⟩ => ?_
  refine wE_mono (h2 σ H2 (fun G => Rp X.K G x u ∧ Rp X.K G d v ∧ F G) (mono_rp.and (mono_rp.and mF)) (o2.imp fun _ _ ⟨p, q, r⟩ => ⟨q, p, r⟩)) fun y H3 ⟨dy, M3, o3, k, kvs, p, e1, e2, hp, hl, q⟩ => ?_
  subst e1 e2
  obtain rfl : u = .ref p := o3.use fun _ _ z => z.2.2.1.raw_inv
  obtain rfl : y = kV k := o3.use fun _ _ z => z.1.key
  obtain ⟨G, s, hM, z⟩ := id o3
  obtain ⟨_, ws, hw, hr⟩ := hM p _ hp
  refine ⟨p, _, rfl, .inl ⟨ws, k, hw, rfl, by rw [hr.length]; exact hl, rfl⟩, ds, _, ?_, q⟩
  exact (o3.setM (o := .dK (putK ws k v)) (d := .dct (putD kvs k d)) hp fun G' s' z' ⟨ws', e', r'⟩ => by
    rw [hw] at e'
    cases e'
    exact ⟨_, rfl, r'.put z'.2.2.2.1⟩).imp fun _ _ z => ⟨z.2.1, z.2.2.2.2⟩
theorem c_lenD (kvs : List (Key × D)) {x : D} (hx : IsDct M x kvs) (q : Q (.int kvs.length) M) : CallG Pm X (.builtin "len") [x] M Q := by
  intro vs H F mF ok
  obtain ⟨v, rfl⟩ : ∃ v, vs = [v] := ok.use fun _ _ z => let ⟨v, a, _⟩ := z.1.one_inv; ⟨v, a⟩
  obtain ⟨p, ws, rfl, hr, o2⟩ := isDct_at (F := F) hx (ok.imp fun _ _ z => ⟨by obtain ⟨v', e, r⟩ := z.1.one_inv; cases e; exact r, z.2⟩)
  intro pins s σ us I rv
  obtain ⟨u, rfl, r⟩ := vals1 rv
  cases r
  have hl : ws.length = kvs.length := o2.use fun _ _ z => z.1.length
  refine d_len I hr fun t s' I' => ⟨.int kvs.length, H, I', ⟨t, by rw [hl]⟩, _, M, o2.imp fun _ _ z => ⟨rp_int, z.2.2⟩, q⟩
/-! ### dict comprehensions, pure -/
theorem dct_len (kvs : List (Key × D)) (k : Key) (v : D) : (putD kvs k v).length ≤ kvs.length + 1 := by
  unfold putD
  split <;> simp
def foldDc {α : Type} (p : α → Bool) (kf : α → Key) (f : α → D) : List α → List (Key × D) := fun ys => ys.foldl (fun acc y => if p y = true then putD acc (kf y) (f y) else acc) []
def PureD {α : Type} (Pm : Hp → Prop) (X : Cx) (scope : Scope) (t : Tg) (vs : List Nat) (ifs : List Expr) (kx vx : Expr) (ds : Ds) (M1 : Mst) (ys : List α) (g : α → D) (p : α → Bool) (kf : α → Key) (f : α → D) : Prop :=
  ∀ y, y ∈ ys → ∀ M', Sub M1 M' → ∃ ds', bindT (wipeD ds vs) t (g y) = some ds' ∧ (InB X scope fun Y => WTs Pm Y ifs M' ds' fun k M2 => k = p y ∧ M2 = M') ∧ (p y = true → (InB X scope fun Y => WE Pm Y kx M' ds' fun d M2 => d = keyD (kf y) ∧ M2 = M') ∧ InB X scope fun Y => WE Pm Y vx M' ds' fun d M2 => d = f y ∧ M2 = M')
theorem we_dcP {α : Type} (t : Tg) (ys : List α) (g : α → D) (p : α → Bool) (kf : α → Key) (f : α → D) {tg iter kx vx : Expr} {ifs : List Expr} {scope : Scope} {own : List (Str × Nat)} (hc : X.calm = true) (hN : X.N.Nodup) (ok : BlkOk X.N X.env.scope scope own) (hsub : ∀ j ∈ slots t, j ∈ own.map (·.2))
    (hg : InB X scope fun Y => PG Y tg (gOf X.K t))
    (h : WI Pm X tg iter M ds fun n item M1 => n ≤ sizeLine ∧ LI ys g n item ∧ PureD Pm X scope t (own.map (·.2)) ifs kx vx ds M1 ys g p kf f ∧ Q (.dct (foldDc p kf f ys)) M1)
    (hs : ∀ x, foldedSetIterable iter X.env x = pure x := by intro _; rfl) : WE Pm X (.DictComp kx vx [⟨tg, iter, ifs, 0⟩] scope pos) M ds Q := by
  intro σ H F mF o
  obtain ⟨wi, pi, hw⟩ := h σ H F mF o
  refine wE_of (pe_dc hc hN pi ok hg (tt := uTs X scope ifs) (tk := uE X scope kx) (tv := uE X scope vx) (fun s H C cl fp => ⟨fun pins s' σ H Q I h => h _ _ _ _ _ pins s' I⟩) (fun s H C cl fp => ⟨fun pins s' σ H Q I h => h _ _ _ _ _ pins s' I⟩) (fun s H C cl fp => ⟨fun pins s' σ H Q I h => h _ _ _ _ _ pins s' I⟩) hs) ?_
  refine hw _ fun J H1 n item M1 F0 fd o1 ⟨hz, ⟨l1, l2⟩, hp, q⟩ => ?_
  intro P hP
  have hP1 : M1 P = none := o1.free hP
  have o1' : Ok X.K (updM M1 P (.dct [])) (fun G => F0 G ∧ EnvR X.K G ds σ ∧ F G) (upd H1 P (.dK [])) := o1.newM hP fun _ _ _ => ⟨[], rfl, RpK.nil⟩
  have mAll : MonoF Pm (fun G => F0 G ∧ EnvR X.K G ds σ ∧ F G) := fd.mono.and (mono_x mF)
  refine ⟨fun i m H' => m = n - i ∧ i ≤ n ∧ Ok X.K (updM M1 P (.dct (foldDc p kf f (ys.take i)))) (fun G => F0 G ∧ EnvR X.K G ds σ ∧ F G) H' ∧ (foldDc p kf f (ys.take i)).length ≤ i, ⟨n, by simp, Nat.zero_le _, o1', Nat.le_refl _⟩, ?_⟩
  rintro i m H' ⟨rfl, hi, o', hl⟩
  by_cases hlt : i < n
  · have hi' : i < ys.length := by omega
    have e1 : ys.take (i + 1) = ys.take i ++ [ys[i]] := by rw [List.take_add_one, List.getElem?_eq_getElem hi']; rfl
    have e2 : foldDc p kf f (ys.take (i + 1)) = if p ys[i] = true then putD (foldDc p kf f (ys.take i)) (kf ys[i]) (f ys[i]) else foldDc p kf f (ys.take i) := by
      unfold foldDc
      rw [e1, List.foldl_append]
      rfl
    obtain ⟨ds', hb, ht, hkv⟩ := hp ys[i] (List.getElem_mem hi') _ (sub_upd (d := .dct (foldDc p kf f (ys.take i))) hP1)
    refine .inr ⟨o'.use fun G s z => fd.goes i H' G s z.1 hlt, fun H2 => Ok X.K (updM M1 P (.dct (foldDc p kf f (ys.take (i + 1))))) (fun G => F0 G ∧ EnvR X.K G ds σ ∧ F G) H2 ∧ (foldDc p kf f (ys.take (i + 1))).length ≤ i + 1,
      fun H2 ⟨o2, b2⟩ => ⟨n - (i + 1), by omega, rfl, hlt, o2, b2⟩, fun x H2 y => ?_⟩
    have o2 := fd.gives i H' _ (fun G => EnvR X.K G ds σ ∧ F G) (mono_x mF) o' hlt x H2 y
    rw [l2 i hi'] at o2
    refine bind_ok (F := fun G => F0 G ∧ EnvR X.K G ds σ ∧ F G) (o2.imp fun _ _ ⟨z1, z2, z3, z4⟩ => ⟨z1, z3.wipe _, z2, z3, z4⟩) hb fun σ3 ⟨us, e3⟩ o3 => ?_
    refine ⟨by rw [e3, wipe_setAll hsub, wipe_wipe], fun s0 H0 C cl fp => ?_⟩
    intro pins s I
    refine thn (ht s0 H0 C cl fp σ3 H2 _ mAll o3 pins s I) fun k s1 ⟨H3, I3, M2, o4, k1, k2⟩ => ⟨H3, I3, ?_⟩
    subst k2
    cases k with
    | false =>
      have hn : ¬ p ys[i] = true := by rw [← k1]; exact Bool.false_ne_true
      rw [if_neg hn] at e2
      exact iteF ⟨by rw [e2]; exact o4.imp fun _ _ z => z.2, by rw [e2]; omega⟩
    | true =>
      obtain ⟨hk, hv⟩ := hkv k1.symm
      rw [if_pos k1.symm] at e2
      refine iteT fun s0 H0 C cl fp => ?_
      refine wE_mono (hk s0 H0 C cl fp σ3 H3 _ mAll o4) fun vk H4 ⟨dk, M4, o5, d1, d2⟩ => ?_
      subst d1 d2
      intro s0 H0 C cl fp
      refine wE_mono (hv s0 H0 C cl fp σ3 H4 (fun G => Rp X.K G (keyD (kf ys[i])) vk ∧ F0 G ∧ EnvR X.K G ds σ ∧ F G) (mono_rp.and mAll) (o5.imp fun _ _ ⟨z1, z2, z3⟩ => ⟨z2, z1, z3⟩)) fun vv H5 ⟨dv, M5, o6, d1, d2⟩ => ?_
      subst d1 d2
      obtain ⟨G, s, hM, z⟩ := id o6
      obtain ⟨_, ws, hw, hr⟩ := hM P _ updM_same
      have hl2 := hr.length
      refine ⟨ws, kf ys[i], z.2.2.1.key, hw, by omega, ?_, by rw [e2]; have := dct_len (foldDc p kf f (ys.take i)) (kf ys[i]) (f ys[i]); omega⟩
      have o7 := o6.setM (o := .dK (putK ws (kf ys[i]) vv)) (d := .dct (putD (foldDc p kf f (ys.take i)) (kf ys[i]) (f ys[i]))) updM_same fun G' s' z' ⟨ws', e', r'⟩ => by
        rw [hw] at e'
        cases e'
        exact ⟨_, rfl, r'.put z'.1⟩
      rw [updM_updM] at o7
      rw [e2]
      exact o7.imp fun _ _ z => z.2.2.2
  · have e : i = n := by omega
    subst e
    refine .inl ⟨o'.use fun G s z => fd.stops H' G s z.1, .dct (foldDc p kf f ys), M1, ?_, q⟩
    obtain ⟨G, s, hM, z⟩ := id o'
    obtain ⟨_, ws, hw, hr⟩ := hM P _ updM_same
    have o7 := o'.freeze mAll updM_same hw
    rw [delM_updM' hP1] at o7
    refine o7.imp fun G s z => ?_
    obtain ⟨g1, ⟨ws', e', r'⟩, g2, g3, g4⟩ := z
    cases e'
    rw [l1, List.take_length] at r'
    exact ⟨rp_dct ⟨_, g1, rfl⟩ r', g3, g4⟩
/-- all keys new: the dict is the list -/
theorem foldDc_map {α : Type} (kf : α → Key) (f : α → D) (ys : List α) (h : (ys.map kf).Nodup) : foldDc (fun _ => true) kf f ys = ys.map fun y => (kf y, f y) := by
  have gen : ∀ (ys : List α) (acc : List (Key × D)), (acc.map (·.1) ++ ys.map kf).Nodup → ys.foldl (fun acc y => if true = true then putD acc (kf y) (f y) else acc) acc = acc ++ ys.map fun y => (kf y, f y) := by
    intro ys
    induction ys with
    | nil => intro acc _; simp
    | cons y ys ih =>
      intro acc hn
      rw [List.foldl_cons, if_pos rfl]
      have hy : ¬ (acc.any fun kv => decide (kv.1 = kf y)) = true := by
        intro q
        obtain ⟨kv, h1, h2⟩ := List.any_eq_true.mp q
        rw [List.map_cons] at hn
        obtain ⟨_, _, h3⟩ := List.nodup_append.mp hn
        exact h3 _ (List.mem_map.mpr ⟨kv, h1, rfl⟩) _ List.mem_cons_self (of_decide_eq_true h2)
      have e : putD acc (kf y) (f y) = acc ++ [(kf y, f y)] := by unfold putD; rw [if_neg hy]
      rw [e, ih _ (by rw [List.map_append]; simpa using hn)]
      simp
  have := gen ys [] (by simpa using h)
  simpa [foldDc] using this
end
end DL
namespace DL
open PySem PySem.Spec L2
open PyProof.Rows hiding St
section
variable {X : Cx} {Pm : Hp → Prop} {M : Mst} {ds : Ds} {pos : Pos} {a b : Expr}
theorem wt_din (hu : X.A.units + 1 < cLine) {Q : Bool → Mst → Prop} (h : WE Pm X a M ds fun y M1 => WE Pm X b M1 ds fun x M2 => ∃ k kvs, y = keyD k ∧ IsDct M2 x kvs ∧ Q (getD kvs k).isSome M2) (hm : behindInMarks .In b = false := by first | exact nobehind _ (by decide) (by decide) | rfl | with_unfolding_all rfl) : WT Pm X (.Compare a [.In] [b] pos) M ds Q := by
  intro σ H F mF ok
  refine wT_of (pt_cmp (pc_din hu pe_w pe_w) hm) ?_
  refine run2 mF ok h fun v u H' y x M' ok' ⟨k, kvs, ey, hx, q⟩ => ?_
  subst ey
  obtain ⟨p, ws, rfl, hr, o2⟩ := isDct_at (F := fun G => Rp X.K G (keyD k) v ∧ EnvR X.K G ds σ ∧ F G) hx (ok'.imp fun _ _ ⟨z1, z2, z3⟩ => ⟨z2, z1, z3⟩)
  obtain rfl : v = kV k := o2.use fun _ _ z => z.2.2.1.key
  have e : (valV ws k).isSome = (getD kvs k).isSome := o2.use fun _ _ z => by
    have := z.1.get (k := k)
    cases q2 : getD kvs k with
    | none => rw [q2] at this; rw [show valV ws k = none from this]; rfl
    | some d => rw [q2] at this; obtain ⟨v, e, _⟩ := this; rw [e]; rfl
  exact ⟨p, valV ws k, rfl, .inl ⟨ws, k, hr, rfl, rfl⟩, (valV ws k).isSome, rfl, M', o2.imp fun _ _ z => z.2.2.2, by rw [e]; exact q⟩
theorem wt_dnotin (hu : X.A.units + 1 < cLine) {Q : Bool → Mst → Prop} (h : WE Pm X a M ds fun y M1 => WE Pm X b M1 ds fun x M2 => ∃ k kvs, y = keyD k ∧ IsDct M2 x kvs ∧ Q (!(getD kvs k).isSome) M2) (hm : behindInMarks .NotIn b = false := by first | exact nobehind _ (by decide) (by decide) | rfl | with_unfolding_all rfl) : WT Pm X (.Compare a [.NotIn] [b] pos) M ds Q := by
  intro σ H F mF ok
  refine wT_of (pt_cmp (pc_dnotin hu pe_w pe_w) hm) ?_
  refine run2 mF ok h fun v u H' y x M' ok' ⟨k, kvs, ey, hx, q⟩ => ?_
  subst ey
  obtain ⟨p, ws, rfl, hr, o2⟩ := isDct_at (F := fun G => Rp X.K G (keyD k) v ∧ EnvR X.K G ds σ ∧ F G) hx (ok'.imp fun _ _ ⟨z1, z2, z3⟩ => ⟨z2, z1, z3⟩)
  obtain rfl : v = kV k := o2.use fun _ _ z => z.2.2.1.key
  have e : (valV ws k).isSome = (getD kvs k).isSome := o2.use fun _ _ z => by
    have := z.1.get (k := k)
    cases q2 : getD kvs k with
    | none => rw [q2] at this; rw [show valV ws k = none from this]; rfl
    | some d => rw [q2] at this; obtain ⟨v, e, _⟩ := this; rw [e]; rfl
  exact ⟨p, valV ws k, rfl, .inl ⟨ws, k, hr, rfl, rfl⟩, !(valV ws k).isSome, rfl, M', o2.imp fun _ _ z => z.2.2.2, by rw [e]; exact q⟩
end
end DL

/-! DL8: objects, calls of the text's defs, over data -/
namespace DL
open PySem PySem.Spec L2
open PyProof.Rows hiding St
section
variable {X : Cx} {Pm : Hp → Prop} {M : Mst} {ds : Ds} {Q : QD} {pos : Pos} {a b c e : Expr} {Dn : EndD}

/-! ### objects -/
theorem RpF.nil_inv {K : PySem.W.Frag} {G : Hp} {ws : List (Str × V)} (h : RpF K G [] ws) : ws = [] := by simpa only [RpF] using h
theorem RpF.cons_inv {K : PySem.W.Frag} {G : Hp} {k : Str} {d : D} {kvs : List (Str × D)} {ws : List (Str × V)} (h : RpF K G ((k, d) :: kvs) ws) : ∃ v r, ws = (k, v) :: r ∧ Rp K G d v ∧ RpF K G kvs r := by simpa only [RpF] using h
theorem RpF.nil {K : PySem.W.Frag} {G : Hp} : RpF K G [] [] := by simp only [RpF]
theorem RpF.cons {K : PySem.W.Frag} {G : Hp} {k : Str} {d : D} {v : V} {kvs : List (Str × D)} {ws : List (Str × V)} (h : Rp K G d v) (t : RpF K G kvs ws) : RpF K G ((k, d) :: kvs) ((k, v) :: ws) := by
  simp only [RpF]; exact ⟨v, ws, rfl, h, t⟩
theorem RpF.some {K : PySem.W.Frag} {G : Hp} {f : Str} {d : D} : ∀ {fs : List (Str × D)} {ws : List (Str × V)}, RpF K G fs ws → fs.lookup f = some d → ∃ v, ws.lookup f = some v ∧ Rp K G d v
  | [], _, _, e => by cases e
  | (k, d') :: fs, _, h, e => by
    obtain ⟨v, r, rfl, h1, h2⟩ := h.cons_inv
    cases q : (f == k) with
    | true =>
      simp only [List.lookup_cons, q] at e ⊢
      cases e
      exact ⟨v, rfl, h1⟩
    | false =>
      simp only [List.lookup_cons, q] at e ⊢
      exact RpF.some h2 e
theorem RpF.none {K : PySem.W.Frag} {G : Hp} {f : Str} : ∀ {fs : List (Str × D)} {ws : List (Str × V)}, RpF K G fs ws → fs.lookup f = none → ws.lookup f = none
  | [], _, h, _ => by cases h.nil_inv; rfl
  | (k, d') :: fs, _, h, e => by
    obtain ⟨v, r, rfl, h1, h2⟩ := h.cons_inv
    cases q : (f == k) with
    | true =>
      simp only [List.lookup_cons, q] at e
      cases e
    | false =>
      simp only [List.lookup_cons, q] at e ⊢
      exact RpF.none h2 e
def putFD (f : Str) (v : D) : List (Str × D) → List (Str × D)
  | [] => [(f, v)]
  | (g, x) :: r => if g = f then (g, v) :: r else (g, x) :: putFD f v r
theorem RpF.put {K : PySem.W.Frag} {G : Hp} {f : Str} {d : D} {v : V} (q : Rp K G d v) : ∀ {fs : List (Str × D)} {ws : List (Str × V)}, RpF K G fs ws → RpF K G (putFD f d fs) (putF f v ws)
  | [], _, h => by cases h.nil_inv; exact RpF.cons q RpF.nil
  | (k, d') :: fs, _, h => by
    obtain ⟨v', r, rfl, h1, h2⟩ := h.cons_inv
    unfold putFD putF
    by_cases e : k = f
    · rw [if_pos e, if_pos e]; exact RpF.cons q h2
    · rw [if_neg e, if_neg e]; exact RpF.cons h1 (RpF.put q h2)
theorem RpF.length {K : PySem.W.Frag} {G : Hp} : ∀ {fs : List (Str × D)} {ws : List (Str × V)}, RpF K G fs ws → ws.length = fs.length
  | [], _, h => by cases h.nil_inv; rfl
  | (k, d) :: kvs, _, h => by
    obtain ⟨v, r, rfl, h1, h2⟩ := h.cons_inv
    simp [RpF.length h2]
/-- an object, written out or mutable at an address -/
def IsObj (M : Mst) (x : D) (C : Addr) (fs : List (Str × D)) : Prop := x = .obj C fs ∨ ∃ p, x = .raw (.ref p) ∧ M p = some (.obj C fs)
theorem isObj_at {F : Hp → Prop} {H : Hp} {x : D} {v : V} {C : Addr} {fs : List (Str × D)} (h : IsObj M x C fs) (ok : Ok X.K M (fun G => Rp X.K G x v ∧ F G) H) : ∃ p dx ws, v = .ref p ∧ H p = some (.ins C dx ws) ∧ Ok X.K M (fun G => RpF X.K G fs ws ∧ Rp X.K G x v ∧ F G) H := by
  obtain ⟨G, s, hM, z1, z2⟩ := ok
  rcases h with rfl | ⟨p, rfl, hp⟩
  · obtain ⟨p, dx, ws, rfl, h1, h2⟩ := z1.obj_inv
    exact ⟨p, dx, ws, rfl, s.at h1, G, s, hM, h2, z1, z2⟩
  · cases z1.raw_inv
    obtain ⟨_, dx, ws, h1, h2⟩ := hM p _ hp
    exact ⟨p, dx, ws, rfl, h1, G, s, hM, h2, rp_raw, z2⟩
/-- o.f -/
theorem we_fld {f : Str} (h : WE Pm X a M ds fun x M1 => ∃ C fs d, IsObj M1 x C fs ∧ Cls X.K C ∧ NoAttr X.K C f ∧ fs.lookup f = some d ∧ Q d M1) (hb : attributeBase a f X.env (eval a X.env) = eval a X.env := by rfl) : WE Pm X (.Attribute a f pos) M ds Q := by
  intro σ H F mF ok
  refine wE_of (pe_fld pe_w hb) ?_
  refine wE_mono (h σ H F mF ok) fun v H1 ⟨x, M1, o1, C, fs, d, hx, cl, na, hl, q⟩ => ?_
  obtain ⟨p, dx, ws, rfl, hH, o2⟩ := isObj_at hx o1
  obtain ⟨w, hw⟩ : ∃ w, ws.lookup f = some w := o2.use fun _ _ z => let ⟨w, e, _⟩ := z.1.some hl; ⟨w, e⟩
  refine ⟨p, C, dx, ws, w, rfl, hH, cl, na, hw, d, M1, o2.imp fun _ _ z => ⟨?_, z.2.2⟩, q⟩
  obtain ⟨w', e, r⟩ := z.1.some hl
  rw [hw] at e
  cases e
  exact r
/-- o.f = e, o mutable -/
theorem ws_fld {f : Str} {pos' : Pos} (h : WE Pm X e M ds fun d M1 => WE Pm X a M1 ds fun x M2 => ∃ p C fs, x = .raw (.ref p) ∧ M2 p = some (.obj C fs) ∧ Cls X.K C ∧ NoAttr X.K C f ∧ fs.length < 1000 ∧ Dn.nx ds (updM M2 p (.obj C (putFD f d fs))))
    (hs : swapsWith e (some (.Attribute a f pos')) pos.line X.env = pure false := by rfl) : WS Pm X (.Assign [.Attribute a f pos'] e pos) M ds Dn := by
  intro σ H F mF ok
  refine wS_of (ps_fld pe_w pe_w hs) ?_
  refine wE_mono (h σ H F mF ok) fun v H1 ⟨d, M1, o1, h1⟩ => ?_
  refine wE_mono (h1 σ H1 (fun G => Rp X.K G d v ∧ F G) (mono_rp.and mF) (o1.imp fun _ _ ⟨p, q, r⟩ => ⟨q, p, r⟩)) fun u H2 ⟨x, M2, o2, p, C, fs, e1, hp, cl, na, hl, q⟩ => ?_
  subst e1
  obtain rfl : u = .ref p := o2.use fun _ _ z => z.1.raw_inv
  obtain ⟨G, s, hM, z⟩ := id o2
  obtain ⟨_, dx, ws, hw, hr⟩ := hM p _ hp
  refine ⟨p, C, dx, ws, rfl, hw, cl, na, by rw [hr.length]; exact hl, ds, _, ?_, q⟩
  exact (o2.setM (o := .ins C dx (putF f v ws)) (d := .obj C (putFD f d fs)) hp fun G' s' z' ⟨dx', ws', e', r'⟩ => by
    rw [hw] at e'
    cases e'
    exact ⟨dx, _, rfl, r'.put z'.2.2.1⟩).imp fun _ _ z => ⟨z.2.1, z.2.2.2⟩

/-! ### what a def promises, over data -/
abbrev SpD := List D → Mst → QD → Prop
def toSp (K : PySem.W.Frag) (sp : SpD) : Sp := fun vs H Q _ => ∃ xs M F Q0, Mono1 F ∧ Ok K M (fun G => RpL K G xs vs ∧ F G) H ∧ sp xs M Q0 ∧ ∀ v H', EndE K F Q0 v H' → Q v H'
section
variable {P : Program} {w : World} {K : PySem.W.Frag} {mg : Str → Option Value} {base : Heap} {x qual : Str} {params : Arguments} {body : List Stmt} {scope : Scope} {dvs : List V} {kws : List (Str × V)} {f : Addr} {fd : FuncData}
/-- the context of a body that lets no exception out -/
abbrev cx0 (P : Program) (w : World) (K : PySem.W.Frag) (mg : Str → Option Value) (base : Heap) (N : List Str) (qual : Str) (scope : Scope) (f : Addr) (cdv : Value) (A : Around) (outer : List Env) (s : Shared) (H : Hp) (E : XK) : Cx := (cxOf CX0 P w K mg base N qual scope f cdv A outer s H E).nox
theorem fnD {N ps : List Str} {k : Nat} {sp : SpD} (F : FunD K x qual params body scope dvs kws f fd) (S : FnScope N ps scope) (len : ∀ xs M Q, sp xs M Q → xs.length = ps.length)
    (hb : ∀ (cdv : Value) (A : Around) (outer : List Env) (s : Shared) (H : Hp) (E : XK), Room k (cx0 P w K mg base N qual scope f cdv A outer s H E).A → ∀ xs M Q, sp xs M Q →
      WSs PmT (cx0 P w K mg base N qual scope f cdv A outer s H E) body M (xs.map some ++ List.replicate (N.length - ps.length) none) { nx := fun _ M' => Q .non M', rt := Q }) : FnOk P w K mg base CX0 (k + 1) f fd ps (toSp K sp) := by
  refine F.ok S (fun vs H Q E ⟨xs, M, F0, Q0, mF, ok, hsp, hq⟩ => ?_) (fun cdv A outer s H vs Q E hr h => ⟨wSs (cx0 P w K mg base N qual scope f cdv A outer s H E) body, PSs.nox pss_w, ?_⟩)
  · have := len xs M Q0 hsp
    exact ok.use fun _ _ z => by rw [z.1.length, this]
  · obtain ⟨xs, M, F0, Q0, mF, ok, hsp, hq⟩ := h
    have hl := len xs M Q0 hsp
    have hv : vs.length = ps.length := ok.use fun _ _ z => by rw [z.1.length, hl]
    have h1 := hb cdv A outer s H E hr xs M Q0 hsp (L2.start N vs) H F0 mF.to (ok.imp fun G _ z => ⟨by
      unfold L2.start
      rw [hv]
      exact EnvR.start z.1, z.2⟩)
    exact wSs_mono h1 (fun σ' H' ⟨ds', M', o, q⟩ => hq .non H' ⟨.non, M', o.imp fun _ _ z => ⟨rp_non, z.2⟩, q⟩) (fun v H' z => hq v H' z) (fun σ' H' ⟨_, _, _, z⟩ => z) (fun σ' H' ⟨_, _, _, z⟩ => z)
end
structure CalD (P : Program) (w : World) (K : PySem.W.Frag) (mg : Str → Option Value) (base : Heap) (k : Nat) (x : Str) (sp : SpD) (dd : List D) : Prop where
  ex : ∃ (f : Addr) (fd : FuncData) (ps : List Str) (dvs : List V) (us : List Value), FnOk P w K mg base CX0 k f fd ps (toSp K sp) ∧ mg x = some (.ref f) ∧ PySem.W.keepIn K (.ref f) = true ∧ Binds K fd ps us ∧ Vals dvs us ∧ ∀ G, RpL K G dd dvs
structure MetD (P : Program) (w : World) (K : PySem.W.Frag) (mg : Str → Option Value) (base : Heap) (k : Nat) (C : Addr) (m : Str) (sp : SpD) (dd : List D) : Prop where
  ex : ∃ (f : Addr) (fd : FuncData) (ps : List Str) (dvs : List V) (us : List Value), FnOk P w K mg base CX0 k f fd ps (toSp K sp) ∧ Cls K C ∧ Meth K C m f ∧ Binds K fd ps us ∧ Vals dvs us ∧ ∀ G, RpL K G dd dvs
structure MakD (P : Program) (w : World) (K : PySem.W.Frag) (mg : Str → Option Value) (base : Heap) (k : Nat) (x : Str) (C : Addr) (sp : SpD) (dd : List D) : Prop where
  ex : ∃ (f : Addr) (fd : FuncData) (ps : List Str) (dvs : List V) (us : List Value), FnOk P w K mg base CX0 k f fd ps (toSp K sp) ∧ Mk K C f ∧ mg x = some (.ref C) ∧ Binds K fd ps us ∧ Vals dvs us ∧ ∀ G, RpL K G dd dvs
section
variable {j k : Nat} {x m : Str} {sp : SpD} {dd : List D} {p apos : Pos} {o : Expr} {es : List Expr} {C : Addr}
theorem we_cal (g : CalD X.prog X.w X.K X.mg X.base k x sp dd) (hr : Room j X.A) (hk : k ≤ j) (h : WA Pm X (e :: es) M ds fun xs M1 => sp (xs ++ dd) M1 Q) (hg : Gl X x := by rfl) (hdb : (x == ("__debug__" : Str)) = false := by decide)
    (he : starEach (e :: es) X.env = (false, eval e X.env) :: starEach es X.env := by rfl) (hpl : (backTo pos (starEach es X.env)).any (·.1) = false := by rfl) : WE Pm X (.Call (.Name x p) (e :: es) [] pos) M ds Q := by
  intro σ H F mF ok
  obtain ⟨f, fd, ps, dvs, us, F1, hm, kp, hb, hd, hdd⟩ := g.ex
  refine wE_of (pe_call F1 (hr.mono hk) hg hm kp hb hd (E := E0) pass0 pa_w hdb he hpl) ?_
  exact wA_mono (h σ H F mF ok) fun vs H1 ⟨xs, M1, o1, q⟩ => ⟨xs ++ dd, M1, _, Q, (mono_x mF).m, o1.imp fun G _ z => ⟨z.1.append (hdd G), z.2⟩, q, fun v H' z => z⟩
theorem we_cal0 (g : CalD X.prog X.w X.K X.mg X.base k x sp dd) (hr : Room j X.A) (hk : k ≤ j) (h : sp dd M Q) (hg : Gl X x := by rfl) (hdb : (x == ("__debug__" : Str)) = false := by decide) : WE Pm X (.Call (.Name x p) [] [] pos) M ds Q := by
  intro σ H F mF ok
  obtain ⟨f, fd, ps, dvs, us, F1, hm, kp, hb, hd, hdd⟩ := g.ex
  exact wE_of (pe_call0 F1 (hr.mono hk) hg hm kp hb hd (E := E0) pass0 hdb) ⟨dd, M, _, Q, (mono_x mF).m, ok.imp fun G _ z => ⟨hdd G, z⟩, h, fun v H' z => z⟩
theorem we_met {pl : Sem Bool} (g : MetD X.prog X.w X.K X.mg X.base k C m sp dd) (hr : Room j X.A) (hk : k ≤ j) (h : WE Pm X o M ds fun x M1 => ∃ fs, IsObj M1 x C fs ∧ fs.lookup m = none ∧ WA Pm X (e :: es) M1 ds fun xs M2 => sp (x :: (xs ++ dd)) M2 Q)
    (hst : starEach (e :: es) X.env = (false, eval e X.env) :: starEach es X.env := by rfl) (hpl : (backTo pos (starEach es X.env)).any (·.1) = false := by rfl)
    (ht : eval (.Call (.Attribute o m apos) (e :: es) [] pos) X.env = (do
      let ov ← eval o X.env
      standAt apos.atName
      let (f, first) ← holding [ov] (getMethod ov m pl)
      callWith pos f first (backTo pos (starEach (e :: es) X.env)) (backToKw pos (keywordEach [] X.env))) := by rfl) : WE Pm X (.Call (.Attribute o m apos) (e :: es) [] pos) M ds Q := by
  intro σ H F mF ok
  obtain ⟨f, fd, ps, dvs, us, F1, cl, hm, hb, hd, hdd⟩ := g.ex
  refine wE_of (pe_meth (pl := pl) pe_w cl hm F1 (hr.mono hk) hb hd (E := E0) pass0 pa_w hst hpl ht) ?_
  refine wE_mono (h σ H F mF ok) fun v H1 ⟨d, M1, o1, fs, hx, hl, h2⟩ => ?_
  obtain ⟨q, dx, ws, rfl, hH, o2⟩ := isObj_at hx o1
  refine ⟨q, dx, ws, rfl, hH, o2.use fun _ _ z => z.1.none hl, ?_⟩
  exact wA_mono (h2 σ H1 (fun G => Rp X.K G d (.ref q) ∧ F G) (mono_rp.and mF) (o1.imp fun _ _ ⟨z1, z2, z3⟩ => ⟨z2, z1, z3⟩)) fun vs H2 ⟨xs, M2, o3, q2⟩ =>
    ⟨d :: (xs ++ dd), M2, _, Q, (mono_x mF).m, o3.imp fun G _ z => ⟨RpL.cons z.2.2.1 (z.1.append (hdd G)), z.2.1, z.2.2.2⟩, q2, fun v H' z => z⟩
theorem we_met0 {pl : Sem Bool} (g : MetD X.prog X.w X.K X.mg X.base k C m sp dd) (hr : Room j X.A) (hk : k ≤ j) (h : WE Pm X o M ds fun x M1 => ∃ fs, IsObj M1 x C fs ∧ fs.lookup m = none ∧ sp (x :: dd) M1 Q)
    (ht : eval (.Call (.Attribute o m apos) [] [] pos) X.env = (do
      let ov ← eval o X.env
      standAt apos.atName
      let (f, first) ← holding [ov] (getMethod ov m pl)
      callWith pos f first (backTo pos (starEach [] X.env)) (backToKw pos (keywordEach [] X.env))) := by rfl) : WE Pm X (.Call (.Attribute o m apos) [] [] pos) M ds Q := by
  intro σ H F mF ok
  obtain ⟨f, fd, ps, dvs, us, F1, cl, hm, hb, hd, hdd⟩ := g.ex
  refine wE_of (pe_meth0 (pl := pl) pe_w cl hm F1 (hr.mono hk) hb hd (E := E0) pass0 ht) ?_
  refine wE_mono (h σ H F mF ok) fun v H1 ⟨d, M1, o1, fs, hx, hl, h2⟩ => ?_
  obtain ⟨q, dx, ws, rfl, hH, o2⟩ := isObj_at hx o1
  exact ⟨q, dx, ws, rfl, hH, o2.use fun _ _ z => z.1.none hl, d :: dd, M1, _, Q, (mono_x mF).m, o1.imp fun G _ z => ⟨RpL.cons z.1 (hdd G), z.2⟩, h2, fun v H' z => z⟩
/-- what a constructor's call asks of __init__: the new object, frozen behind it -/
def MkEnd (C : Addr) (q : Addr) (Q : QD) : QD := fun d M2 => d = .non ∧ ∃ fs, M2 q = some (.obj C fs) ∧ Q (.obj C fs) (delM M2 q)
theorem mk_core {H1 : Hp} {F : Hp → Prop} {vs : List V} {xs : List D} {M1 : Mst} {dvs : List V} (mF : MonoF Pm F) (o1 : Ok X.K M1 (fun G => RpL X.K G xs vs ∧ F G) H1) (hdd : ∀ G, RpL X.K G dd dvs)
    (q : ∀ q, M1 q = none → sp (.raw (.ref q) :: (xs ++ dd)) (updM M1 q (.obj C [])) (MkEnd C q Q)) (x dx : Addr) (hx : H1 x = none) (hdx : H1 dx = none) (ne : dx ≠ x) :
    toSp X.K sp (.ref x :: (vs ++ dvs)) (upd (upd H1 dx (.own x)) x (.ins C dx [])) (fun v H2 => v = .non ∧ EndE X.K F Q (.ref x) H2) E0 := by
  have o2 := o1.new (o := .own x) (mono_rpl.and mF) hdx
  have o3 := o2.newM (p := x) (o := .ins C dx []) (d := .obj C []) (by rw [upd_ne (Ne.symm ne)]; exact hx) fun _ _ _ => ⟨dx, [], rfl, RpF.nil⟩
  refine ⟨.raw (.ref x) :: (xs ++ dd), _, F, _, mF.m, o3.imp fun G _ z => ⟨RpL.cons rp_raw (z.2.1.append (hdd G)), z.2.2⟩, q x (o1.free hx), fun v H' ⟨d, M2, o4, e, fs, hfs, q2⟩ => ?_⟩
  subst e
  have ev : v = .non := o4.use fun _ _ z => z.1.non_inv
  refine ⟨ev, .obj C fs, delM M2 x, ?_, q2⟩
  obtain ⟨G, s, hM, z⟩ := id o4
  obtain ⟨_, dx', ws, hw, hr⟩ := hM x _ hfs
  refine (o4.freeze (mono_rp.and mF) hfs hw).imp fun G s z => ?_
  obtain ⟨g1, ⟨dx2, ws', e', r'⟩, g2, g3⟩ := z
  cases e'
  exact ⟨rp_obj g1 r', g3⟩
theorem we_mak (g : MakD X.prog X.w X.K X.mg X.base k x C sp dd) (hr : Room j X.A) (hk : k + 1 ≤ j) (h : WA Pm X (e :: es) M ds fun xs M1 => ∀ q, M1 q = none → sp (.raw (.ref q) :: (xs ++ dd)) (updM M1 q (.obj C [])) (MkEnd C q Q)) (hg : Gl X x := by rfl) (hdb : (x == ("__debug__" : Str)) = false := by decide)
    (he : starEach (e :: es) X.env = (false, eval e X.env) :: starEach es X.env := by rfl) (hpl : (backTo pos (starEach es X.env)).any (·.1) = false := by rfl) : WE Pm X (.Call (.Name x p) (e :: es) [] pos) M ds Q := by
  intro σ H F mF ok
  obtain ⟨f, fd, ps, dvs, us, F1, mk, hm, hb, hd, hdd⟩ := g.ex
  refine wE_of (pe_make mk F1 (hr.mono hk) hg hm hb hd (E := E0) pass0 pa_w hdb he hpl) ?_
  exact wA_mono (h σ H F mF ok) fun vs H1 ⟨xs, M1, o1, q⟩ x dx hx hdx ne => mk_core (mono_x mF) o1 hdd q x dx hx hdx ne
theorem we_mak0 (g : MakD X.prog X.w X.K X.mg X.base k x C sp dd) (hr : Room j X.A) (hk : k + 1 ≤ j) (h : ∀ q, M q = none → sp (.raw (.ref q) :: dd) (updM M q (.obj C [])) (MkEnd C q Q)) (hg : Gl X x := by rfl) (hdb : (x == ("__debug__" : Str)) = false := by decide) : WE Pm X (.Call (.Name x p) [] [] pos) M ds Q := by
  intro σ H F mF ok
  obtain ⟨f, fd, ps, dvs, us, F1, mk, hm, hb, hd, hdd⟩ := g.ex
  refine wE_of (pe_make0 mk F1 (hr.mono hk) hg hm hb hd (E := E0) pass0 hdb) ?_
  exact fun x dx hx hdx ne => mk_core (xs := []) (vs := []) (mono_x mF) (ok.imp fun _ _ z => ⟨RpL.nil, z⟩) hdd h x dx hx hdx ne
/-! ### own ==, in, str -/
/-- the callee of an operator, by its values -/
theorem run_own {pins : List (Addr × Obj)} {σ : L2.St} {H : Hp} {s : Shared} {f : Addr} {fd : FuncData} {ps : List Str} {us : List Value} {vs : List V} {xs : List D} {F : Hp → Prop} (F1 : FnOk X.prog X.w X.K X.mg X.base CX0 k f fd ps (toSp X.K sp)) (hb : Binds X.K fd ps []) (hr : Room k X.A)
    (I : Inv X pins σ H s) (r : Vals vs us) (mF : MonoF Pm F) (ok : Ok X.K M (fun G => RpL X.K G xs vs ∧ F G) H) (h : sp xs M Q) : wpAny (model X.prog X.w) X.A (call (.ref f) us) (EP X pins σ (EndE X.K F Q)) X.xe s :=
  run_fn (E := E0) F1 hr hb .nil pass0 I r (by rw [List.append_nil]; exact ⟨xs, M, F, Q, mF.m, ok, h, fun v H' z => z⟩)
theorem inst_at {pins : List (Addr × Obj)} {σ : L2.St} {H : Hp} {s : Shared} {q dx : Addr} {ws : List (Str × V)} (I : Inv X pins σ H s) (h : H q = some (.ins C dx ws)) : ∃ od, PySem.W.InstAt s.heap q (PySem.W.instObj C dx) C (some od) := by
  obtain ⟨mA, O, _⟩ := ins_get I.hok h
  obtain ⟨od, J, _⟩ := O.look
  exact ⟨od, J⟩
theorem b_own {op : CmpOp} {f : Addr} {fd : FuncData} {ps : List Str} {C' : Addr} {x y : D} {fs gs : List (Str × D)} (hop : ∀ a b, compareOp op a b = richCompare op a b) (hs : PySem.W.findIn X.K (.ref C) (cmpInfo op).2.1 = some (some (.ref f))) (hf : PySem.W.isFn X.K (.ref f) = true) (hn : PySem.W.notFirst X.K C (.ref C') = true)
    (F1 : FnOk X.prog X.w X.K X.mg X.base CX0 k f fd ps (toSp X.K sp)) (hb : Binds X.K fd ps []) (hr : Room j X.A) (hk : k ≤ j) (hx : IsObj M x C fs) (hy : IsObj M y C' gs) (h : sp [x, y] M Q) : BinG Pm X (compareOp op) x y M Q := by
  intro v u H F mF ok
  obtain ⟨p, dx, ws, rfl, hp, o2⟩ := isObj_at hx ok
  obtain ⟨q, dy, zs, rfl, hq, o3⟩ := isObj_at (F := fun G => Rp X.K G x (.ref p) ∧ F G) hy (ok.imp fun _ _ ⟨z1, z2, z3⟩ => ⟨z2, z1, z3⟩)
  intro pins s σ v' u' I r1 r2
  cases (show v' = Value.ref p from r1)
  cases (show u' = Value.ref q from r2)
  obtain ⟨od, J⟩ := inst_at I hp
  obtain ⟨od', J'⟩ := inst_at I hq
  obtain ⟨m, hF⟩ := I.fr
  rw [hop]
  refine PySem.W.cmp_K (op := op) (tb := .ref C') (hr.mono hk).units0 hF I.ok.mod.kin J J'.type hn hs hf ?_
  refine wpAny_mono (run_own F1 hb (hr.mono hk) I (vs := [.ref p, .ref q]) (.cons rfl (.cons rfl .nil)) mF (ok.imp fun _ _ ⟨z1, z2, z3⟩ => ⟨RpL.cons z1 (RpL.cons z2 RpL.nil), z3⟩) h) (fun w s' z => ?_) fun _ _ x => x
  obtain ⟨z', H', I', rz, qz⟩ := z
  exact SlX.cmpback rz ⟨z', H', I', rz, qz⟩
theorem cmp_eq (a b : Value) : compareOp .Eq a b = richCompare .Eq a b := rfl
theorem cmp_ne (a b : Value) : compareOp .NotEq a b = richCompare .NotEq a b := rfl
/-- y in x, by an own __contains__ that answers a bool -/
theorem b_inOwn {f : Addr} {fd : FuncData} {ps : List Str} {x y : D} {fs : List (Str × D)} (hs : PySem.W.findIn X.K (.ref C) "__contains__" = some (some (.ref f))) (hf : PySem.W.isFn X.K (.ref f) = true)
    (F1 : FnOk X.prog X.w X.K X.mg X.base CX0 k f fd ps (toSp X.K sp)) (hb : Binds X.K fd ps []) (hr : Room j X.A) (hk : k ≤ j) (hx : IsObj M x C fs) (h : sp [x, y] M fun d M1 => ∃ t, d = .bl t ∧ Q (.bl t) M1) : BinG Pm X (compareOp .In) y x M Q := by
  intro v u H F mF ok
  obtain ⟨p, dx, ws, rfl, hp, o2⟩ := isObj_at (F := fun G => Rp X.K G y v ∧ F G) hx (ok.imp fun _ _ ⟨z1, z2, z3⟩ => ⟨z2, z1, z3⟩)
  intro pins s σ v' u' I r1 r2
  cases (show u' = Value.ref p from r2)
  obtain ⟨od, J⟩ := inst_at I hp
  obtain ⟨m, hF⟩ := I.fr
  refine PySem.W.in_K hF I.ok.mod.kin J hs hf ?_
  refine wpAny_mono (run_own F1 hb (hr.mono hk) I (vs := [.ref p, v]) (us := [.ref p, v']) (.cons rfl (.cons r1 .nil)) mF (ok.imp fun _ _ ⟨z1, z2, z3⟩ => ⟨RpL.cons z2 (RpL.cons z1 RpL.nil), z3⟩) h) (fun w s' z => ?_) fun _ _ x => x
  obtain ⟨z', H', I', rz, d, M', o', t, e, q⟩ := z
  subst e
  obtain rfl : z' = .bl t := o'.use fun _ _ z => z.1.bl_inv
  cases (show w = Value.bool t from rz)
  exact wpAny_pure ⟨.bl t, H', I', rfl, .bl t, M', o', q⟩
theorem b_notinOwn {f : Addr} {fd : FuncData} {ps : List Str} {x y : D} {fs : List (Str × D)} (hs : PySem.W.findIn X.K (.ref C) "__contains__" = some (some (.ref f))) (hf : PySem.W.isFn X.K (.ref f) = true)
    (F1 : FnOk X.prog X.w X.K X.mg X.base CX0 k f fd ps (toSp X.K sp)) (hb : Binds X.K fd ps []) (hr : Room j X.A) (hk : k ≤ j) (hx : IsObj M x C fs) (h : sp [x, y] M fun d M1 => ∃ t, d = .bl t ∧ Q (.bl (!t)) M1) : BinG Pm X (compareOp .NotIn) y x M Q := by
  intro v u H F mF ok
  obtain ⟨p, dx, ws, rfl, hp, o2⟩ := isObj_at (F := fun G => Rp X.K G y v ∧ F G) hx (ok.imp fun _ _ ⟨z1, z2, z3⟩ => ⟨z2, z1, z3⟩)
  intro pins s σ v' u' I r1 r2
  cases (show u' = Value.ref p from r2)
  obtain ⟨od, J⟩ := inst_at I hp
  obtain ⟨m, hF⟩ := I.fr
  refine PySem.W.notIn_K hF I.ok.mod.kin J hs hf ?_
  refine wpAny_mono (run_own F1 hb (hr.mono hk) I (vs := [.ref p, v]) (us := [.ref p, v']) (.cons rfl (.cons r1 .nil)) mF (ok.imp fun _ _ ⟨z1, z2, z3⟩ => ⟨RpL.cons z2 (RpL.cons z1 RpL.nil), z3⟩) h) (fun w s' z => ?_) fun _ _ x => x
  obtain ⟨z', H', I', rz, d, M', o', t, e, q⟩ := z
  subst e
  obtain rfl : z' = .bl t := o'.use fun _ _ z => z.1.bl_inv
  cases (show w = Value.bool t from rz)
  exact wpAny_pure ⟨.bl (!t), H', I', rfl, .bl (!t), M', o'.imp fun _ _ z => ⟨rp_bl, z.2⟩, q⟩
/-- str(x), by an own __str__ that answers a text -/
theorem c_strOwn {f : Addr} {fd : FuncData} {ps : List Str} {x : D} {fs : List (Str × D)} (hs : PySem.W.findIn X.K (.ref C) "__str__" = some (some (.ref f))) (hf : PySem.W.isFn X.K (.ref f) = true)
    (F1 : FnOk X.prog X.w X.K X.mg X.base CX0 k f fd ps (toSp X.K sp)) (hb : Binds X.K fd ps []) (hr : Room j X.A) (hk : k + 2 ≤ j) (hx : IsObj M x C fs) (h : sp [x] M fun d M1 => ∃ t, d = .str t ∧ Q (.str t) M1) : CallG Pm X (.type "str") [x] M Q := by
  intro vs H F mF ok
  obtain ⟨v, rfl⟩ : ∃ v, vs = [v] := ok.use fun _ _ z => let ⟨v, a, _⟩ := z.1.one_inv; ⟨v, a⟩
  obtain ⟨p, dx, ws, rfl, hp, o2⟩ := isObj_at (F := F) hx (ok.imp fun _ _ z => ⟨by obtain ⟨v', e, r⟩ := z.1.one_inv; cases e; exact r, z.2⟩)
  intro pins s σ us I rv
  obtain ⟨u, rfl, r⟩ := vals1 rv
  cases (show u = Value.ref p from r)
  obtain ⟨od, J⟩ := inst_at I hp
  have hr2 : Room (k + 2) X.A := hr.mono hk
  have hr3 : Room k X.A.in1.in1 := (Room.in1 (k := k + 1) hr2).in1
  refine PySem.W.kso_call hr3.units0 I.kIn J hs hf ?_
  have e0 : Env0 X.prog X.w X.K X.mg X.base X.A.in1.in1 X.stack s H := I.env0.in1.in1
  have hl := F1.len [.ref p] H _ E0 ⟨[x], M, F, _, mF.m, ok, h, fun v H' z => z⟩
  refine wpAny_call (codeAny_mono (F1.run X.A.in1.in1 X.stack s H ⟨[.ref p], []⟩ [.ref p] [.ref p] _ E0 hr3 e0 (by have := hb s [.ref p] I.kIn (by rw [List.append_nil]; exact hl); rwa [List.append_nil] at this) (.cons rfl .nil) ⟨[x], M, F, _, mF.m, ok, h, fun v H' z => z⟩) fun r s' hq => ?_)
  cases r with
  | error e => exact False.elim hq
  | ok fl =>
    cases fl with
    | ret u =>
      obtain ⟨v, H', I', rv', d, M', o', t, e, q⟩ := I.after hq
      subst e
      obtain rfl : v = .str t := o'.use fun _ _ z => z.1.str_inv
      obtain ⟨tk, rfl⟩ := rv'
      exact ⟨.str t, H', I', ⟨tk, rfl⟩, .str t, M', o', q⟩
    | next => exact False.elim hq
    | brk => exact False.elim hq
    | cont => exact False.elim hq
/-! ### isinstance -/
/-- the type of data -/
def TyD (K : PySem.W.Frag) (M : Mst) : D → Value → Prop
  | .non, t => t = .type "NoneType"
  | .bl _, t => t = .type "bool"
  | .int _, t => t = .type "int"
  | .str _, t => t = .type "str"
  | .lst _, t => t = .type "list"
  | .tup _, t => t = .type "tuple"
  | .obj C _, t => C8.InsC K C ∧ t = .ref C
  | .raw (.ref p), t => (∃ xs, M p = some (.lst xs) ∧ t = .type "list") ∨ (∃ xs, M p = some (.dct xs) ∧ t = .type "dict")
  | _, _ => False
theorem tyD_of {G H : Hp} {x : D} {v : V} {t : Value} (s : Le G H) (hM : ∀ a o, M a = some o → G a = none ∧ MRp X.K G o (H a)) (r : Rp X.K G x v) (h : TyD X.K M x t) : TyX X.K H v t := by
  cases x with
  | non => cases r.non_inv; cases h; exact .base .non
  | bl k => cases r.bl_inv; cases h; exact .base (.bl k)
  | int i => cases r.int_inv; cases h; exact .base (.int i)
  | str z => cases r.str_inv; cases h; exact .base (.str z)
  | lst xs =>
    obtain ⟨p, vs, rfl, h1, h2⟩ := r.lst_inv
    cases h
    exact .base (.lst (s.at h1))
  | tup xs =>
    obtain ⟨p, vs, rfl, h1, h2⟩ := r.tup_inv
    cases h
    rcases sqt_mono s h1 with (h | ⟨o, h⟩) | h
    · exact .base (.tup h)
    · exact .fTuple h
    · obtain ⟨o, its, n, e, c, _⟩ := h
      exact .kTuple e c
  | obj C fs =>
    obtain ⟨p, dx, vs, rfl, h1, h2⟩ := r.obj_inv
    obtain ⟨ic, rfl⟩ := h
    exact .base (.ins (s.at h1) ic.cl ic.ha ic.hn ic.htk ic.hm)
  | raw w =>
    obtain rfl : v = w := r.raw_inv
    cases v with
    | ref p =>
      rcases h with ⟨xs, hp, rfl⟩ | ⟨xs, hp, rfl⟩
      · obtain ⟨_, ws, h1, h2⟩ := hM p _ hp
        exact .base (.lst h1)
      · obtain ⟨_, ws, h1, h2⟩ := hM p _ hp
        exact .base (.dK h1)
    | _ => exact h.elim
  | _ => exact h.elim
theorem c_isi {x : D} {c : V} {t u : Value} {k : Bool} (hc : ClsV c u) (ht : TyD X.K M x t) (hk : PySem.W.kitOne X.K t u = some k) (q : Q (.bl k) M) : CallG Pm X (.builtin "isinstance") [x, .raw c] M Q := by
  intro vs H F mF ⟨G, s, hM, z1, z3⟩
  obtain ⟨v, w, rfl, r1, r2⟩ := z1.two_inv
  cases r2.raw_inv
  exact wCall_of call_isi ⟨v, c, t, u, k, rfl, hc, tyD_of s hM r1 ht, hk, .bl k, M, ⟨G, s, hM, rp_bl, z3⟩, q⟩
end
end
end DL

/-! DL9: slices, list methods, items set, texts -/
namespace DL
open PySem PySem.Spec L2
open PyProof.Rows hiding St
section
variable {X : Cx} {Pm : Hp → Prop} {M : Mst} {ds : Ds} {Q : QD} {pos : Pos} {a b c e : Expr} {Dn : EndD}
/-! ### slices -/
abbrev wO (X : Cx) (e : Option Expr) : TO := fun σ H Q => ∀ pins s, Inv X pins σ H s → wpAny (model X.prog X.w) X.A (evalPart e X.env) (fun u s' => ∃ o H', Inv X pins σ H' s' ∧ IsPart u o ∧ Q o H') X.xe s
theorem po_w {e : Option Expr} : PO X e (wO X e) := ⟨fun pins s σ H Q I h => h pins s I⟩
def WO (Pm : Hp → Prop) (X : Cx) (e : Option Expr) (M : Mst) (ds : Ds) (Q : Option Int → Mst → Prop) : Prop :=
  ∀ σ H F, MonoF Pm F → Ok X.K M (fun G => EnvR X.K G ds σ ∧ F G) H → wO X e σ H fun o H' => ∃ M', Ok X.K M' (fun G => EnvR X.K G ds σ ∧ F G) H' ∧ Q o M'
theorem wO_mono {e : Option Expr} {σ : L2.St} {H : Hp} {Q Q' : Option Int → Hp → Prop} (h : wO X e σ H Q) (f : ∀ o H', Q o H' → Q' o H') : wO X e σ H Q' := fun pins s I =>
  thn (h pins s I) fun u s' ⟨o, H', a, b, c⟩ => ⟨o, H', a, b, f o H' c⟩
theorem wo_none {Q : Option Int → Mst → Prop} (q : Q none M) : WO Pm X none M ds Q := fun σ H F mF ok pins s I => po_none.run pins s σ H _ I ⟨M, ok, q⟩
theorem wo_some {Q : Option Int → Mst → Prop} (h : WE Pm X e M ds fun d M1 => ∃ i, d = .int i ∧ Q (some i) M1) : WO Pm X (some e) M ds Q := fun σ H F mF ok pins s I => (po_some pe_w).run pins s σ H _ I (by
  refine wE_mono (h σ H F mF ok) fun v H1 ⟨d, M1, o1, i, e, q⟩ => ?_
  subst e
  obtain rfl : v = .int i := o1.use fun _ _ z => z.1.int_inv
  exact ⟨i, rfl, M1, o1.imp fun _ _ z => z.2, q⟩)
/-- what a slice is -/
inductive SlD (M : Mst) : D → Option Int → Option Int → D → Prop where
  | lst (xs lo hi) : SlD M (.lst xs) lo hi (.lst (cutD xs lo hi))
  | mlst (p xs lo hi) (h : M p = some (.lst xs)) : SlD M (.raw (.ref p)) lo hi (.lst (cutD xs lo hi))
  | klst (xs lo hi) : SlD M (.klst xs) lo hi (.lst (cutD xs lo hi))
  | tup (xs lo hi) : SlD M (.tup xs) lo hi (.tup (cutD xs lo hi))
  | str (z lo hi) (h : z.length ≤ sizeLine) : SlD M (.str z) lo hi (.str (Txt.slice z lo hi))
theorem cutV_whole {xs : List V} {lo hi : Option Int} (h : HT.sIx xs.length 0 lo = 0 ∧ HT.sIx xs.length xs.length hi = xs.length) : cutV xs lo hi = xs := by
  unfold cutV
  rw [h.1, h.2]
  simp
theorem we_slice {lo hi : Option Expr} {p2 : Pos} (h : WE Pm X a M ds fun x M1 => WO Pm X lo M1 ds fun l M2 => WO Pm X hi M2 ds fun u M3 => ∃ d, SlD M3 x l u d ∧ Q d M3) : WE Pm X (.Subscript a (.Slice lo hi none p2) pos) M ds Q := by
  intro σ H F mF ok
  refine wE_of (pe_slice ((SlR.or sl_list sl_tupA).or C8.sl_txt) pe_w po_w po_w) ?_
  refine wE_mono (h σ H F mF ok) fun v H1 ⟨x, M1, o1, h1⟩ => ?_
  refine wO_mono (h1 σ H1 (fun G => Rp X.K G x v ∧ F G) (mono_rp.and mF) (o1.imp fun _ _ ⟨p, q, r⟩ => ⟨q, p, r⟩)) fun l H2 ⟨M2, o2, h2⟩ => ?_
  refine wO_mono (h2 σ H2 (fun G => Rp X.K G x v ∧ F G) (mono_rp.and mF) o2) fun u H3 ⟨M3, o3, d, hs, q⟩ => ?_
  obtain ⟨G, s, hM, z1, z2, z3⟩ := id o3
  cases hs with
  | lst xs =>
    obtain ⟨p, vs, rfl, g1, g2⟩ := z2.lst_inv
    refine .inl (.inl ⟨p, vs, rfl, SqL.of (s.at g1), fun r hr => ⟨_, M3, ?_, q⟩⟩)
    have ok2 : Ok X.K M3 (fun G => RpL X.K G xs vs ∧ EnvR X.K G ds σ ∧ F G) H3 := ⟨G, s, hM, g2, z1, z3⟩
    exact (ok2.new (o := .lst (cutV vs l u)) (mono_rpl.and (mono_x mF)) hr).imp fun _ _ z => ⟨rp_lst z.1 (z.2.1.cut l u), z.2.2⟩
  | klst xs =>
    obtain ⟨p, vs, rfl, g1, g2⟩ := z2.klst_inv
    refine .inl (.inl ⟨p, vs, rfl, sql_mono s g1, fun r hr => ⟨_, M3, ?_, q⟩⟩)
    have ok2 : Ok X.K M3 (fun G => RpL X.K G xs vs ∧ EnvR X.K G ds σ ∧ F G) H3 := ⟨G, s, hM, g2, z1, z3⟩
    exact (ok2.new (o := .lst (cutV vs l u)) (mono_rpl.and (mono_x mF)) hr).imp fun _ _ z => ⟨rp_lst z.1 (z.2.1.cut l u), z.2.2⟩
  | mlst p xs _ _ hp =>
    cases z2.raw_inv
    obtain ⟨_, vs, g1, g2⟩ := hM p _ hp
    refine .inl (.inl ⟨p, vs, rfl, SqL.of g1, fun r hr => ⟨_, M3, ?_, q⟩⟩)
    have ok2 : Ok X.K M3 (fun G => RpL X.K G xs vs ∧ EnvR X.K G ds σ ∧ F G) H3 := ⟨G, s, hM, g2, z1, z3⟩
    exact (ok2.new (o := .lst (cutV vs l u)) (mono_rpl.and (mono_x mF)) hr).imp fun _ _ z => ⟨rp_lst z.1 (z.2.1.cut l u), z.2.2⟩
  | tup xs =>
    obtain ⟨p, vs, rfl, g1, g2⟩ := z2.tup_inv
    refine .inl (.inr ⟨p, vs, rfl, sqt_mono s g1, fun hw => ⟨_, M3, ⟨G, s, hM, ?_, z1, z3⟩, q⟩, fun hw r hr => ⟨_, M3, ?_, q⟩⟩)
    · have := g2.cut l u
      rw [cutV_whole hw] at this
      exact rp_tup g1 this
    · have ok2 : Ok X.K M3 (fun G => RpL X.K G xs vs ∧ EnvR X.K G ds σ ∧ F G) H3 := ⟨G, s, hM, g2, z1, z3⟩
      exact (ok2.new (o := .tup (cutV vs l u)) (mono_rpl.and (mono_x mF)) hr).imp fun _ _ z => ⟨rp_tup (SqT.of z.1) (z.2.1.cut l u), z.2.2⟩
  | str z _ _ hz =>
    cases z2.str_inv
    exact .inr ⟨z, rfl, hz, _, M3, ⟨G, s, hM, rp_str, z1, z3⟩, q⟩

/-! ### methods of mutable lists -/
theorem we_append {o : Expr} {apos cpos : Pos} (h : WE Pm X o M ds fun x M1 => ∃ p xs0, x = .raw (.ref p) ∧ M1 p = some (.lst xs0) ∧ WE Pm X e M1 ds fun d M2 => ∃ xs, M2 p = some (.lst xs) ∧ xs.length < sizeLine ∧ Q .non (updM M2 p (.lst (xs ++ [d]))))
    (hbase : attributeBase o "append" X.env (eval o X.env) = eval o X.env := by rfl)
    (hfew : ((backTo cpos (starEach [e] X.env)).all (fun x => !x.1) && (backToKw cpos (keywordEach [] X.env)).all (fun x => x.1.isSome)
      && decide (([e] : List Expr).length + ([] : List Keyword).length + (if ([] : List Keyword).isEmpty then 0 else 1) < 30)) = true := by rfl)
    (hline : (apos.endLine == cpos.line) = true := by rfl) (hs : starEach [e] X.env = (false, eval e X.env) :: starEach [] X.env := by rfl) (hplain : (backTo cpos (starEach [] X.env)).any (·.1) = false := by rfl) :
    WE Pm X (.Call (.Attribute o "append" apos) [e] [] cpos) M ds Q := by
  intro σ H F mF ok
  refine wE_of (pe_bm PySem.F.plainAttrs_list PySem.F.slot_list_append PySem.F.type_list_append mt_append pe_w (pa_cons pe_w pa_nil hs) hbase hfew hline hs hplain) ?_
  refine wE_mono (h σ H F mF ok) fun v H1 ⟨x, M1, o1, p, xs0, e1, hp0, h1⟩ => ?_
  subst e1
  obtain rfl : v = .ref p := o1.use fun _ _ z => z.1.raw_inv
  obtain ⟨vs0, hH0⟩ : ∃ vs, H1 p = some (.lst vs) := (o1.getM hp0).use fun G _ z => let ⟨vs, a, _⟩ := z.1; ⟨vs, a⟩
  refine ⟨.inl ⟨rfl, vs0, SqL.of hH0⟩, ?_⟩
  refine wE_mono (h1 σ H1 F mF (o1.imp fun _ _ z => z.2)) fun u H2 ⟨d, M2, o2, xs, hp, hl, q⟩ => ?_
  obtain ⟨G, s, hM, z⟩ := id o2
  obtain ⟨_, ws, hw, hr⟩ := hM p _ hp
  refine ⟨p, ws, u, rfl, rfl, hw, by rw [hr.length]; exact hl, .non, _, ?_, q⟩
  exact (o2.setM (o := .lst (ws ++ [u])) (d := .lst (xs ++ [d])) hp fun G' s' z' ⟨ws', e', r'⟩ => by
    rw [hw] at e'
    cases e'
    exact ⟨_, rfl, r'.append (RpL.cons z'.1 RpL.nil)⟩).imp fun _ _ z => ⟨rp_non, z.2⟩
theorem we_popAt {o : Expr} {apos cpos : Pos} (h : WE Pm X o M ds fun x M1 => ∃ p xs0, x = .raw (.ref p) ∧ M1 p = some (.lst xs0) ∧ WE Pm X e M1 ds fun d M2 => ∃ xs k y, d = .int ((k : Nat) : Int) ∧ M2 p = some (.lst xs) ∧ xs.length < 2 ^ 62 ∧ xs[k]? = some y ∧ Q y (updM M2 p (.lst (xs.eraseIdx k))))
    (hbase : attributeBase o "pop" X.env (eval o X.env) = eval o X.env := by rfl)
    (hfew : ((backTo cpos (starEach [e] X.env)).all (fun x => !x.1) && (backToKw cpos (keywordEach [] X.env)).all (fun x => x.1.isSome)
      && decide (([e] : List Expr).length + ([] : List Keyword).length + (if ([] : List Keyword).isEmpty then 0 else 1) < 30)) = true := by rfl)
    (hline : (apos.endLine == cpos.line) = true := by rfl) (hs : starEach [e] X.env = (false, eval e X.env) :: starEach [] X.env := by rfl) (hplain : (backTo cpos (starEach [] X.env)).any (·.1) = false := by rfl) :
    WE Pm X (.Call (.Attribute o "pop" apos) [e] [] cpos) M ds Q := by
  intro σ H F mF ok
  refine wE_of (pe_bm PySem.F.plainAttrs_list PySem.F.slot_list_pop PySem.F.type_list_pop mt_popAt pe_w (pa_cons pe_w pa_nil hs) hbase hfew hline hs hplain) ?_
  refine wE_mono (h σ H F mF ok) fun v H1 ⟨x, M1, o1, p, xs0, e1, hp0, h1⟩ => ?_
  subst e1
  obtain rfl : v = .ref p := o1.use fun _ _ z => z.1.raw_inv
  obtain ⟨vs0, hH0⟩ : ∃ vs, H1 p = some (.lst vs) := (o1.getM hp0).use fun G _ z => let ⟨vs, a, _⟩ := z.1; ⟨vs, a⟩
  refine ⟨.inl ⟨rfl, vs0, SqL.of hH0⟩, ?_⟩
  refine wE_mono (h1 σ H1 F mF (o1.imp fun _ _ z => z.2)) fun u H2 ⟨d, M2, o2, xs, k, y, ed, hp, hz, hy, q⟩ => ?_
  subst ed
  obtain rfl : u = .int (k : Nat) := o2.use fun _ _ z => z.1.int_inv
  obtain ⟨G, s, hM, z⟩ := id o2
  obtain ⟨_, ws, hw, hr⟩ := hM p _ hp
  obtain ⟨w, hw2, rw2⟩ := hr.get hy
  have hk : k < xs.length := (List.getElem?_eq_some_iff.mp hy).1
  have hl := hr.length
  refine ⟨p, ws, (k : Nat), k, w, rfl, rfl, hw, by omega, by omega, seqIndex_of (by omega) (by omega), hw2, y, _, ?_, q⟩
  have o3 : Ok X.K M2 (fun G => Rp X.K G y w ∧ EnvR X.K G ds σ ∧ F G) H2 := ⟨G, s, hM, rw2, z.2⟩
  exact (o3.setM (o := .lst (ws.eraseIdx k)) (d := .lst (xs.eraseIdx k)) hp fun G' s' z' ⟨ws', e', r'⟩ => by
    rw [hw] at e'
    cases e'
    exact ⟨_, rfl, r'.eraseIdx k⟩)
/-- xs[i] = e, xs mutable -/
theorem ws_setIx {o i value : Expr} {pos' : Pos} (h : WE Pm X value M ds fun v M1 => WE Pm X o M1 ds fun x M2 => WE Pm X i M2 ds fun y M3 => ∃ p k j xs, x = .raw (.ref p) ∧ y = .int k ∧ M3 p = some (.lst xs) ∧ ixN xs.length k = some j ∧ Dn.nx ds (updM M3 p (.lst (xs.set j v))))
    (ha : ∀ v, assign (.Subscript o i pos') X.env v = (do
      let ov ← holding [v] (eval o X.env)
      let iv ← holding [v, ov] (eval i X.env)
      standAt pos'
      holding [v, ov, iv] (setItem ov iv v)
      release [v, ov, iv] []) := by intro _; rfl)
    (hs : swapsWithSole [.Subscript o i pos'] value pos.line X.env = pure false := by rfl) (hw : swappedStores [.Subscript o i pos'] value X.env = pure none := by rfl) (h1 : (assignEach [.Subscript o i pos'] X.env).map (·.2) = [assign (.Subscript o i pos') X.env] := by rfl) :
    WS Pm X (.Assign [.Subscript o i pos'] value pos) M ds Dn := by
  intro σ H F mF ok
  refine wS_of (ps_asg pe_w (pg_sub pe_w pe_w set_list ha) hs hw h1) ?_
  refine wE_mono (h σ H F mF ok) fun v H1 ⟨d, M1, o1, h1⟩ => ?_
  refine wE_mono (h1 σ H1 (fun G => Rp X.K G d v ∧ F G) (mono_rp.and mF) (o1.imp fun _ _ ⟨p, q, r⟩ => ⟨q, p, r⟩)) fun u H2 ⟨x, M2, o2, h2⟩ => ?_
  refine wE_mono (h2 σ H2 (fun G => Rp X.K G x u ∧ Rp X.K G d v ∧ F G) (mono_rp.and (mono_rp.and mF)) (o2.imp fun _ _ ⟨p, q, r⟩ => ⟨q, p, r⟩)) fun y H3 ⟨dy, M3, o3, p, k, j, xs, e1, e2, hp, hj, q⟩ => ?_
  subst e1 e2
  obtain rfl : u = .ref p := o3.use fun _ _ z => z.2.2.1.raw_inv
  obtain rfl : y = .int k := o3.use fun _ _ z => z.1.int_inv
  obtain ⟨G, s, hM, z⟩ := id o3
  obtain ⟨_, ws, hw, hr⟩ := hM p _ hp
  refine ⟨p, ws, k, j, rfl, rfl, hw, by rw [hr.length]; exact hj, ds, _, ?_, q⟩
  exact (o3.setM (o := .lst (ws.set j v)) (d := .lst (xs.set j d)) hp fun G' s' z' ⟨ws', e', r'⟩ => by
    rw [hw] at e'
    cases e'
    exact ⟨_, rfl, r'.set z'.2.2.2.1 j⟩).imp fun _ _ z => ⟨z.2.1, z.2.2.2.2⟩

/-! ### texts -/
theorem RpL.strs {K : PySem.W.Frag} {G : Hp} : ∀ {ns : List Str} {vs : List V}, RpL K G (ns.map D.str) vs → vs = ns.map V.str
  | [], _, h => by cases h.nil_inv; rfl
  | n :: ns, _, h => by
    obtain ⟨v, r, rfl, h1, h2⟩ := RpL.cons_inv h
    rw [h1.str_inv, RpL.strs h2]
    rfl
theorem we_join {o : Expr} {apos : Pos} (h : WE Pm X o M ds fun x M1 => ∃ z, x = .str z ∧ WE Pm X e M1 ds fun d M2 => ∃ ys : List Str, d = .lst (ys.map D.str) ∧ (ys.map (·.length)).sum + ys.length * z.length ≤ 16777216 ∧ Q (.str (Txt.join z ys)) M2)
    (hs : starEach [e] X.env = [(false, eval e X.env)] := by rfl) (hbase : attributeBase o "join" X.env (eval o X.env) = eval o X.env := by rfl) (hline : (apos.endLine == pos.line) = true := by rfl) : WE Pm X (.Call (.Attribute o "join" apos) [e] [] pos) M ds Q := by
  intro σ H F mF ok
  refine wE_of (pe_join pe_w pe_w hs hbase hline) ?_
  refine wE_mono (h σ H F mF ok) fun v H1 ⟨x, M1, o1, z, e1, h1⟩ => ?_
  subst e1
  obtain rfl : v = .str z := o1.use fun _ _ y => y.1.str_inv
  refine ⟨⟨z, rfl⟩, wE_mono (h1 σ H1 F mF (o1.imp fun _ _ z => z.2)) fun u H2 ⟨d, M2, o2, ys, e2, hz, q⟩ => ?_⟩
  subst e2
  obtain ⟨G, s, hM, y1, y2⟩ := id o2
  obtain ⟨p, vs, rfl, g1, g2⟩ := y1.lst_inv
  cases g2.strs
  exact ⟨z, p, ys, rfl, rfl, .inl (SqL.of (s.at g1)), hz, _, M2, o2.imp fun _ _ y => ⟨rp_str, y.2⟩, q⟩
theorem we_fmt (h : WE Pm X e M ds fun d M1 => (∃ y : Str, d = .str y ∧ y.length ≤ sizeLine ∧ Q (.str y) M1) ∨ ∃ i : Int, d = .int i ∧ i.natAbs.log2 < 1920 ∧ Q (.str (toString i)) M1) : WE Pm X (.FormattedValue e (-1) none pos) M ds Q := by
  intro σ H F mF ok
  refine wE_of (pe_fmt pe_w) ?_
  refine wE_mono (h σ H F mF ok) fun v H1 ⟨d, M1, o1, q⟩ => ?_
  rcases q with ⟨y, rfl, hz, q⟩ | ⟨i, rfl, hz, q⟩
  · obtain rfl : v = .str y := o1.use fun _ _ z => z.1.str_inv
    exact .inl ⟨y, rfl, hz, _, M1, o1, q⟩
  · obtain rfl : v = .int i := o1.use fun _ _ z => z.1.int_inv
    exact .inr ⟨i, rfl, hz, _, M1, o1.imp fun _ _ z => ⟨rp_str, z.2⟩, q⟩
def WJ (Pm : Hp → Prop) (X : Cx) : List Expr → Str → Mst → Ds → (Str → Mst → Prop) → Prop
  | [], acc, M, _, Q => Q acc M
  | e :: es, acc, M, ds, Q => WE Pm X e M ds fun d M1 => ∃ y : Str, d = .str y ∧ (acc ++ y).length ≤ sizeLine ∧ WJ Pm X es (acc ++ y) M1 ds Q
theorem pj_w : ∀ es : List Expr, PJ X es (es.map (wE X))
  | [] => .nil
  | e :: es => .cons pe_w (pj_w es)
theorem tJs_of {Q : Str → Mst → Prop} {σ : L2.St} {F : Hp → Prop} (mF : MonoF Pm F) : ∀ {es : List Expr} {acc : Str} {M : Mst} {H : Hp}, WJ Pm X es acc M ds Q → Ok X.K M (fun G => EnvR X.K G ds σ ∧ F G) H → tJs (es.map (wE X)) acc σ H fun out H1 => ∃ M1, Ok X.K M1 (fun G => EnvR X.K G ds σ ∧ F G) H1 ∧ Q out M1
  | [], acc, M, H, h, ok => ⟨M, ok, h⟩
  | e :: es, acc, M, H, h, ok => wE_mono (h σ H F mF ok) fun v H1 ⟨d, M1, o1, y, e1, hz, h1⟩ => by
    subst e1
    obtain rfl : v = .str y := o1.use fun _ _ z => z.1.str_inv
    exact ⟨y, rfl, hz, tJs_of mF h1 (o1.imp fun _ _ z => z.2)⟩
theorem tJs_mono {σ : L2.St} : ∀ {es : List Expr} {acc : Str} {H : Hp} {Q Q' : Str → Hp → Prop}, tJs (es.map (wE X)) acc σ H Q → (∀ o H, Q o H → Q' o H) → tJs (es.map (wE X)) acc σ H Q'
  | [], acc, H, Q, Q', h, f => f _ _ h
  | e :: es, acc, H, Q, Q', h, f => wE_mono (X := X) (e := e) h fun v H1 ⟨y, e1, hz, h1⟩ => ⟨y, e1, hz, tJs_mono h1 f⟩
theorem we_joined {v1 v2 : Expr} {rest : List Expr} (h : WJ Pm X (v1 :: v2 :: rest) Str.empty M ds fun out M1 => Q (.str out) M1) : WE Pm X (.JoinedStr (v1 :: v2 :: rest) pos) M ds Q := by
  intro σ H F mF ok
  refine wE_of (pe_joined (pj_w _)) ?_
  exact tJs_mono (tJs_of mF h ok) fun o H1 ⟨M1, o1, q⟩ => ⟨_, M1, o1.imp fun _ _ z => ⟨rp_str, z⟩, q⟩
end
end DL

/-! DLH: the head's Hook with one more test -/
namespace DL
open PySem PySem.Spec PyProof.Rows L2
/-- an empty tuple stands at a -/
def tup0 (K : PySem.W.Frag) (a : Addr) : Bool := match K.lookup a with
  | some ⟨.type c, _, .seq its _, _⟩ => decide (c = "tuple") && decide (its.size = 0)
  | _ => false
theorem tup0_ok {K : PySem.W.Frag} {a : Addr} (h : tup0 K a = true) (H : Hp) : SqT K H a [] := by
  unfold tup0 at h
  cases q : K.lookup a with
  | none =>
    rw [q] at h
    cases h
  | some o =>
    obtain ⟨oc, od, dt, osl⟩ := o
    rw [q] at h
    cases oc with
    | type c =>
      cases dt with
      | seq its n =>
        obtain ⟨h1, h2⟩ := He.ba (show (decide (c = "tuple") && decide (its.size = 0)) = true from h)
        have h3 : its.size = 0 := of_decide_eq_true h2
        have h4 : its.toList = [] := List.length_eq_zero_iff.mp (by rw [Array.length_toList]; exact h3)
        exact .inr ⟨_, its, n, q, congrArg Value.type (of_decide_eq_true h1), rfl, by rw [h3]; exact Nat.zero_le _, by rw [h4]; exact .nil⟩
      | _ => cases h
    | _ => cases dt <;> cases h
/-- what isinstance, == ask of an own class -/
def insB (K : PySem.W.Frag) (C : Addr) : Bool := He.eqO (PySem.W.findIn K (.ref C) "__class__") (some (some (.builtin "object.__class__"))) && (He.eqO (PySem.W.specialIn K (.builtin "object.__class__") "__get__") (some (some (.builtin "getset_descriptor.__get__"))) &&
  (decide (PySem.W.takesIn K (.builtin "object.__class__") = some true) && (decide (PySem.W.mroIn K C (.type "object") = some true) && (decide (PySem.W.kitOne K (.ref C) (.ref C) = some true) && PySem.W.notFirst K C (.ref C)))))
theorem insB_ok {K : PySem.W.Frag} {C : Addr} (cl : Cls K C) (h : insB K C = true) : C8.InsC K C ∧ PySem.W.notFirst K C (.ref C) = true := by
  obtain ⟨h1, h⟩ := He.ba h
  obtain ⟨h2, h⟩ := He.ba h
  obtain ⟨h3, h⟩ := He.ba h
  obtain ⟨h4, h⟩ := He.ba h
  obtain ⟨h5, h6⟩ := He.ba h
  exact ⟨⟨cl, He.eqO_ok h1, He.eqO_ok h2, of_decide_eq_true h3, of_decide_eq_true h4, of_decide_eq_true h5⟩, h6⟩
def obsX (fa : List He.Fa) (fn : List He.DefD) (ex : PySem.W.Frag → Bool) (K : PySem.W.Frag) : Bool × He.AlD := (ex K, He.obsD fa fn K)
def obsXG (n : Nat) (fa : List He.Fa) (fn : List He.DefD) (ex : PySem.W.Frag → Bool) (g : Addr → Option Obj) : Bool × He.AlD := obsX fa fn ex (He.frG g (He.asD g n))
def hookX (n : Nat) (fa : List He.Fa) (fn : List He.DefD) (ex : PySem.W.Frag → Bool) : PySem.W.Hook where
  α := Bool × He.AlD
  obs := fun s => obsXG n fa fn ex s.heap.get?
  val := fun _ => (true, He.valD fn)
  says := fun _ h => ∃ K : PySem.W.Frag, K.In h ∧ ex K = true ∧ He.SaysD fa fn K
  of := fun _ _ e => ⟨_, He.frG_in, congrArg (fun z : Bool × He.AlD => z.1) e, congrArg (fun z : Bool × He.AlD => z.2) e⟩
  keeps := fun _ _ _ ⟨K, hK, c⟩ k => ⟨K, PySem.W.Frag.In.keeps hK k, c⟩
theorem obsXG_eq {n : Nat} {fa : List He.Fa} {fn : List He.DefD} {ex : PySem.W.Frag → Bool} {g : Addr → Option Obj} {s : Shared} (h : ∀ a, g a = s.heap.get? a) : obsXG n fa fn ex g = (hookX n fa fn ex).obs s := by
  have e : g = s.heap.get? := funext h
  rw [e] <;> rfl
end DL

/-! DLA: equality of typed data; a def's body from its parts -/
namespace DL
open PySem PySem.Spec L2
open PyProof.Rows hiding St
/-- a type of plain data -/
structure Enc (α : Type) [DecidableEq α] where
  d : α → D
  p : α → PyData
  ok : α → Prop
  hp : ∀ a, pd (d a) = some (p a)
  lay : ∀ a, ok a → PyData.canLay0 (p a) = true
  n : Nat
  dep : ∀ a, PyData.depth (p a) ≤ n
  eqv : ∀ a b, PyData.eqv (p a) (p b) = decide (a = b)
def encI : Enc Int := ⟨D.int, PyData.int, fun _ => True, fun a => by simp only [pd], fun a _ => rfl, 0, fun a => by simp only [PyData.depth]; exact Nat.le_refl _, fun a b => by
  simp only [PyData.eqv]
  exact Bool.eq_iff_iff.mpr (by simp)⟩
def encB : Enc Bool := ⟨D.bl, PyData.bool, fun _ => True, fun a => by simp only [pd], fun a _ => rfl, 0, fun a => by simp only [PyData.depth]; exact Nat.le_refl _, fun a b => by
  simp only [PyData.eqv]
  exact Bool.eq_iff_iff.mpr (by simp)⟩
def encS : Enc Str := ⟨D.str, PyData.str, fun a => PyData.canLay0 (.str a) = true, fun a => by simp only [pd], fun a h => h, 0, fun a => by simp only [PyData.depth]; exact Nat.le_refl _, fun a b => by
  simp only [PyData.eqv]
  exact Bool.eq_iff_iff.mpr (by simp)⟩
section
variable {α β : Type} [DecidableEq α] [DecidableEq β]
theorem pds_map (E : Enc α) : ∀ l : List α, pds (l.map E.d) = some (l.map E.p)
  | [] => by simp only [List.map_nil, pds]
  | a :: l => by simp only [List.map_cons, pds, E.hp a, pds_map E l, Option.bind_some, Option.map_some]
theorem lay_map (E : Enc α) : ∀ l : List α, (∀ a ∈ l, E.ok a) → PyData.canLayAll0 (l.map E.p) = true
  | [], _ => by simp only [List.map_nil, PyData.canLayAll0]
  | a :: l, h => by simp only [List.map_cons, PyData.canLayAll0, E.lay a (h a List.mem_cons_self), lay_map E l fun b hb => h b (List.mem_cons_of_mem _ hb), Bool.and_self]
theorem dep_map (E : Enc α) : ∀ l : List α, PyData.depthAll (l.map E.p) ≤ E.n
  | [] => by simp only [List.map_nil, PyData.depthAll]; exact Nat.zero_le _
  | a :: l => by
    simp only [List.map_cons, PyData.depthAll]
    exact Nat.max_le.mpr ⟨E.dep a, dep_map E l⟩
theorem eqv_map (E : Enc α) : ∀ l m : List α, PyData.eqvAll (l.map E.p) (m.map E.p) = decide (l = m)
  | [], [] => by simp [PyData.eqvAll]
  | [], _ :: _ => by simp [PyData.eqvAll]
  | _ :: _, [] => by simp [PyData.eqvAll]
  | a :: l, b :: m => by
    simp only [List.map_cons, PyData.eqvAll, E.eqv a b, eqv_map E l m]
    by_cases h : a = b <;> by_cases h' : l = m <;> simp [h, h']
def encL (E : Enc α) : Enc (List α) := ⟨fun l => .lst (l.map E.d), fun l => .list (l.map E.p), fun l => ∀ a ∈ l, E.ok a, fun l => by simp only [pd, pds_map, Option.map_some], fun l h => by simp only [PyData.canLay0]; exact lay_map E l h, E.n + 1,
  fun l => by simp only [PyData.depth]; exact Nat.succ_le_succ (dep_map E l), fun l m => by simp only [PyData.eqv]; exact eqv_map E l m⟩
def encT (E : Enc α) : Enc (List α) := ⟨fun l => .tup (l.map E.d), fun l => .tuple (l.map E.p), fun l => ∀ a ∈ l, E.ok a, fun l => by simp only [pd, pds_map, Option.map_some], fun l h => by simp only [PyData.canLay0]; exact lay_map E l h, E.n + 1,
  fun l => by simp only [PyData.depth]; exact Nat.succ_le_succ (dep_map E l), fun l m => by simp only [PyData.eqv]; exact eqv_map E l m⟩
def encP (E : Enc α) (F : Enc β) : Enc (α × β) := ⟨fun z => .tup [E.d z.1, F.d z.2], fun z => .tuple [E.p z.1, F.p z.2], fun z => E.ok z.1 ∧ F.ok z.2, fun z => by simp only [pd, pds, E.hp, F.hp, Option.bind_some, Option.map_some],
  fun z h => by simp only [PyData.canLay0, PyData.canLayAll0, E.lay _ h.1, F.lay _ h.2, Bool.and_self], max E.n F.n + 1, fun z => by
    simp only [PyData.depth, PyData.depthAll]
    have := E.dep z.1
    have := F.dep z.2
    omega, fun z w => by
    simp only [PyData.eqv, PyData.eqvAll, E.eqv, F.eqv, Bool.and_true]
    obtain ⟨a, b⟩ := z
    obtain ⟨c, d⟩ := w
    by_cases h : a = c <;> by_cases h' : b = d <;> simp [h, h']⟩
end
section
variable {X : Cx} {Pm : Hp → Prop} {M : Mst} {ds : Ds} {Q : QD} {pos : Pos} {Dn : EndD} {α : Type} [DecidableEq α]
theorem enc_shaped (E : Enc α) {a : α} (h : E.ok a) (hn : E.n ≤ 64) : SeqAt.shaped (E.p a) = true := by
  show ((E.p a).canLay0 && decide ((E.p a).depth ≤ 64)) = true
  rw [Bool.and_eq_true]
  exact ⟨E.lay a h, decide_eq_true (Nat.le_trans (E.dep a) hn)⟩
theorem b_eqE (E : Enc α) {a b : α} {k : Nat} (hr : Room k X.A) (q : Q (.bl (decide (a = b))) M) (ha : E.ok a := by first | trivial | exact fun _ _ => trivial | exact fun _ _ _ _ => trivial) (hb : E.ok b := by first | trivial | exact fun _ _ => trivial | exact fun _ _ _ _ => trivial) (hn : E.n ≤ 64 := by decide) : BinG Pm X (compareOp .Eq) (E.d a) (E.d b) M Q :=
  b_eqD hr.units (E.hp a) (E.hp b) (enc_shaped E ha hn) (enc_shaped E hb hn) (E.eqv a b) q
theorem b_neE (E : Enc α) {a b : α} {k : Nat} (hr : Room k X.A) (q : Q (.bl (!decide (a = b))) M) (ha : E.ok a := by first | trivial | exact fun _ _ => trivial | exact fun _ _ _ _ => trivial) (hb : E.ok b := by first | trivial | exact fun _ _ => trivial | exact fun _ _ _ _ => trivial) (hn : E.n ≤ 64 := by decide) : BinG Pm X (compareOp .NotEq) (E.d a) (E.d b) M Q :=
  b_neD hr.units (E.hp a) (E.hp b) (enc_shaped E ha hn) (enc_shaped E hb hn) (E.eqv a b) q
theorem b_eqI {a b : Int} {k : Nat} (hr : Room k X.A) (q : Q (.bl (decide (a = b))) M) : BinG Pm X (compareOp .Eq) (.int a) (.int b) M Q := b_eqE encI hr q
theorem b_neI {a b : Int} {k : Nat} (hr : Room k X.A) (q : Q (.bl (!decide (a = b))) M) : BinG Pm X (compareOp .NotEq) (.int a) (.int b) M Q := b_neE encI hr q
theorem b_eqB {a b : Bool} {k : Nat} (hr : Room k X.A) (q : Q (.bl (decide (a = b))) M) : BinG Pm X (compareOp .Eq) (.bl a) (.bl b) M Q := b_eqE encB hr q
end
/-! a def of the text, its promise -/
section
variable {P : Program} {w : World} {K : PySem.W.Frag} {mg : Str → Option Value} {base : Heap}
theorem cal_of {d : He.DefD} {N ps : List Str} {k : Nat} {sp : SpD} (hd : d.dfl = []) (hf : ∃ fd, FunD K d.name d.qual d.params d.body d.scope (d.dvs K) (d.kws K) (He.fAd K d.at_) fd) (hm : mg d.name = some (.ref (He.fAd K d.at_))) (S : FnScope N ps d.scope) (len : ∀ xs M Q, sp xs M Q → xs.length = ps.length)
    (hbi : ∀ (kV doc pm : Value) (an : Option Addr) (cdv ct : Value) (us : List Value), us.length = ps.length → bindArgs (PySem.W.fnOf d.name d.qual d.params d.body d.scope .none kV doc pm an cdv ct) ⟨us, []⟩ = pure (ps.zip us))
    (hb : ∀ (cdv : Value) (A : Around) (outer : List Env) (s : Shared) (H : Hp) (E : XK), Room k (cx0 P w K mg base N d.qual d.scope (He.fAd K d.at_) cdv A outer s H E).A → ∀ xs M Q, sp xs M Q →
      WSs PmT (cx0 P w K mg base N d.qual d.scope (He.fAd K d.at_) cdv A outer s H E) d.body M (xs.map some ++ List.replicate (N.length - ps.length) none) { nx := fun _ M' => Q .non M', rt := Q }) : CalD P w K mg base (k + 1) d.name sp [] := by
  obtain ⟨fd, F⟩ := hf
  have F' : FunD K d.name d.qual d.params d.body d.scope [] (d.kws K) (He.fAd K d.at_) fd := by
    have e : d.dvs K = [] := by unfold He.DefD.dvs; rw [hd]; rfl
    rw [← e]; exact F
  exact ⟨_, fd, ps, [], [], fnD F S len hb, hm, F.kp, F'.bindsN hbi, .nil, fun _ => RpL.nil⟩
theorem met_of {d : He.DefD} {N ps : List Str} {k : Nat} {sp : SpD} {C : Addr} {m : Str} (hd : d.dfl = []) (hf : ∃ fd, FunD K d.name d.qual d.params d.body d.scope (d.dvs K) (d.kws K) (He.fAd K d.at_) fd) (cl : Cls K C) (hm : Meth K C m (He.fAd K d.at_)) (S : FnScope N ps d.scope) (len : ∀ xs M Q, sp xs M Q → xs.length = ps.length)
    (hbi : ∀ (kV doc pm : Value) (an : Option Addr) (cdv ct : Value) (us : List Value), us.length = ps.length → bindArgs (PySem.W.fnOf d.name d.qual d.params d.body d.scope .none kV doc pm an cdv ct) ⟨us, []⟩ = pure (ps.zip us))
    (hb : ∀ (cdv : Value) (A : Around) (outer : List Env) (s : Shared) (H : Hp) (E : XK), Room k (cx0 P w K mg base N d.qual d.scope (He.fAd K d.at_) cdv A outer s H E).A → ∀ xs M Q, sp xs M Q →
      WSs PmT (cx0 P w K mg base N d.qual d.scope (He.fAd K d.at_) cdv A outer s H E) d.body M (xs.map some ++ List.replicate (N.length - ps.length) none) { nx := fun _ M' => Q .non M', rt := Q }) : MetD P w K mg base (k + 1) C m sp [] := by
  obtain ⟨fd, F⟩ := hf
  have F' : FunD K d.name d.qual d.params d.body d.scope [] (d.kws K) (He.fAd K d.at_) fd := by
    have e : d.dvs K = [] := by unfold He.DefD.dvs; rw [hd]; rfl
    rw [← e]; exact F
  exact ⟨_, fd, ps, [], [], fnD F S len hb, cl, hm, F'.bindsN hbi, .nil, fun _ => RpL.nil⟩
end
end DL

/-! DLB: short forms -/
namespace DL
open PySem PySem.Spec L2
open PyProof.Rows hiding St
theorem bb_len : bootBuiltins "len" = some (.builtin "len") := by decide +kernel
theorem bb_abs : bootBuiltins "abs" = some (.builtin "abs") := by decide +kernel
theorem bb_isinstance : bootBuiltins "isinstance" = some (.builtin "isinstance") := by decide +kernel
theorem bb_sorted : bootBuiltins "sorted" = some (.builtin "sorted") := by decide +kernel
theorem bb_max : bootBuiltins "max" = some (.builtin "max") := by decide +kernel
theorem bb_min : bootBuiltins "min" = some (.builtin "min") := by decide +kernel
theorem bb_sum : bootBuiltins "sum" = some (.builtin "sum") := by decide +kernel
theorem bb_int : bootBuiltins "int" = some (.type "int") := by decide +kernel
theorem bb_bool : bootBuiltins "bool" = some (.type "bool") := by decide +kernel
theorem bb_str : bootBuiltins "str" = some (.type "str") := by decide +kernel
theorem bb_list : bootBuiltins "list" = some (.type "list") := by decide +kernel
theorem bb_tuple : bootBuiltins "tuple" = some (.type "tuple") := by decide +kernel
theorem bb_dict : bootBuiltins "dict" = some (.type "dict") := by decide +kernel
theorem bb_set : bootBuiltins "set" = some (.type "set") := by decide +kernel
section
variable {X : Cx} {Pm : Hp → Prop} {M : Mst} {ds : Ds} {Q : QD} {pos p : Pos} {a b c e : Expr} {Dn : EndD} {x : Str} {id T : String}
theorem we_b1 (hm : X.mg x = none) (hv : bootBuiltins x = some (.builtin id)) (h : WE Pm X a M ds fun d M1 => CallG Pm X (.builtin id) [d] M1 Q) (hg : Gl X x := by rfl) (hn : x ≠ "__name__" := by decide) (hdb : (x == ("__debug__" : Str)) = false := by decide)
    (hs : starEach [a] X.env = (false, eval a X.env) :: starEach [] X.env := by rfl) (hpl : (backTo pos (starEach [] X.env)).any (·.1) = false := by rfl) : WE Pm X (.Call (.Name x p) [a] [] pos) M ds Q :=
  we_callB (wa_cons (fun σ H F mF ok => wE_mono (h σ H F mF ok) fun v H1 ⟨d, M1, o, q⟩ => ⟨d, M1, o, wa_nil q⟩) hs) hm hv hg hn hdb hs hpl
theorem we_t1 (hm : X.mg x = none) (hv : bootBuiltins x = some (.type T)) (h : WE Pm X a M ds fun d M1 => CallG Pm X (.type T) [d] M1 Q) (hg : Gl X x := by rfl) (hn : x ≠ "__name__" := by decide) (hdb : (x == ("__debug__" : Str)) = false := by decide)
    (hs : starEach [a] X.env = (false, eval a X.env) :: starEach [] X.env := by rfl) (hpl : (backTo pos (starEach [] X.env)).any (·.1) = false := by rfl) : WE Pm X (.Call (.Name x p) [a] [] pos) M ds Q :=
  we_callTy (wa_cons (fun σ H F mF ok => wE_mono (h σ H F mF ok) fun v H1 ⟨d, M1, o, q⟩ => ⟨d, M1, o, wa_nil q⟩) hs) hm hv hg hn hdb hs hpl
theorem we_b2 (hm : X.mg x = none) (hv : bootBuiltins x = some (.builtin id)) (h : WE Pm X a M ds fun d M1 => WE Pm X b M1 ds fun d2 M2 => CallG Pm X (.builtin id) [d, d2] M2 Q) (hg : Gl X x := by rfl) (hn : x ≠ "__name__" := by decide) (hdb : (x == ("__debug__" : Str)) = false := by decide)
    (hs : starEach [a, b] X.env = (false, eval a X.env) :: starEach [b] X.env := by rfl) (hs2 : starEach [b] X.env = (false, eval b X.env) :: starEach [] X.env := by rfl) (hpl : (backTo pos (starEach [b] X.env)).any (·.1) = false := by rfl) : WE Pm X (.Call (.Name x p) [a, b] [] pos) M ds Q :=
  we_callB (wa_cons (fun σ H F mF ok => wE_mono (h σ H F mF ok) fun v H1 ⟨d, M1, o, q⟩ => ⟨d, M1, o, wa_cons (fun σ H F mF ok => wE_mono (q σ H F mF ok) fun v H1 ⟨d, M1, o, q⟩ => ⟨d, M1, o, wa_nil q⟩) hs2⟩) hs) hm hv hg hn hdb hs hpl
/-- what is behind, weakened -/
theorem WE.mono {Q' : QD} (h : WE Pm X a M ds Q) (f : ∀ d M, Q d M → Q' d M) : WE Pm X a M ds Q' := fun σ H F mF ok => wE_mono (h σ H F mF ok) fun v H1 ⟨d, M1, o, q⟩ => ⟨d, M1, o, f _ _ q⟩
theorem WT.mono {Q Q' : Bool → Mst → Prop} (h : WT Pm X a M ds Q) (f : ∀ d M, Q d M → Q' d M) : WT Pm X a M ds Q' := fun σ H F mF ok => wT_mono (h σ H F mF ok) fun v H1 ⟨M1, o, q⟩ => ⟨M1, o, f _ _ q⟩
/-- arguments given one by one -/
theorem wa1 {Q : List D → Mst → Prop} (h : WE Pm X a M ds fun d M1 => Q [d] M1) (hs : starEach [a] X.env = (false, eval a X.env) :: starEach [] X.env := by rfl) : WA Pm X [a] M ds Q := wa_cons (h.mono fun _ _ q => wa_nil q) hs
theorem wa2 {Q : List D → Mst → Prop} (h : WE Pm X a M ds fun d M1 => WE Pm X b M1 ds fun d2 M2 => Q [d, d2] M2) (hs : starEach [a, b] X.env = (false, eval a X.env) :: starEach [b] X.env := by rfl) (hs2 : starEach [b] X.env = (false, eval b X.env) :: starEach [] X.env := by rfl) : WA Pm X [a, b] M ds Q :=
  wa_cons (h.mono fun _ _ q => wa1 q hs2) hs
theorem wa3 {Q : List D → Mst → Prop} (h : WE Pm X a M ds fun d M1 => WE Pm X b M1 ds fun d2 M2 => WE Pm X c M2 ds fun d3 M3 => Q [d, d2, d3] M3) (hs : starEach [a, b, c] X.env = (false, eval a X.env) :: starEach [b, c] X.env := by rfl) (hs2 : starEach [b, c] X.env = (false, eval b X.env) :: starEach [c] X.env := by rfl) (hs3 : starEach [c] X.env = (false, eval c X.env) :: starEach [] X.env := by rfl) : WA Pm X [a, b, c] M ds Q :=
  wa_cons (h.mono fun _ _ q => wa2 q hs2 hs3) hs
/-- a test as a comparison of ints -/
theorem wt_eqI {i j : Int} {k : Nat} {Q : Bool → Mst → Prop} (hr : Room k X.A) (t : decide (i = j) = true → Q true M) (f : decide (i = j) = false → Q false M) : BinG Pm X (compareOp .Eq) (.int i) (.int j) M fun d M3 => ∃ k, d = .bl k ∧ Q k M3 := b_eqI hr ⟨_, rfl, by cases h : decide (i = j) <;> simp_all⟩
theorem ex_bl {k : Bool} {Q : Bool → Prop} (q : Q k) : ∃ k', D.bl k = D.bl k' ∧ Q k' := ⟨k, rfl, q⟩
theorem sz {n : Nat} (h : Nat.ble n 1000 = true) : n ≤ sizeLine := Nat.le_trans (Nat.le_of_ble_eq_true h) (by decide)
theorem filter_all {α : Type} (ys : List α) : ys.filter (fun _ => true) = ys := List.filter_eq_self.mpr fun _ _ => rfl
def PureM {α : Type} (Pm : Hp → Prop) (X : Cx) (scope : Scope) (t : Tg) (vs : List Nat) (elt : Expr) (ds : Ds) (M1 : Mst) (ys : List α) (g : α → D) (f : α → D) : Prop :=
  ∀ y, y ∈ ys → ∀ M', Sub M1 M' → ∃ ds', bindT (wipeD ds vs) t (g y) = some ds' ∧ InB X scope fun Y => WE Pm Y elt M' ds' fun d M2 => d = f y ∧ M2 = M'
theorem PureM.t {α : Type} {scope : Scope} {t : Tg} {vs : List Nat} {elt : Expr} {M1 : Mst} {ys : List α} {g : α → D} {f : α → D} (h : PureM Pm X scope t vs elt ds M1 ys g f) : PureT Pm X scope t vs [] elt ds M1 ys g (fun _ => true) f := fun y hy M' hs =>
  let ⟨ds', a, b⟩ := h y hy M' hs; ⟨ds', a, fun _ _ _ _ _ => wts_nil ⟨rfl, rfl⟩, fun _ => b⟩
/-- [f(y) for y in ..] -/
theorem we_lcM {α : Type} (t : Tg) (ys : List α) (g : α → D) (f : α → D) {tg iter elt : Expr} {scope : Scope} {own : List (Str × Nat)} (hc : X.calm = true) (hN : X.N.Nodup) (ok : blkC X.N X.env.scope scope own = true) (hsub : ∀ j ∈ slots t, j ∈ own.map (·.2))
    (hg : InB X scope fun Y => PG Y tg (gOf X.K t))
    (h : WI Pm X tg iter M ds fun n item M1 => n ≤ sizeLine ∧ LI ys g n item ∧ PureM Pm X scope t (own.map (·.2)) elt ds M1 ys g f ∧ Q (.lst (ys.map f)) M1)
    (hs : ∀ x, foldedSetIterable iter X.env x = pure x := by intro _; rfl) : WE Pm X (.ListComp elt [⟨tg, iter, [], 0⟩] scope pos) M ds Q :=
  we_lcP t ys g (fun _ => true) f hc hN (blkOk_by ok) hsub hg (fun σ H F mF o => let ⟨wi, pi, hw⟩ := h σ H F mF o; ⟨wi, pi, fun R' k => hw R' fun J H1 n item M1 F0 fd o1 ⟨a, b, c, d⟩ => k J H1 n item M1 F0 fd o1 ⟨a, b, c.t, by rw [filter_all]; exact d⟩⟩) hs
theorem ws_lcM (i : Nat) {α : Type} (t : Tg) (ys : List α) (g : α → D) (f : α → D) {y : Str} {py : Pos} {spos : Pos} {tg iter elt : Expr} {scope : Scope} {own : List (Str × Nat)} (hc : X.calm = true) (hN : X.N.Nodup) (hy : X.N[i]? = some y) (ok : blkC X.N X.env.scope scope own = true) (hsub : ∀ j ∈ slots t, j ∈ own.map (·.2))
    (hg : InB X scope fun Y => PG Y tg (gOf X.K t))
    (h : WI Pm X tg iter M ds fun n item M1 => n ≤ sizeLine ∧ LI ys g n item ∧ PureM Pm X scope t (own.map (·.2)) elt ds M1 ys g f ∧ Dn.nx (ds.set i (some (.lst (ys.map f)))) M1)
    (hyl : X.env.scope.names.lookup y = some .local := by rfl) (hsw : swapsWith (.ListComp elt [⟨tg, iter, [], 0⟩] scope pos) (some (.Name y py)) spos.line X.env = pure true := by exact sw_true rfl rfl rfl rfl)
    (hs : ∀ x, foldedSetIterable iter X.env x = pure x := by intro _; rfl) : WS Pm X (.Assign [.Name y py] (.ListComp elt [⟨tg, iter, [], 0⟩] scope pos) spos) M ds Dn :=
  ws_lcP i t ys g (fun _ => true) f hc hN hy (blkOk_by ok) hsub hg (fun σ H F mF o => let ⟨wi, pi, hw⟩ := h σ H F mF o; ⟨wi, pi, fun R' k => hw R' fun J H1 n item M1 F0 fd o1 ⟨a, b, c, d⟩ => k J H1 n item M1 F0 fd o1 ⟨a, b, c.t, by rw [filter_all]; exact d⟩⟩) hyl hsw hs
/-- a def that always takes the same end -/
theorem atI_int {ns : List Int} {i : Int} (h0 : 0 ≤ i) (h1 : i < ns.length) : atI (ns.map D.int) i = some (.int (ns.getD i.toNat 0)) := by
  obtain ⟨k, rfl⟩ := Int.eq_ofNat_of_zero_le h0
  have hk : k < ns.length := by omega
  refine atI_nat ?_
  rw [List.getElem?_map, List.getElem?_eq_getElem hk]
  simp [List.getD_eq_getElem?_getD, List.getElem?_eq_getElem hk]
end
end DL
namespace DL
open PySem PySem.Spec L2
section
variable {X : Cx} {Pm : Hp → Prop} {M : Mst} {Q : QD}
theorem b_addLI (xs ys : List Int) (hz : xs.length + ys.length ≤ sizeLine) (q : Q (.lst ((xs ++ ys).map D.int)) M) : BinG Pm X (binaryOp .Add) (.lst (xs.map D.int)) (.lst (ys.map D.int)) M Q :=
  b_addL (by rw [List.length_map, List.length_map]; exact hz) (by rw [← List.map_append]; exact q)
theorem b_addTI (xs ys : List Int) (hz : xs.length + ys.length ≤ sizeLine) (q : Q (.tup ((xs ++ ys).map D.int)) M) : BinG Pm X (binaryOp .Add) (.tup (xs.map D.int)) (.tup (ys.map D.int)) M Q :=
  b_addT (by rw [List.length_map, List.length_map]; exact hz) (by rw [← List.map_append]; exact q)
theorem b_addStr {x y : Str} (hz : x.length + y.length ≤ sizeLine) (q : Q (.str (x ++ y)) M) : BinG Pm X (binaryOp .Add) (.str x) (.str y) M Q := b_addS hz q
end
end DL

/-! DLC: operators by own methods, list(range), steps of ranges -/
namespace DL
open PySem PySem.Spec L2
section
variable {X : Cx} {Pm : Hp → Prop} {M : Mst} {ds : Ds} {Q : QD} {pos p : Pos} {a b c e : Expr} {k j : Nat} {C : Addr} {sp : SpD}
theorem MetD.nil (g : MetD X.prog X.w X.K X.mg X.base k C m sp []) : ∃ (f : Addr) (fd : FuncData) (ps : List Str), FnOk X.prog X.w X.K X.mg X.base CX0 k f fd ps (toSp X.K sp) ∧ Cls X.K C ∧ Meth X.K C m f ∧ Binds X.K fd ps [] := by
  obtain ⟨f, fd, ps, dvs, us, F1, cl, hm, hb, hd, hdd⟩ := g.ex
  cases (hdd (fun _ => none)).nil_inv
  cases hd
  exact ⟨f, fd, ps, F1, cl, hm, hb⟩
theorem b_inM (g : MetD X.prog X.w X.K X.mg X.base k C "__contains__" sp []) (hr : Room j X.A) (hk : k ≤ j) {x y : D} {fs : List (Str × D)} (hx : IsObj M x C fs) (h : sp [x, y] M fun d M1 => ∃ t, d = .bl t ∧ Q (.bl t) M1) : BinG Pm X (compareOp .In) y x M Q := by
  obtain ⟨f, fd, ps, F1, cl, hm, hb⟩ := g.nil
  exact b_inOwn hm.at_ hm.fn F1 hb hr hk hx h
theorem b_notinM (g : MetD X.prog X.w X.K X.mg X.base k C "__contains__" sp []) (hr : Room j X.A) (hk : k ≤ j) {x y : D} {fs : List (Str × D)} (hx : IsObj M x C fs) (h : sp [x, y] M fun d M1 => ∃ t, d = .bl t ∧ Q (.bl (!t)) M1) : BinG Pm X (compareOp .NotIn) y x M Q := by
  obtain ⟨f, fd, ps, F1, cl, hm, hb⟩ := g.nil
  exact b_notinOwn hm.at_ hm.fn F1 hb hr hk hx h
theorem b_eqM (g : MetD X.prog X.w X.K X.mg X.base k C "__eq__" sp []) (hn : PySem.W.notFirst X.K C (.ref C) = true) (hr : Room j X.A) (hk : k ≤ j) {x y : D} {fs gs : List (Str × D)} (hx : IsObj M x C fs) (hy : IsObj M y C gs) (h : sp [x, y] M Q) : BinG Pm X (compareOp .Eq) x y M Q := by
  obtain ⟨f, fd, ps, F1, cl, hm, hb⟩ := g.nil
  exact b_own (op := .Eq) cmp_eq hm.at_ hm.fn hn F1 hb hr hk hx hy h
theorem c_strM (g : MetD X.prog X.w X.K X.mg X.base k C "__str__" sp []) (hr : Room j X.A) (hk : k + 2 ≤ j) {x : D} {fs : List (Str × D)} (hx : IsObj M x C fs) (h : sp [x] M fun d M1 => ∃ t, d = .str t ∧ Q (.str t) M1) : CallG Pm X (.type "str") [x] M Q := by
  obtain ⟨f, fd, ps, F1, cl, hm, hb⟩ := g.nil
  exact c_strOwn hm.at_ hm.fn F1 hb hr hk hx h
/-- list(range(a, b)) -/
def rgI (i j : Int) : List Int := (List.range (j - i).toNat).map fun k => i + (k : Nat)
theorem rgV_eq (i j : Int) : rgV i j = (rgI i j).map V.int := by unfold rgV rgI; rw [List.map_map]; rfl
theorem we_listRg2 {p1 p2 q1 : Pos} (hl : X.mg "list" = none) (hm : X.mg "range" = none) (hc : X.calm = true) (h : WE Pm X a M ds fun x M1 => WE Pm X b M1 ds fun y M2 => ∃ i j, x = .int i ∧ y = .int j ∧ RgOk i j ∧ Q (.lst ((rgI i j).map D.int)) M2)
    (hg1 : Gl X "list" := by rfl) (hg2 : Gl X "range" := by rfl)
    (na : starEach [a, b] X.env = (false, eval a X.env) :: starEach [b] X.env := by rfl)
    (nb : starEach [b] X.env = (false, eval b X.env) :: starEach [] X.env := by rfl) (hp : (backTo p2 (starEach [b] X.env)).any (·.1) = false := by rfl)
    (ne : starEach [.Call (.Name "range" q1) [a, b] [] p2] X.env = (false, eval (.Call (.Name "range" q1) [a, b] [] p2) X.env) :: starEach [] X.env := by rfl) : WE Pm X (.Call (.Name "list" p1) [.Call (.Name "range" q1) [a, b] [] p2] [] pos) M ds Q := by
  intro σ H F mF ok
  refine wE_of (pe_listRg hc hg1 hl (prg_2 hg2 hm pe_w pe_w na nb hp) ne) ?_
  refine wE_mono (h σ H F mF ok) fun v H1 ⟨x, M1, o1, h1⟩ => ?_
  refine wE_mono (h1 σ H1 (fun G => Rp X.K G x v ∧ F G) (mono_rp.and mF) (o1.imp fun _ _ ⟨p, q, r⟩ => ⟨q, p, r⟩)) fun u H2 ⟨y, M2, o2, i, j, e1, e2, hr, q⟩ => ?_
  subst e1 e2
  obtain rfl : u = .int j := o2.use fun _ _ z => z.1.int_inv
  obtain rfl : v = .int i := o2.use fun _ _ z => z.2.2.1.int_inv
  refine ⟨i, j, rfl, rfl, hr, fun q hq => ?_⟩
  have o3 : Ok X.K M2 (fun G => EnvR X.K G ds σ ∧ F G) H2 := o2.imp fun _ _ z => ⟨z.2.1, z.2.2.2⟩
  exact ⟨_, M2, (o3.new (o := .lst (rgV i j)) (mono_x mF) hq).imp fun _ _ z => ⟨rp_lst z.1 (by rw [rgV_eq]; exact rpl_ints), z.2⟩, ‹_›⟩
/-- range(i, j, c) with c > 0 -/
theorem rgc_pos {i j c : Int} (h1 : 0 < c) (h2 : c < 1073741824) (hi : -(2 ^ 61) ≤ i) (hi' : i < 2 ^ 61) (hj : -(2 ^ 61) ≤ j) (hj' : j < 2 ^ 61) : RgC i j c (if i < j then ((j - i - 1) / c + 1).toNat else 0) := by
  have hd : 0 ≤ (j - i - 1) / c ∨ ¬ i < j := by
    by_cases q : i < j
    · exact .inl (Int.ediv_nonneg (by omega) (by omega))
    · exact .inr q
  have hle : i < j → (j - i - 1) / c ≤ j - i - 1 := fun q => Int.ediv_le_self _ (by omega)
  have e : Builtin.Range.rangeSize i j c = ((if i < j then ((j - i - 1) / c + 1).toNat else 0 : Nat) : Int) := by
    unfold Builtin.Range.rangeSize
    rw [if_pos (show c > 0 from h1)]
    by_cases q : i < j
    · rw [if_pos q, if_pos q]
      have := Int.ediv_nonneg (show 0 ≤ j - i - 1 by omega) (show 0 ≤ c by omega)
      omega
    · rw [if_neg q, if_neg q]; rfl
  refine ⟨by omega, by omega, ?_, e⟩
  unfold Builtin.Range.small
  rw [e]
  have hmul : i < j → c * ((j - i - 1) / c) ≤ j - i - 1 := fun q => Int.mul_ediv_self_le (by omega)
  simp only [Builtin.Range.rangeFitsLong, Bool.and_eq_true, Bool.or_eq_true, decide_eq_true_eq, beq_iff_eq]
  rw [if_pos (show c > 0 from h1)]
  simp only [Bool.and_eq_true, decide_eq_true_eq]
  by_cases q : i < j
  · rw [if_pos q]
    have h3 := hle q
    have h4 := Int.ediv_nonneg (show 0 ≤ j - i - 1 by omega) (show 0 ≤ c by omega)
    generalize (j - i - 1) / c = z at h3 h4
    refine ⟨⟨⟨⟨⟨by omega, by omega⟩, by omega, by omega⟩, by omega, by omega⟩, by omega, by omega⟩, .inr ⟨by omega, by omega⟩⟩
  · rw [if_neg q]
    exact ⟨⟨⟨⟨⟨by omega, by omega⟩, by omega, by omega⟩, by omega, by omega⟩, by decide, by decide⟩, .inl rfl⟩
end
end DL

/-! DLD: str of a text, texts compared, comprehensions that draw -/
namespace DL
open PySem PySem.Spec L2
section
variable {X : Cx} {Pm : Hp → Prop} {M : Mst} {ds : Ds} {Q : QD} {pos p : Pos} {a b c e : Expr}
theorem c_strS {t : Str} (q : Q (.str t) M) : CallG Pm X (.type "str") [.str t] M Q := by
  intro vs H F mF ⟨G, s, hM, z1, z3⟩
  obtain ⟨v, rfl, r⟩ := z1.one_inv
  cases r.str_inv
  exact wCall_of SkE.call_str_str ⟨t, rfl, _, M, ⟨G, s, hM, rp_str, z3⟩, q⟩
theorem b_eqS {x y : Str} (q : Q (.bl (decide (x = y))) M) : BinG Pm X (compareOp .Eq) (.str x) (.str y) M Q := by
  intro v u H F mF ⟨G, s, hM, z1, z2, z3⟩
  cases z1.str_inv
  cases z2.str_inv
  refine wOp_of op_eq ⟨rfl, .bl (decide (x = y)), M, ⟨G, s, hM, ?_, z3⟩, q⟩
  have e : decide (V.str x = V.str y) = decide (x = y) := by
    rw [Bool.eq_iff_iff]
    simp
  rw [e]
  exact rp_bl
theorem b_neS {x y : Str} (q : Q (.bl (!decide (x = y))) M) : BinG Pm X (compareOp .NotEq) (.str x) (.str y) M Q := by
  intro v u H F mF ⟨G, s, hM, z1, z2, z3⟩
  cases z1.str_inv
  cases z2.str_inv
  refine wOp_of op_ne ⟨rfl, .bl (!decide (x = y)), M, ⟨G, s, hM, ?_, z3⟩, q⟩
  have e : decide (V.str x = V.str y) = decide (x = y) := by
    rw [Bool.eq_iff_iff]
    simp
  rw [e]
  exact rp_bl
/-- an int drawn for each item: p the mutable object that the draws write, B what it stays -/
theorem lct_draw {scope : Scope} {t : Tg} {vs : List Nat} {elt : Expr} {n : Nat} {item : Nat → D} {q : Addr} {B : D → Prop} {P : Int → Prop} (hq : ∃ d, M q = some d)
    (h : ∀ i, i < n → ∀ M' d', M' q = some d' → B d' → ∃ ds', bindT (wipeD ds vs) t (item i) = some ds' ∧ InB X scope fun Y => WE Pm Y elt M' ds' fun d M2 => ∃ z d2, d = .int z ∧ P z ∧ B d2 ∧ M2 = updM M' q d2) :
    LcT Pm X scope t vs [] elt ds n item fun i acc M2 => ∃ (ns : List Int) (d' : D), acc = ns.map D.int ∧ ns.length = i ∧ (∀ z ∈ ns, P z) ∧ B d' ∧ M2 = updM M q d' := by
  rintro i acc M' r hi ⟨ns, d', rfl, hl, hP, hB, rfl⟩ hr
  have hrq : r ≠ q := fun e => by rw [e, updM_same] at hr; cases hr
  have hMq : updM (updM M q d') r (.lst (ns.map D.int)) q = some d' := by rw [updM_ne (Ne.symm hrq), updM_same]
  obtain ⟨ds', hb, h2⟩ := h i hi _ d' hMq hB
  refine ⟨ds', hb, fun s0 H0 C cl fp => wts_nil ⟨_, rfl, hr, fun _ s1 H1 C1 cl1 fp1 => ?_, fun z => (by cases z)⟩⟩
  intro σ H F mF ok
  refine wE_mono (h2 s1 H1 C1 cl1 fp1 σ H F mF ok) fun v H2 ⟨d, M4, o4, z, d2, e1, hz, hB2, e2⟩ => ⟨d, M4, o4, updM M q d2, ?_, ?_, ns ++ [z], d2, ?_, ?_, ?_, hB2, rfl⟩
  · rw [e2, updM_comm hrq, updM_updM]
  · rw [updM_ne hrq] at hr ⊢; exact hr
  · rw [e1, List.map_append]; rfl
  · rw [List.length_append, hl]; rfl
  · intro y hy
    rcases List.mem_append.mp hy with q | q
    · exact hP y q
    · simp at q; rw [q]; exact hz
theorem perm_ints {zs : List D} {l : List Int} (h : zs.Perm (l.map D.int)) : ∃ ts : List Int, zs = ts.map D.int ∧ ts.Perm l := by
  let u : D → Int := fun d => match d with | .int i => i | _ => 0
  refine ⟨zs.map u, ?_, ?_⟩
  · rw [List.map_map]
    conv => lhs; rw [← List.map_id zs]
    refine List.map_congr_left fun d hd => ?_
    obtain ⟨i, _, rfl⟩ := List.mem_map.mp (h.mem_iff.mp hd)
    rfl
  · have := h.map u
    rw [List.map_map] at this
    have e : l.map (u ∘ D.int) = l := by
      conv => rhs; rw [← List.map_id l]
      rfl
    rw [e] at this
    exact this
end
end DL

/-! DLset2: sorted(a set of ints), any number of members -/
namespace DLs
open PySem PySem.Spec PyProof.Rows L2
theorem sortedAny {prog : Program} {wd : World} {ar : Around} {er : Value → Shared → Prop} {st : Shared} {b : Addr} {T : Int → Bool} {m : Nat} {G : Value → Shared → Prop} (r0 : SetR wd st.heap b T m) (h0 : ar.handled = none)
    (hG : ∀ s1 q (res : Array Value) (e : Nat) (ks : List Int), (∀ x u, st.heap.get? x = some u → s1.heap.get? x = some u) → s1.gens = st.gens → s1.os = st.os → st.heap.objs.size ≤ q →
      s1.heap.get? q = some (seqObj "list" res e) → IntsAre res.toList ks → ks.Pairwise (· < ·) → (∀ k, k ∈ ks ↔ T k = true) → ks.length = m → m ≤ 16000 → G (.ref q) s1) :
    wpAny (model prog wd) ar (call (.builtin "sorted") [.ref b]) G er st := by
  obtain ⟨o, es, ep, t, ho, hex, hd, g, nd, hm, hb, hf, hn, hr, hl⟩ := r0
  have hb2 : es.size ≤ 16000 := by unfold scanBound at hb; omega
  refine Calls.call_function_entry kind_sorted plain_sorted entry_sorted (args_sorted1 _) (?_ : wpAny _ _ (Builtin.«sorted» _) _ _ _)
  unfold Builtin.«sorted»
  refine wpAny_bind (m := checkCount "sorted" 1 1 _) (wpAny_pure (?_ : wpAny _ _ _ _ _ _))
  refine wpAny_bind (collect_set (A := ar.in1) h0 ⟨o, ho, hex.1, hd⟩ hf hb hr hl fun s2 ws keep size2 gens2 os2 perm2 => ?_)
  have lw : ws.length = es.size := by rw [perm2.length_eq, List.length_map, Array.length_toList]
  have iw : IntsAre ws (ws.map Builtin.Re.reRawOf) := ints_of ws fun y hy => by
    obtain ⟨x, hx, z⟩ := List.mem_map.mp (perm2.mem_iff.mp hy)
    obtain ⟨k, tk, h1, _⟩ := g x hx
    exact ⟨k, tk, by rw [← z]; exact h1⟩
  have pw : (ws.map Builtin.Re.reRawOf).Perm (es.toList.map keyOf) := by
    have z := perm2.map Builtin.Re.reRawOf
    rw [List.map_map] at z
    exact z
  have small : ws.length ≤ sizeLine := by rw [lw, sizeLine_eq]; omega
  refine wpAny_bind (wpAny_newList (?_ : wpAny _ _ _ _ _ _) small)
  have hL : (s2.heap.push (seqObj "list" ws.toArray 0)).get? s2.heap.objs.size = some (seqObj "list" ws.toArray 0) := Heap.get?_push_size s2.heap rfl
  refine wpAny_bind (wpAny_holding (wpAny_call_entry slot_list_sort ⟨_, hL, rfl⟩ entry_list_sort (list_sort_treeAny hL iw small fun res ks i1 i2 i3 => ⟨_, rfl, (?_ : wpAny _ _ _ _ _ _)⟩) (args_list_sort _)))
  obtain ⟨e, he⟩ := sortedHeap_at (vs := ws) (out := res) hL
  have pk : ks.Perm (es.toList.map keyOf) := i2.trans pw
  have lk : ks.length = m := by rw [pk.length_eq, List.length_map, Array.length_toList]; exact hn
  have hm16 : m ≤ 16000 := by rw [← hn]; exact hb2
  have old : ∀ x u, st.heap.get? x = some u → (sortedHeap (s2.heap.push (seqObj "list" ws.toArray 0)) s2.heap.objs.size ws res).get? x = some u := fun x u hx => by
    have z := keep x u hx
    have lt := Heap.lt_size z
    rw [sortedHeap_old (Nat.ne_of_lt lt) (by rw [size_push']; exact Nat.lt_succ_of_lt lt)]
    exact Heap.get?_push_of_some _ z
  exact wpAny_pure ⟨_, rfl, hG _ s2.heap.objs.size res e ks old gens2 os2 size2 he i1 (lt_of_le_nodup ks i3 (pk.nodup_iff.mpr nd)) (fun k => by rw [pk.mem_iff, ← hm k]) lk hm16⟩
def rSortedAny (wd : World) : List V → Hp → VK → Prop := fun vs H Q => ∃ (b : Addr) (T : Int → Bool) (m : Nat), vs = [V.ref b] ∧ H b = some (SetO wd b T m) ∧
  ∀ (ks : List Int) (q : Addr), ks.Pairwise (· < ·) → (∀ k : Int, k ∈ ks ↔ T k = true) → H q = none → Q (.ref q) (upd H q (.lst (ks.map V.int)))
theorem cr_sortedAny {X : Cx} (hc : X.calm = true) : CallR X (.builtin "sorted") (rSortedAny X.w) := by
  intro pins s σ H vs us Q I r h
  obtain ⟨b, T, m, rfl, hb, q⟩ := h
  have r0 := setO_get I hb
  rw [Vals.ref1 r]
  refine sortedAny r0 (I.ok.hd hc) fun s1 p res e ks keep gens os hp he hi hs hm hl h16 => ?_
  have small : (ks.map V.int).length ≤ sizeLine := by rw [List.length_map, hl, sizeLine_eq]; omega
  have fresh : H p = none := I.hok.fresh hp
  have J : Inv X pins σ (upd H p (.lst (ks.map V.int))) { s with heap := s1.heap, gens := s1.gens, drawn := s1.drawn, toks := s1.toks } :=
    I.call (ch := []) (Un.laid keep hp fresh) (I.hok.laid keep hp ⟨small, res.toList, e, vals_of_ints hi, he⟩) (by rw [gens]; exact I.bare) (fun _ z => nomatch z)
  have same : s1 = { s with heap := s1.heap, gens := s1.gens, drawn := s1.drawn, toks := s1.toks } := by
    cases s1
    cases s
    cases os
    rfl
  rw [same]
  exact ⟨.ref p, _, J, rfl, q ks p hs hm fresh⟩
end DLs
namespace DL
open PySem PySem.Spec L2
/-- sorted(set), any number -/
theorem c_sortedSetA {X : Cx} {M : Mst} {Q : QD} (hc : X.calm = true) {ns : List Int} (q : ∀ ns' : List Int, ns'.Pairwise (· < ·) → (∀ k, k ∈ ns' ↔ k ∈ ns) → Q (.lst (ns'.map D.int)) M) : CallG Pm X (.builtin "sorted") [.own (setP X.w ns)] M Q := by
  intro vs H F mF ⟨G, s, hM, z1, z3⟩
  obtain ⟨v, rfl, r⟩ := z1.one_inv
  obtain ⟨p, o, rfl, h1, h2, n, hn, rfl⟩ := r.own_inv
  have hH : H p = some (SetO X.w p (fun j => decide (j ∈ ns)) n) := s.at h1 h2.1 h2.2.1 h2.2.2
  refine wCall_of (DLs.cr_sortedAny hc) ⟨p, _, n, rfl, hH, fun ns' l hp ho hl => ?_⟩
  have ok2 : Ok X.K M F H := ⟨G, s, hM, z3⟩
  exact ⟨_, M, (ok2.new (o := .lst _) mF hl).imp fun _ _ z => ⟨rp_lst z.1 rpl_ints, z.2⟩, q ns' hp fun k => by rw [ho k]; simp⟩
end DL

/-! DLE: exceptions over data: what a def may let out, raise, try .. except X as e. -/
namespace DL
open PySem PySem.Spec L2
open PyProof.Rows hiding St
/-- the fields of an exception in the air; d: where they lie -/
def XdG (K : PySem.W.Frag) (fs : List (Str × D)) : Option Addr → Hp → Prop
  | none, _ => fs = []
  | some dd, G => ∃ ws, G dd = some (.xd ws) ∧ RpF K G fs ws
theorem XdG.mono {K : PySem.W.Frag} {fs : List (Str × D)} : ∀ {d : Option Addr}, Mono1 (XdG K fs d)
  | none, _, _, _, h => h
  | some _, _, _, e, ⟨ws, h1, h2⟩ => ⟨ws, e.at h1, RpF.mono e h2⟩
/-- what is wished of an exception, over data -/
abbrev XQ := Ds → Value → List (Str × D) → Mst → Prop
abbrev XQ0 := Value → List (Str × D) → Mst → Prop
def WXD (K : PySem.W.Frag) (Pm : Hp → Prop) (ED : XQ) : WX := fun cls d σ H => ∃ ds M fs, Ok K M (fun G => XdG K fs d G ∧ EnvR K G ds σ ∧ Pm G) H ∧ ED ds cls fs M
def TakesD (X : Cx) (Pm : Hp → Prop) (ED : XQ) : Prop := Takes X (WXD X.K Pm ED)
def EndX (K : PySem.W.Frag) (F : Hp → Prop) (QX : XQ0) : XK := fun cls d H => ∃ M fs, Ok K M (fun G => XdG K fs d G ∧ F G) H ∧ QX cls fs M
theorem TakesD.imp {X : Cx} {Pm : Hp → Prop} {E E' : XQ} (t : TakesD X Pm E) (h : ∀ ds c fs M, E' ds c fs M → E ds c fs M) : TakesD X Pm E' :=
  Takes.imp t fun c d σ H ⟨ds, M, fs, o, q⟩ => ⟨ds, M, fs, o, h _ _ _ _ q⟩
/-- nothing may leave -/
theorem takes_no {X : Cx} {Pm : Hp → Prop} : TakesD X Pm (fun _ _ _ _ => False) := fun u s' x => by
  obtain ⟨_, _, _, _, _, _, _, _, _, _, _, _, _, _, _, _, _, _, _, _, z⟩ := x
  exact z.elim
/-! ### defs that may raise -/
abbrev SpX := List D → Mst → QD → XQ0 → Prop
def toSpX (K : PySem.W.Frag) (sp : SpX) : Sp := fun vs H Q E => ∃ xs M F Q0 QX, Mono1 F ∧ Ok K M (fun G => RpL K G xs vs ∧ F G) H ∧ sp xs M Q0 QX ∧ (∀ v H', EndE K F Q0 v H' → Q v H') ∧ ∀ cls d H', EndX K F QX cls d H' → E cls d H'
section
variable {P : Program} {w : World} {K : PySem.W.Frag} {mg : Str → Option Value} {base : Heap} {x qual : Str} {params : Arguments} {body : List Stmt} {scope : Scope} {dvs : List V} {kws : List (Str × V)} {f : Addr} {fd : FuncData}
/-- the context of a body that may raise -/
abbrev cxX (P : Program) (w : World) (K : PySem.W.Frag) (mg : Str → Option Value) (base : Heap) (N : List Str) (qual : Str) (scope : Scope) (f : Addr) (cdv : Value) (A : Around) (outer : List Env) (s : Shared) (H : Hp) (E : XK) : Cx := cxOf (L2.CX P w) P w K mg base N qual scope f cdv A outer s H E
theorem fnX {N ps : List Str} {k : Nat} {sp : SpX} (F : FunD K x qual params body scope dvs kws f fd) (S : FnScope N ps scope) (len : ∀ xs M Q QX, sp xs M Q QX → xs.length = ps.length)
    (hb : ∀ (cdv : Value) (A : Around) (outer : List Env) (s : Shared) (H : Hp) (E : XK) (Pm : Hp → Prop), Room k (cxX P w K mg base N qual scope f cdv A outer s H E).A → ∀ xs M Q QX, sp xs M Q QX → TakesD (cxX P w K mg base N qual scope f cdv A outer s H E) Pm (fun _ => QX) →
      WSs Pm (cxX P w K mg base N qual scope f cdv A outer s H E) body M (xs.map some ++ List.replicate (N.length - ps.length) none) { nx := fun _ M' => Q .non M', rt := Q }) : FnOk P w K mg base (L2.CX P w) (k + 1) f fd ps (toSpX K sp) := by
  refine F.ok S (fun vs H Q E ⟨xs, M, F0, Q0, QX, mF, ok, hsp, hq, hx⟩ => ?_) (fun cdv A outer s H vs Q E hr h => ⟨wSs (cxX P w K mg base N qual scope f cdv A outer s H E) body, pss_w, ?_⟩)
  · have := len xs M Q0 QX hsp
    exact ok.use fun _ _ z => by rw [z.1.length, this]
  · obtain ⟨xs, M, F0, Q0, QX, mF, ok, hsp, hq, hx⟩ := h
    have hl := len xs M Q0 QX hsp
    have hv : vs.length = ps.length := ok.use fun _ _ z => by rw [z.1.length, hl]
    have tk : TakesD (cxX P w K mg base N qual scope f cdv A outer s H E) F0 (fun _ => QX) :=
      Takes.imp (takes_of (E := E) rfl rfl rfl rfl) fun c d σ H' ⟨ds, M', fs, o, q⟩ => hx c d H' ⟨M', fs, o.imp fun _ _ z => ⟨z.1, z.2.2⟩, q⟩
    have h1 := hb cdv A outer s H E F0 hr xs M Q0 QX hsp tk (L2.start N vs) H F0 ⟨mF, fun _ z => z⟩ (ok.imp fun G _ z => ⟨by
      unfold L2.start
      rw [hv]
      exact EnvR.start z.1, z.2⟩)
    exact wSs_mono h1 (fun σ' H' ⟨ds', M', o, q⟩ => hq .non H' ⟨.non, M', o.imp fun _ _ z => ⟨rp_non, z.2⟩, q⟩) (fun v H' z => hq v H' z) (fun σ' H' ⟨_, _, _, z⟩ => z) (fun σ' H' ⟨_, _, _, z⟩ => z)
end
structure CalX (P : Program) (w : World) (K : PySem.W.Frag) (mg : Str → Option Value) (base : Heap) (k : Nat) (x : Str) (sp : SpX) (dd : List D) : Prop where
  ex : ∃ (f : Addr) (fd : FuncData) (ps : List Str) (dvs : List V) (us : List Value), FnOk P w K mg base (L2.CX P w) k f fd ps (toSpX K sp) ∧ mg x = some (.ref f) ∧ PySem.W.keepIn K (.ref f) = true ∧ Binds K fd ps us ∧ Vals dvs us ∧ ∀ G, RpL K G dd dvs
structure MetX (P : Program) (w : World) (K : PySem.W.Frag) (mg : Str → Option Value) (base : Heap) (k : Nat) (C : Addr) (m : Str) (sp : SpX) (dd : List D) : Prop where
  ex : ∃ (f : Addr) (fd : FuncData) (ps : List Str) (dvs : List V) (us : List Value), FnOk P w K mg base (L2.CX P w) k f fd ps (toSpX K sp) ∧ Cls K C ∧ Meth K C m f ∧ Binds K fd ps us ∧ Vals dvs us ∧ ∀ G, RpL K G dd dvs
structure MakX (P : Program) (w : World) (K : PySem.W.Frag) (mg : Str → Option Value) (base : Heap) (k : Nat) (x : Str) (C : Addr) (sp : SpX) (dd : List D) : Prop where
  ex : ∃ (f : Addr) (fd : FuncData) (ps : List Str) (dvs : List V) (us : List Value), FnOk P w K mg base (L2.CX P w) k f fd ps (toSpX K sp) ∧ Mk K C f ∧ mg x = some (.ref C) ∧ Binds K fd ps us ∧ Vals dvs us ∧ ∀ G, RpL K G dd dvs
section
variable {X : Cx} {Pm : Hp → Prop} {M : Mst} {ds : Ds} {Q : QD} {ED : XQ} {pos : Pos} {a b c e : Expr}
variable {j k : Nat} {x m : Str} {sp : SpX} {dd : List D} {p apos : Pos} {o : Expr} {es : List Expr} {C : Addr}
/-- what a callee lets out is an exception of ours -/
theorem out_of {F : Hp → Prop} {σ : L2.St} (mF : MonoF Pm F) {cls : Value} {d : Option Addr} {H' : Hp} (h : EndX X.K (fun G => EnvR X.K G ds σ ∧ F G) (ED ds) cls d H') : WXD X.K Pm ED cls d σ H' := by
  obtain ⟨M, fs, o, q⟩ := h
  exact ⟨ds, M, fs, o.imp fun _ _ z => ⟨z.1, z.2.1, mF.p _ z.2.2⟩, q⟩
theorem we_calX (g : CalX X.prog X.w X.K X.mg X.base k x sp dd) (tk : TakesD X Pm ED) (hr : Room j X.A) (hk : k ≤ j) (h : WA Pm X (e :: es) M ds fun xs M1 => sp (xs ++ dd) M1 Q (ED ds)) (hg : Gl X x := by rfl) (hdb : (x == ("__debug__" : Str)) = false := by decide)
    (he : starEach (e :: es) X.env = (false, eval e X.env) :: starEach es X.env := by rfl) (hpl : (backTo pos (starEach es X.env)).any (·.1) = false := by rfl) : WE Pm X (.Call (.Name x p) (e :: es) [] pos) M ds Q := by
  intro σ H F mF ok
  obtain ⟨f, fd, ps, dvs, us, F1, hm, kp, hb, hd, hdd⟩ := g.ex
  refine wE_of (pe_callSD F1 (hr.mono hk) hg hm kp hb hd (E := L2.WE (WXD X.K Pm ED)) (fun σ => passAt tk σ) pa_w hdb he hpl) ?_
  exact wA_mono (h σ H F mF ok) fun vs H1 ⟨xs, M1, o1, q⟩ => ⟨xs ++ dd, M1, _, Q, ED ds, (mono_x mF).m, o1.imp fun G _ z => ⟨z.1.append (hdd G), z.2⟩, q, fun v H' z => z, fun cls d H' z => out_of mF z⟩
end
end DL

/-! DLF: classes and methods whose code may raise; what is let out is wished for at the caller's slots. -/
namespace DL
open PySem PySem.Spec L2
open PyProof.Rows hiding St
section
variable {X : Cx} {Pm : Hp → Prop} {M : Mst} {ds : Ds} {Q : QD} {ED : XQ} {pos : Pos} {a b c e : Expr}
variable {j k : Nat} {x m : Str} {sp : SpX} {dd : List D} {p apos : Pos} {o : Expr} {es : List Expr} {C : Addr}
section
variable {CY : CXT} {g : Addr} {gd : FuncData} {ns : List Str} {sr : Sp} {E : L2.St → XK} {dv zs : List V} {du ws : List Value} {pins : List (Addr × Obj)} {σ : L2.St} {H : Hp} {s : Shared} {R : VK}
theorem made_at (hC : Mk X.K C g) (F1 : FnOk X.prog X.w X.K X.mg X.base CY k g gd ns sr) (hr : Room (k + 1) X.A) (hb : Binds X.K gd ns du) (hd : Vals dv du) (out : PassesAt CY X σ (E σ)) (I : Inv X pins σ H s) (rz : Vals zs ws)
    (go : ∀ q dq, H q = none → H dq = none → dq ≠ q → sr (.ref q :: (zs ++ dv)) (upd (upd H dq (.own q)) q (.ins C dq [])) (fun y H2 => y = .non ∧ R (.ref q) H2) (E σ)) :
    wpAny (model X.prog X.w) X.A (call (.ref C) ws) (EP X pins σ R) X.xe s := by
  have J := Inv.made (C := C) I
  have top := go _ _ (I.hok.fresh (Nat.le_succ s.heap.objs.size)) (I.hok.fresh (Nat.le_refl s.heap.objs.size)) (Nat.ne_of_lt (Nat.lt_succ_self _))
  have all : Vals (V.ref (s.heap.objs.size + 1) :: (zs ++ dv)) (Value.ref (s.heap.objs.size + 1) :: (ws ++ du)) := .cons rfl (rz.append hd)
  have len : (Value.ref (s.heap.objs.size + 1) :: ws ++ du).length = ns.length := by rw [← F1.len _ _ _ _ top, all.length]; rfl
  refine wpAny_call (make_map (f := g) I.kIn hC.makes hC.init (beq_iff_eq.mp hC.fn) ?_)
  refine codeAny_mono (F1.run _ _ _ _ ⟨Value.ref (s.heap.objs.size + 1) :: ws, []⟩ _ _ _ (E σ) (hr.make C ws []) (J.env0.make C ws []) (hb _ (Value.ref (s.heap.objs.size + 1) :: ws) J.kIn len) all top) ?_
  rintro (er | fl) s2 z
  · exact out pins _ _ er s2 J z
  · cases fl with
    | ret u =>
      obtain ⟨y, H2, J2, ry, ey, z2⟩ := J.after z
      subst ey
      exact ⟨ry, .ref (s.heap.objs.size + 1), H2, J2, rfl, z2⟩
    | _ => exact z.elim
end
/-- the class x, called: its __init__ may raise -/
theorem mk_coreX {H1 : Hp} {F : Hp → Prop} {vs : List V} {xs : List D} {M1 : Mst} {dvs : List V} {QX : XQ0} {E : XK} (mF : Mono1 F) (o1 : Ok X.K M1 (fun G => RpL X.K G xs vs ∧ F G) H1) (hdd : ∀ G, RpL X.K G dd dvs)
    (q : ∀ q, M1 q = none → sp (.raw (.ref q) :: (xs ++ dd)) (updM M1 q (.obj C [])) (MkEnd C q Q) QX) (hE : ∀ cls d H', EndX X.K F QX cls d H' → E cls d H') (y dy : Addr) (hy : H1 y = none) (hdy : H1 dy = none) (ne : dy ≠ y) :
    toSpX X.K sp (.ref y :: (vs ++ dvs)) (upd (upd H1 dy (.own y)) y (.ins C dy [])) (fun v H2 => v = .non ∧ EndE X.K F Q (.ref y) H2) E := by
  have o2 := o1.new (o := .own y) (mono_rpl.and mF.to) hdy
  have o3 := o2.newM (p := y) (o := .ins C dy []) (d := .obj C []) (by rw [upd_ne (Ne.symm ne)]; exact hy) fun _ _ _ => ⟨dy, [], rfl, RpF.nil⟩
  refine ⟨.raw (.ref y) :: (xs ++ dd), _, F, _, QX, mF, o3.imp fun G _ z => ⟨RpL.cons rp_raw (z.2.1.append (hdd G)), z.2.2⟩, q y (o1.free hy), fun v H' ⟨d, M2, o4, e, fs, hfs, q2⟩ => ?_, hE⟩
  subst e
  have ev : v = .non := o4.use fun _ _ z => z.1.non_inv
  refine ⟨ev, .obj C fs, delM M2 y, ?_, q2⟩
  obtain ⟨G, s, hM, z⟩ := id o4
  obtain ⟨_, dx', ws, hw, hr⟩ := hM y _ hfs
  refine (o4.freeze (mono_rp.and mF.to) hfs hw).imp fun G s z => ?_
  obtain ⟨g1, ⟨dx2, ws', e', r'⟩, g2, g3⟩ := z
  cases e'
  exact ⟨rp_obj g1 r', g3⟩
theorem we_makX (g : MakX X.prog X.w X.K X.mg X.base k x C sp dd) (tk : TakesD X Pm ED) (hr : Room j X.A) (hk : k + 1 ≤ j) (h : WA Pm X (e :: es) M ds fun xs M1 => ∀ q, M1 q = none → sp (.raw (.ref q) :: (xs ++ dd)) (updM M1 q (.obj C [])) (MkEnd C q Q) (ED ds)) (hg : Gl X x := by rfl) (hdb : (x == ("__debug__" : Str)) = false := by decide)
    (he : starEach (e :: es) X.env = (false, eval e X.env) :: starEach es X.env := by rfl) (hpl : (backTo pos (starEach es X.env)).any (·.1) = false := by rfl) : WE Pm X (.Call (.Name x p) (e :: es) [] pos) M ds Q := by
  intro σ H F mF ok pins s I
  obtain ⟨f, fd, ps, dvs, us, F1, mk, hm, hb, hd, hdd⟩ := g.ex
  refine wpAny_Call_Name_kw (ld_glob I hg hm ?_ hdb)
  refine PySem.W.callWith_K (h₀ := X.base) I.ok.mod.kin mk.kp (thn ((wA_mono (h σ H F mF ok) fun _ _ z => z) pos pins s I) fun ws s1 ⟨zs, H1, I1, rz, xs, M1, o1, q⟩ => ⟨I1.kIn, ?_⟩) he hpl
  exact made_at (E := L2.WE (WXD X.K Pm ED)) mk F1 (hr.mono hk) hb hd (passAt tk σ) I1 rz fun y dy h1 h2 h3 => mk_coreX (mono_x mF).m o1 hdd q (fun cls d H' z => out_of mF z) y dy h1 h2 h3
theorem we_metX {pl : Sem Bool} (g : MetX X.prog X.w X.K X.mg X.base k C m sp dd) (tk : TakesD X Pm ED) (hr : Room j X.A) (hk : k ≤ j) (h : WE Pm X o M ds fun x M1 => ∃ fs, IsObj M1 x C fs ∧ fs.lookup m = none ∧ WA Pm X (e :: es) M1 ds fun xs M2 => sp (x :: (xs ++ dd)) M2 Q (ED ds))
    (hst : starEach (e :: es) X.env = (false, eval e X.env) :: starEach es X.env := by rfl) (hpl : (backTo pos (starEach es X.env)).any (·.1) = false := by rfl)
    (ht : eval (.Call (.Attribute o m apos) (e :: es) [] pos) X.env = (do
      let ov ← eval o X.env
      standAt apos.atName
      let (f, first) ← holding [ov] (getMethod ov m pl)
      callWith pos f first (backTo pos (starEach (e :: es) X.env)) (backToKw pos (keywordEach [] X.env))) := by rfl) : WE Pm X (.Call (.Attribute o m apos) (e :: es) [] pos) M ds Q := by
  intro σ H F mF ok pins s I
  obtain ⟨f, fd, ps, dvs, us, F1, cl, hm, hb, hd, hdd⟩ := g.ex
  refine PySem.W.methodCall_KW (pl := pl) (thn (h σ H F mF ok pins s I) fun u s1 ⟨v, H1, I1, rv, d, M1, o1, fs, hx, hl, h2⟩ => ?_) ht
  obtain ⟨q, dx, ws, rfl, hH, o2⟩ := isObj_at hx o1
  obtain rfl : u = Value.ref q := rv
  refine getmeth_ok I1 hH cl hm (o2.use fun _ _ z => z.1.none hl) ?_
  have arg := h2 σ H1 (fun G => Rp X.K G d (.ref q) ∧ F G) (mono_rp.and mF) (o1.imp fun _ _ ⟨z1, z2, z3⟩ => ⟨z2, z1, z3⟩)
  refine PySem.W.callWith_K (first := [.ref q]) (h₀ := X.base) I.ok.mod.kin hm.kp (thn (arg pos pins s1 I1) fun us' s2 ⟨vs, H2, I2, r, xs, M2, o3, q2⟩ => ⟨I2.kIn, ?_⟩) hst hpl
  refine run_fnSD (us := .ref q :: us') (vs := .ref q :: vs) (E := L2.WE (WXD X.K Pm ED)) F1 (hr.mono hk) hb hd (passAt tk σ) I2 (.cons rfl r) ?_
  exact ⟨d :: (xs ++ dd), M2, (fun G => EnvR X.K G ds σ ∧ F G), Q, ED ds, (mono_x mF).m, o3.imp fun G _ z => ⟨RpL.cons z.2.2.1 (z.1.append (hdd G)), z.2.1, z.2.2.2⟩, q2, fun v H' z => z, fun cls d H' z => out_of mF z⟩
theorem we_metX0 {pl : Sem Bool} (g : MetX X.prog X.w X.K X.mg X.base k C m sp dd) (tk : TakesD X Pm ED) (hr : Room j X.A) (hk : k ≤ j) (h : WE Pm X o M ds fun x M1 => ∃ fs, IsObj M1 x C fs ∧ fs.lookup m = none ∧ sp (x :: dd) M1 Q (ED ds))
    (ht : eval (.Call (.Attribute o m apos) [] [] pos) X.env = (do
      let ov ← eval o X.env
      standAt apos.atName
      let (f, first) ← holding [ov] (getMethod ov m pl)
      callWith pos f first (backTo pos (starEach [] X.env)) (backToKw pos (keywordEach [] X.env))) := by rfl) : WE Pm X (.Call (.Attribute o m apos) [] [] pos) M ds Q := by
  intro σ H F mF ok pins s I
  obtain ⟨f, fd, ps, dvs, us, F1, cl, hm, hb, hd, hdd⟩ := g.ex
  refine PySem.W.methodCall_KW (pl := pl) (thn (h σ H F mF ok pins s I) fun u s1 ⟨v, H1, I1, rv, d, M1, o1, fs, hx, hl, h2⟩ => ?_) ht
  obtain ⟨q, dx, ws, rfl, hH, o2⟩ := isObj_at hx o1
  obtain rfl : u = Value.ref q := rv
  refine getmeth_ok I1 hH cl hm (o2.use fun _ _ z => z.1.none hl) ?_
  refine PySem.W.callWith_K0 (first := [.ref q]) I1.kIn hm.kp ?_
  refine run_fnSD (us := [.ref q]) (vs := [.ref q]) (E := L2.WE (WXD X.K Pm ED)) F1 (hr.mono hk) hb hd (passAt tk σ) I1 (.cons rfl .nil) ?_
  exact ⟨d :: dd, M1, (fun G => EnvR X.K G ds σ ∧ F G), Q, ED ds, (mono_x mF).m, o1.imp fun G _ z => ⟨RpL.cons z.1 (hdd G), z.2⟩, h2, fun v H' z => z, fun cls d H' z => out_of mF z⟩
end
end DL

/-! DLG: an exception of the program's own classes: its __init__, raise, try .. except X as e, e.f. -/
namespace DL
open PySem PySem.Spec L2
open PyProof.Rows hiding St
section
variable {X : Cx} {Pm : Hp → Prop} {M : Mst} {ds : Ds} {Q : QD} {ED : XQ} {pos p' : Pos} {a b c e o : Expr} {es : List Expr} {Dn : EndD}
/-- self.f = e within an exception's __init__ -/
theorem ws_xst {f : Str} (h : WE Pm X e M ds fun y M1 => WE Pm X o M1 ds fun x M2 => ∃ a C : Addr, x = .raw (.ref a) ∧ OexC X.K C ∧ PySem.W.findIn X.K (.ref C) f = some none ∧
      ((M2 a = some (.xo a C none) ∧ ∀ dx, M2 dx = none → dx ≠ a → Dn.nx ds (updM (updM M2 dx (.xf dx [(f, y)])) a (.xo a C (some dx)))) ∨
        ∃ dx fs, M2 a = some (.xo a C (some dx)) ∧ M2 dx = some (.xf dx fs) ∧ fs.length ≤ 900 ∧ Dn.nx ds (updM M2 dx (.xf dx ((f, y) :: fs)))))
    (hs : swapsWith e (some (.Attribute o f p')) pos.line X.env = pure false := by rfl) : WS Pm X (.Assign [.Attribute o f p'] e pos) M ds Dn := by
  intro σ H F mF ok
  refine wS_of (ps_ost pe_w pe_w hs) ?_
  refine run2 mF ok h fun v u H' y x M' ok' q => ?_
  obtain ⟨a, C, rfl, T, hno, q⟩ := q
  obtain rfl : u = .ref a := ok'.use fun _ _ z => z.2.1.raw_inv
  refine ⟨a, C, rfl, T, hno, ?_⟩
  rcases q with ⟨hM, q⟩ | ⟨dx, fs, hM, hd, hl, q⟩
  · refine .inl ⟨(ok'.getM hM).use fun _ _ z => z.1, fun dx n ne => ⟨ds, _, ?_, q dx (ok'.free n) ne⟩⟩
    have o2 := ok'.newM (p := dx) (o := exd dx [(f, v)]) (d := .xf dx [(f, y)]) n fun _ _ z => ⟨_, rfl, RpF.cons z.1 RpF.nil⟩
    exact (o2.setM (p := a) (o := exo a C (some dx)) (d := .xo a C (some dx)) (old := .xo a C none) (by rw [updM_ne (Ne.symm ne)]; exact hM) fun _ _ _ _ => rfl).imp fun _ _ z => ⟨z.2.2.1, z.2.2.2⟩
  · obtain ⟨G, s, hall, z⟩ := id ok'
    obtain ⟨g0, ws, hw, hr⟩ := hall dx _ hd
    refine .inr ⟨dx, ws, (hall a _ hM).2, hw, ?_, ds, _, ?_, q⟩
    · rw [hr.length]; exact hl
    · have o2 : Ok X.K M' (fun G' => G' = G ∧ Rp X.K G' y v ∧ Rp X.K G' (.raw (.ref a)) (.ref a) ∧ EnvR X.K G' ds σ ∧ F G') H' := ⟨G, s, hall, rfl, z⟩
      refine (o2.setM (p := dx) (o := exd dx ((f, v) :: ws)) (d := .xf dx ((f, y) :: fs)) hd fun G' _ z2 _ => ?_).imp fun _ _ z => ⟨z.2.2.2.1, z.2.2.2.2⟩
      obtain ⟨e, z2⟩ := z2
      subst e
      exact ⟨_, rfl, RpF.cons z2.1 hr⟩
/-- all that is there beside M stands in the frozen part -/
def Full (M : Mst) (H G : Hp) : Prop := ∀ b, M b = none → H b ≠ none → G b ≠ none
theorem mono_full {M : Mst} {H : Hp} : Mono1 (Full M H) := fun G G' e h b hM hH z => by
  cases q : G b with
  | none => exact h b hM hH q
  | some o =>
    obtain ⟨_, q2, _⟩ := e b o q
    rw [z] at q2
    cases q2
def offM (M : Mst) (H : Hp) : Hp := fun b => match M b with
  | none => H b
  | some _ => none
theorem offM_in {M : Mst} {H : Hp} {b : Addr} (h : M b = none) : offM M H b = H b := by unfold offM; rw [h]
theorem offM_out {M : Mst} {H : Hp} {b : Addr} {d : D} (h : M b = some d) : offM M H b = none := by unfold offM; rw [h]
theorem Ok.full {K : PySem.W.Frag} {F : Hp → Prop} {H : Hp} (h : Ok K M F H) (mF : Mono1 F) : Ok K M (fun G => Full M H G ∧ F G) H := by
  obtain ⟨G, s, hM, z⟩ := h
  have le : Le G (offM M H) := fun b u q => by
    obtain ⟨o', h', e'⟩ := s b u q
    have : M b = none := by
      cases hm : M b with
      | none => rfl
      | some d =>
        rw [(hM b d hm).1] at q
        cases q
    exact ⟨o', (offM_in this).trans h', e'⟩
  refine ⟨offM M H, fun b u q => ?_, fun b d hb => ⟨offM_out hb, (hM b d hb).2.mono le⟩, fun b hb hH => by rw [offM_in hb]; exact hH, mF _ _ le z⟩
  cases hm : M b with
  | none =>
    rw [offM_in hm] at q
    exact ⟨u, q, rfl⟩
  | some d =>
    rw [offM_out hm] at q
    cases q
/-- an own exception class with an own __init__ that raises nothing -/
structure XmkD (P : Program) (w : World) (K : PySem.W.Frag) (mg : Str → Option Value) (base : Heap) (k : Nat) (x : Str) (C : Addr) (sp : SpD) (dd : List D) : Prop where
  ex : ∃ (f : Addr) (fd : FuncData) (ps : List Str) (dvs : List V) (us : List Value), FnOk P w K mg base CX0 k f fd ps (toSp K sp) ∧ PySem.W.findIn K (.ref C) "__init__" = some (some (.ref f)) ∧ PySem.W.typeIn K (.ref f) = some (.type "function") ∧ OexC K C ∧ mg x = some (.ref C) ∧ Binds K fd ps us ∧ Vals dvs us ∧ ∀ G, RpL K G dd dvs
theorem ws_raiseX {x : Str} {C : Addr} {sp : SpD} {dd : List D} {j k : Nat} {p pos' : Pos} (g : XmkD X.prog X.w X.K X.mg X.base k x C sp dd) (tk : TakesD X Pm ED) (hr : Room j X.A) (hk : k + 1 ≤ j)
    (h : WA Pm X (e :: es) M ds fun xs M1 => xs.length ≤ 1000 ∧ ∀ a, M1 a = none → sp (.raw (.ref a) :: (xs ++ dd)) (updM M1 a (.xo a C none)) fun d M2 => d = .non ∧ ∃ dx fs, M2 a = some (.xo a C (some dx)) ∧ M2 dx = some (.xf dx fs) ∧ dx ≠ a ∧ M1 dx = none ∧ ED ds (.ref C) fs (delM (delM M2 a) dx))
    (hc : X.calm = true := by rfl) (hg : Gl X x := by rfl) (hdb : (x == ("__debug__" : Str)) = false := by decide) (he : starEach (e :: es) X.env = (false, eval e X.env) :: starEach es X.env := by rfl) (hpl : (backTo pos' (starEach es X.env)).any (·.1) = false := by rfl) :
    WS Pm X (.Raise (some (.Call (.Name x p) (e :: es) [] pos')) none pos) M ds Dn := by
  intro σ H F mF ok
  obtain ⟨f, fd, ps, dvs, us, F1, iC, tI, T, hm, hb, hd, hdd⟩ := g.ex
  refine wS_of (ps_raise hc tk (pmk_oex T iC tI F1 (hr.mono hk) hb hd pass0 hg hm pa_w hdb he hpl)) ?_
  refine wA_mono (h σ H F mF ok) fun vs H1 ⟨xs, M1, o1, hl, q⟩ => ⟨by rw [o1.use fun _ _ z => z.1.length]; exact hl, fun a ha => ?_⟩
  have o2 := o1.full (mono_rpl.and1 (mono_x mF).m)
  have o3 := o2.newM (p := a) (o := exo a C none) (d := .xo a C none) ha fun _ _ _ => rfl
  refine ⟨.raw (.ref a) :: (xs ++ dd), _, fun G => Full M1 H1 G ∧ EnvR X.K G ds σ ∧ F G, _, mono_full.and1 (mono_x mF).m, o3.imp fun G _ z => ⟨RpL.cons rp_raw (z.2.1.append (hdd G)), z.1, z.2.2⟩, q a (o1.free ha), fun v H2 z => ?_⟩
  obtain ⟨d, M2, o4, e, dx, fs, hMa, hMd, ne, hM1, q2⟩ := z
  subst e
  obtain ⟨G, s, hall, z1, z2, z3, z4⟩ := o4
  cases z1.non_inv
  obtain ⟨ga, ha2⟩ := hall a _ hMa
  obtain ⟨gd, ws, hd2, hr2⟩ := hall dx _ hMd
  have hH1 : H1 dx = none := by
    cases q : H1 dx with
    | none => rfl
    | some o => exact absurd gd (z2 dx hM1 (by rw [q]; exact fun z => nomatch z))
  have le : Le G (del H2 a) := fun b u q => by
    have hba : b ≠ a := fun z => by
      rw [z, ga] at q
      cases q
    rw [del_ne hba]
    exact s b u q
  have sG : Le G (upd G dx (.xd ws)) := (Le.refl G).upd_none gd
  refine ⟨rfl, dx, ws, ha2, hd2, hH1, ds, _, fs, ⟨upd G dx (.xd ws), le.both, fun b u q => ?_, ⟨ws, upd_same, hr2.mono sG⟩, z3.mono sG, mF.p _ (mF.m _ _ sG z4)⟩, q2⟩
  by_cases hbd : b = dx
  · rw [hbd, delM_same] at q
    cases q
  · rw [delM_ne hbd] at q
    by_cases hba : b = a
    · rw [hba, delM_same] at q
      cases q
    · rw [delM_ne hba] at q
      obtain ⟨g1, g2⟩ := hall b u q
      rw [upd_ne hbd, upd_ne hbd, del_ne hba]
      exact ⟨g1, g2.mono sG⟩
/-- try: body, except x as n: suite -/
theorem ws_tryAs {x n : Str} {c : Value} {i : Nat} {body suite : List Stmt} {b₀ : Stmt} {np pos' : Pos} (tk : TakesD X Pm ED) (hi : X.N[i]? = some n) (hc : Names X x c)
    (hb : ∀ (pn : List (Addr × Obj)) (xe : Value → Shared → Prop) (Pm' : Hp → Prop), TakesD (X.tr pn xe) Pm' (fun ds' cls fs M' => ∃ b, PySem.W.exmOne X.K cls c = some b ∧ (b = true → ∀ (a : Addr) (oe : Obj) (d : Option Addr) (pn' : List (Addr × Obj)), Zc cls d oe → (∃ vs, oe.data = .fields vs) →
        WSs (XdG X.K fs d) (X.suite a ((a, oe) :: pn')) (b₀ :: suite) M' (ds'.set i (some (.raw (.ref a)))) { nx := fun ds M => Dn.nx (ds.set i none) M, rt := Dn.rt, bk := fun ds M => Dn.bk (ds.set i none) M, ct := fun ds M => Dn.ct (ds.set i none) M }) ∧ (b = false → ED ds' cls fs M')) →
      PassesOwn (model X.prog X.w) X.A X.env xe → WSs Pm' (X.tr pn xe) body M ds Dn)
    (hN : X.N.Nodup := by decide) (hs : X.stack = X.env :: X.outer := by rfl) (hf : X.env.frame = some X.env.locals := by rfl) (hln : X.env.kindOf n = some .local := by rfl) :
    WS Pm X (.Try body [.ExceptHandler (some (.Name x np)) (some n) (b₀ :: suite) pos'] [] [] pos) M ds Dn := by
  intro σ H F mF ok
  refine wS_of (ps_try_as (tb := fun W D σ H => ∀ pn xe, Takes (X.tr pn xe) W → PassesOwn (model X.prog X.w) X.A X.env xe → wSs (X.tr pn xe) body D σ H)
    (ts := fun a cls d D σ H => ∀ oe pn, Zc cls d oe → (∃ vs, oe.data = .fields vs) → wSs (X.suite a ((a, oe) :: pn)) (b₀ :: suite) D σ H) (Wout := WXD X.K Pm ED) hs hf hN hi hln hc tk
    (fun W pn xe t p => ⟨fun pins s σ H D I h => h pn xe t p pins s I⟩) (fun a oe cls d pn z1 z2 => ⟨fun pins s σ H D I h => h oe pn z1 z2 pins s I⟩)) ?_
  intro pn xe t pw
  refine hb pn xe F (Takes.imp t fun cls d σ' H' z => ?_) pw σ H F ⟨mF.m, fun _ z => z⟩ ok
  obtain ⟨ds', M', fs, o, b, hb1, yes, no⟩ := z
  refine ⟨b, hb1, fun e a na oe pn' z1 z2 => ?_, fun e => ⟨ds', M', fs, o.imp fun _ _ z => ⟨z.1, z.2.1, mF.p _ z.2.2⟩, no e⟩⟩
  have h1 := yes e a oe d pn' z1 z2 (σ'.set i (some (.ref a))) H' (fun G => XdG X.K fs d G ∧ F G) ⟨XdG.mono.and1 mF.m, fun _ z => z.1⟩ (o.imp fun _ _ z => ⟨EnvR.set rp_raw i z.2.1, z.1, z.2.2⟩)
  refine wSs_mono h1 (fun σ2 H2 ⟨ds2, M2, o2, q⟩ => ⟨_, M2, o2.imp fun _ _ z => ⟨z.1.setN i, z.2.2⟩, q⟩) (fun v H2 ⟨d, M2, o2, q⟩ => ⟨d, M2, o2.imp fun _ _ z => ⟨z.1, z.2.2⟩, q⟩) (fun σ2 H2 ⟨ds2, M2, o2, q⟩ => ⟨_, M2, o2.imp fun _ _ z => ⟨z.1.setN i, z.2.2⟩, q⟩) (fun σ2 H2 ⟨ds2, M2, o2, q⟩ => ⟨_, M2, o2.imp fun _ _ z => ⟨z.1.setN i, z.2.2⟩, q⟩)
/-- e.f within the suite -/
theorem we_xf {C a : Addr} {oe : Obj} {d : Option Addr} {pn : List (Addr × Obj)} {n : Str} {fs : List (Str × D)} (T : XfC X.K C) (hno : PySem.W.findIn X.K (.ref C) n = some none) (hz : Zc (.ref C) d oe) (hv : ∃ vs, oe.data = .fields vs)
    (h : WE (XdG X.K fs d) (X.suite a ((a, oe) :: pn)) e M ds fun x M1 => x = .raw (.ref a) ∧ ∃ y, fs.lookup n = some y ∧ Q y M1) (hb : attributeBase e n X.env (eval e X.env) = eval e X.env := by rfl) :
    WE (XdG X.K fs d) (X.suite a ((a, oe) :: pn)) (.Attribute e n pos) M ds Q := by
  intro σ H F mF ok
  refine wE_of (pe_xf T hno hz hv pe_w hb) ?_
  refine wE_mono (h σ H F mF ok) fun v H1 ⟨x, M1, o1, ex, y, hl, q⟩ => ?_
  subst ex
  obtain ⟨G, s, hall, z1, z2, z3⟩ := o1
  have hx := mF.p _ z3
  cases d with
  | none =>
    have e : fs = [] := hx
    rw [e] at hl
    cases hl
  | some dd =>
    obtain ⟨ws, hw, hr⟩ := hx
    obtain ⟨v', hv', rv'⟩ := hr.some hl
    exact ⟨z1.raw_inv, rfl, dd, ws, v', rfl, s.at hw, hv', y, M1, ⟨G, s, hall, rv', z2, z3⟩, q⟩
end
end DL

/-! DLI: classes by their written part; a != b by an own __eq__. -/
namespace DL
open PySem PySem.Spec L2
open PyProof.Rows hiding St
def partB (K : PySem.W.Frag) (C : Addr) (newId : String) (pb : Bool → List Value → Bool) (pN : Addr → Bool) : Bool := match K.lookup C with
  | some ⟨.type "type", _, .cls cd, sl⟩ => (match cd.mro, sl.toList with
    | .ref C' :: bm, [_, _, _, _, some (.builtin n), _] => C' == C && (n == newId && (!cd.hasDel && (pb cd.hasDict bm && pN cd.ns)))
    | _, _ => false)
  | _ => false
theorem part_of {K : PySem.W.Frag} {C : Addr} {newId : String} {pb : Bool → List Value → Bool} {pN : Addr → Bool} (q : partB K C newId pb pN = true) :
    ∃ nm qn N bs bm hdct sn sub ab col dd k0 k1 k2 k3 k5, K.lookup C = some (excClassObj nm qn C N bs bm hdct sn sub ab col dd k0 k1 k2 k3 k5 newId) ∧ pb hdct bm = true ∧ pN N = true := by
  unfold partB at q
  split at q
  · rename_i dd cd sl ho
    split at q
    · rename_i C' bm k0 k1 k2 k3 n k5 hm hs
      simp only [Bool.and_eq_true, beq_iff_eq, Bool.not_eq_true'] at q
      obtain ⟨rfl, rfl, hdel, h1, h2⟩ := q
      obtain ⟨nm, bs, mro, ns, qn, hd, sn, sub, ab, col, del⟩ := cd
      dsimp only at hm hdel h1 h2
      subst hm hdel
      obtain ⟨l⟩ := sl
      have hs : l = _ := hs
      subst hs
      exact ⟨nm, qn, ns, bs, bm, hd, sn, sub, ab, col, dd, k0, k1, k2, k3, k5, ho, h1, h2⟩
    · cases q
  · cases q
/-- an own exception class over ValueError: the check, run in the kernel -/
def oexB (K : PySem.W.Frag) (C : Addr) : Bool := partB K C "ValueError.__new__" (fun hd bm => hd && PySem.HandSPX.refsVE bm) (fun _ => true) &&
  (decide (PySem.W.findIn K (.ref C) "__setattr__" = some (some (.builtin "object.__setattr__"))) && (decide (PySem.W.subIn K (.ref C) (.type "BaseException") = some true) && (decide (PySem.W.typeIn K (.ref C) = some (.type "type")) && PySem.W.keepIn K (.ref C))))
theorem oex_of {K : PySem.W.Frag} {C : Addr} (q : oexB K C = true) : OexC K C := by
  unfold oexB at q
  simp only [Bool.and_eq_true, decide_eq_true_eq] at q
  obtain ⟨h0, h1, h2, h3, h4⟩ := q
  obtain ⟨nm, qn, N, bs, bm, hdct, sn, sub, ab, col, dd, k0, k1, k2, k3, k5, hl, hb, _⟩ := part_of h0
  simp only [Bool.and_eq_true] at hb
  obtain ⟨rfl, hb⟩ := hb
  exact ⟨⟨nm, qn, N, bs, bm, sn, sub, ab, col, dd, k0, k1, k2, k3, k5, hl, hb⟩, h1, h2, h3, h4⟩
/-- a plain class with an own __eq__ and no own __ne__ -/
def neB (K : PySem.W.Frag) (C f : Addr) : Bool := partB K C "object.__new__" (fun _ bm => bm == [.type "object"]) (fun N => PySem.W.nsOkIn K N && (decide (PySem.W.nsIn K N "__eq__" = some (some (.ref f))) && decide (PySem.W.nsIn K N "__ne__" = some none))) && PySem.W.isFn K (.ref f)
theorem nsv_of {K : PySem.W.Frag} {h : Heap} {N : Addr} {mg : Str → Option Value} {n : Str} {v : Value} (k : K.In h) (g : h.Ns N mg) (q : PySem.W.nsIn K N n = some (some v)) : mg n = some v := by
  obtain ⟨o, es, ep, ho, hd, _, look⟩ := g
  unfold PySem.W.nsIn at q
  split at q
  · rename_i es' _ _ hl
    have z := k _ _ hl
    rw [ho] at z
    cases z
    cases hd
    split at q
    · rename_i hit
      cases q
      rw [← look]
      unfold nsFind findBy
      rw [← Array.find?_toList, hit]
      rfl
    · split at q <;> cases q
  · cases q
section
variable {X : Cx} {Pm : Hp → Prop} {M : Mst} {Q : QD} {j k : Nat} {C f : Addr} {sp : SpD}
theorem ne_at {h : Heap} {x : Addr} {o : Obj} (kin : X.K.In h) (q : neB X.K C f = true) (hx : h.get? x = some o) (hc : o.cls = .ref C) (he : typeLookup (.type "object") "__eq__" = pure yB) : h.OwnEqNoNe x C f "object" [.type "object"] := by
  unfold neB at q
  simp only [Bool.and_eq_true] at q
  obtain ⟨q, fn⟩ := q
  obtain ⟨nm, qn, N, bs, bm, hdct, sn, sub, ab, col, dd, k0, k1, k2, k3, k5, hl, hb, hN⟩ := part_of q
  simp only [Bool.and_eq_true, decide_eq_true_eq] at hN
  obtain ⟨n0, n1, n2⟩ := hN
  have hb : bm = _ := beq_iff_eq.mp hb
  subst hb
  have ns : h.Ns N (h.nsMap N) := .of_isNs (PySem.W.isNs_of_in kin n0)
  have fn : PySem.W.typeIn X.K (.ref f) = some (.type "function") := beq_iff_eq.mp fn
  obtain ⟨of, hf, hfc⟩ := Option.map_eq_some_iff.mp fn
  exact ⟨o, of, nm, qn, N, bs, hdct, sn, sub, ab, col, dd, k0, k1, k2, k3, k5, "object.__new__", _, _, hx, hc, kin _ _ hl, ns, nsv_of kin ns n1, kin _ _ hf, hfc, PySem.F.mro_object, he, PySem.W.ns_none_of kin ns n2⟩
/-- a != b, by an own __eq__ that answers a bool -/
theorem b_neOwn {fd : FuncData} {ps : List Str} {x y : D} {fs gs : List (Str × D)} (q : neB X.K C f = true) (he : typeLookup (.type "object") "__eq__" = pure yB)
    (F1 : FnOk X.prog X.w X.K X.mg X.base CX0 k f fd ps (toSp X.K sp)) (hb : Binds X.K fd ps []) (hr : Room j X.A) (hk : k + 1 ≤ j) (hx : IsObj M x C fs) (hy : IsObj M y C gs) (h : sp [x, y] M fun d M1 => ∃ t, d = .bl t ∧ Q (.bl (!t)) M1) : BinG Pm X (compareOp .NotEq) x y M Q := by
  intro v u H F mF ok
  obtain ⟨p, dx, ws, rfl, hp, o2⟩ := isObj_at hx ok
  obtain ⟨q', dy, zs, rfl, hq, o3⟩ := isObj_at (F := fun G => Rp X.K G x (.ref p) ∧ F G) hy (ok.imp fun _ _ ⟨z1, z2, z3⟩ => ⟨z2, z1, z3⟩)
  intro pins s σ v' u' I r1 r2
  cases (show v' = Value.ref p from r1)
  cases (show u' = Value.ref q' from r2)
  obtain ⟨od, J⟩ := inst_at I hp
  obtain ⟨od', J'⟩ := inst_at I hq
  have ok2 : Ok X.K M (fun G => RpL X.K G [x, y] [.ref p, .ref q'] ∧ F G) H := ok.imp fun _ _ ⟨z1, z2, z3⟩ => ⟨RpL.cons z1 (RpL.cons z2 RpL.nil), z3⟩
  have top : toSp X.K sp [.ref p, .ref q'] H (EndE X.K F fun d M1 => ∃ t, d = .bl t ∧ Q (.bl (!t)) M1) E0 := ⟨[x, y], M, F, _, mF.m, ok2, h, fun v H' z => z⟩
  have hl := F1.len [.ref p, .ref q'] H _ E0 top
  have bd := hb s [.ref p, .ref q'] I.kIn (by rw [List.append_nil]; exact hl)
  rw [List.append_nil] at bd
  have run := F1.run X.A.in1 X.stack s H ⟨[.ref p, .ref q'], []⟩ [.ref p, .ref q'] [.ref p, .ref q'] _ E0 (hr.mono hk).in1 I.env0.in1 bd (.cons rfl (.cons rfl .nil)) top
  have kin := I.kIn
  refine PySem.compareOp_ne_ownEq (h := s.heap) (g := s.gens) (d := s.drawn) (t := s.toks) (os := s.os) PySem.F.cmp_object (ne_at kin q J.1 rfl he) J'.1 rfl (by have := (hr.mono hk).un; omega) ?_
  refine wpAny_call (codeAny_mono run ?_)
  rintro (er | fl) s2 z
  · exact z.elim
  · cases fl with
    | ret w =>
      obtain ⟨v, H', I', rv, d, M', o', t, e, q2⟩ := I.after z
      subst e
      obtain rfl : v = .bl t := o'.use fun _ _ z => z.1.bl_inv
      cases (show w = Value.bool t from rv)
      exact ⟨t, rfl, .bl (!t), H', I', rfl, .bl (!t), M', o'.imp fun _ _ z => ⟨rp_bl, z.2⟩, q2⟩
    | _ => exact z.elim
end
end DL

/-! DLJ: C(k = a, m = b), all by keywords, where nothing is raised. -/
namespace DL
open PySem PySem.Spec L2
open PyProof.Rows hiding St
structure MakK (P : Program) (w : World) (K : PySem.W.Frag) (mg : Str → Option Value) (base : Heap) (k : Nat) (x : Str) (C : Addr) (ks : List Str) (gD : List D → List D) (sp : SpX) : Prop where
  ex : ∃ (f : Addr) (fd : FuncData) (ps : List Str) (g : List Value → List Value → List Value) (gV : List V → List V → List V), FnOk P w K mg base (L2.CX P w) k f fd ps (toSpX K sp) ∧ Mk K C f ∧ mg x = some (.ref C) ∧ KBn K fd ps 1 ks g gV ∧
    ∀ G v zs xs, xs.length = ks.length → RpL K G xs zs → ∃ r, gV [v] zs = v :: r ∧ RpL K G (gD xs) r
section
variable {X : Cx} {Pm : Hp → Prop} {M : Mst} {ds : Ds} {Q : QD} {pos p kp1 kp2 : Pos} {a b : Expr} {j k : Nat} {x k1 k2 : Str} {C : Addr} {sp : SpX} {gD : List D → List D}
theorem we_mak2 (g : MakK X.prog X.w X.K X.mg X.base k x C [k1, k2] gD sp) (hr : Room j X.A) (hk : k + 1 ≤ j)
    (h : WE Pm X a M ds fun y M1 => WE Pm X b M1 ds fun z M2 => ∀ q, M2 q = none → sp (.raw (.ref q) :: gD [y, z]) (updM M2 q (.obj C [])) (MkEnd C q Q) (fun _ _ _ => False)) (hg : Gl X x := by rfl)
    (hall : (backToKw pos (keywordEach [⟨some k1, a, kp1⟩, ⟨some k2, b, kp2⟩] X.env)).all (·.1.isSome) = true := by rfl) (hks : (backToKw pos (keywordEach [⟨some k1, a, kp1⟩, ⟨some k2, b, kp2⟩] X.env)).filterMap (·.1) = [k1, k2] := by rfl) (hdb : (x == ("__debug__" : Str)) = false := by decide)
    (hpl : ((backTo pos (starEach [] X.env)).any (·.1) || (backToKw pos (keywordEach [⟨some k1, a, kp1⟩, ⟨some k2, b, kp2⟩] X.env)).any (·.1.isNone)) = false := by rfl) :
    WE Pm X (.Call (.Name x p) [] [⟨some k1, a, kp1⟩, ⟨some k2, b, kp2⟩] pos) M ds Q := by
  intro σ H F mF ok
  obtain ⟨f, fd, ps, g, gV, F1, mk, hm, hb, hG⟩ := g.ex
  have tk : TakesD X Pm (fun _ _ _ _ => False) := takes_no
  refine wE_of (pe_makeK0 mk F1 (hr.mono hk) hg hm hb (passes_call (E := fun _ _ _ => False) tk fun _ _ _ _ z => z.elim) (pk_cons pe_w (pk_cons pe_w pk_nil)) hall hks hdb hpl) ?_
  refine run2 mF ok h fun v u H2 y z M2 ok2 q => ⟨rfl, rfl, fun t dt h1 h2 h3 => ?_⟩
  have o3 : Ok X.K M2 (fun G => RpL X.K G [y, z] [v, u] ∧ EnvR X.K G ds σ ∧ F G) H2 := ok2.imp fun _ _ ⟨z1, z2, z3⟩ => ⟨RpL.cons z1 (RpL.cons z2 RpL.nil), z3⟩
  obtain ⟨r, er⟩ : ∃ r, gV [.ref t] [v, u] = .ref t :: r := o3.use fun G _ z => let ⟨r, e, _⟩ := hG G (.ref t) _ _ rfl z.1; ⟨r, e⟩
  have o4 : Ok X.K M2 (fun G => RpL X.K G (gD [y, z]) r ∧ EnvR X.K G ds σ ∧ F G) H2 := o3.imp fun G _ z => by
    obtain ⟨r', e', hr'⟩ := hG G (.ref t) _ _ rfl z.1
    rw [er] at e'
    cases e'
    exact ⟨hr', z.2⟩
  have top := mk_coreX (sp := sp) (dd := []) (dvs := []) (QX := fun _ _ _ => False) (E := fun _ _ _ => False) (C := C) (Q := Q) (mono_x mF).m o4 (fun _ => RpL.nil) (by simpa only [List.append_nil] using q) (fun cls d H' z => by
    obtain ⟨_, _, _, z⟩ := z
    exact z) t dt h1 h2 h3
  rw [List.append_nil] at top
  rw [er]
  exact top
end
end DL

namespace K02
open PySem PySem.Spec PyProof.Rows L2
def top (i : Nat) : Stmt := PySem.Challenge.pw_ringsallow_k02_lengths_of_both_and_withi.main.body.getD i (.Pass ⟨0, 0, 0, 0⟩)
def clsBody : Stmt → List Stmt
  | .ClassDef _ _ _ b _ _ _ _ _ _ _ => b
  | _ => []
def mth (i j : Nat) : Stmt := (clsBody (top i)).getD j (.Pass ⟨0, 0, 0, 0⟩)
abbrev s__wall : Stmt := top 1
def d__wall : He.DefD := ⟨("_wall", none), "_wall", "_wall", defArgs s__wall, defBody s__wall, defScope s__wall, [], []⟩
abbrev s__kept : Stmt := top 4
def d__kept : He.DefD := ⟨("_kept", none), "_kept", "_kept", defArgs s__kept, defBody s__kept, defScope s__kept, [], []⟩
abbrev s_BadLengths___init__ : Stmt := mth 5 0
def d_BadLengths___init__ : He.DefD := ⟨("BadLengths", some "__init__"), "__init__", "BadLengths.__init__", defArgs s_BadLengths___init__, defBody s_BadLengths___init__, defScope s_BadLengths___init__, [], []⟩
abbrev s__lacks_divisor : Stmt := top 7
def d__lacks_divisor : He.DefD := ⟨("_lacks_divisor", none), "_lacks_divisor", "_lacks_divisor", defArgs s__lacks_divisor, defBody s__lacks_divisor, defScope s__lacks_divisor, [], []⟩
abbrev s__wrong_gap : Stmt := top 8
def d__wrong_gap : He.DefD := ⟨("_wrong_gap", none), "_wrong_gap", "_wrong_gap", defArgs s__wrong_gap, defBody s__wrong_gap, defScope s__wrong_gap, [], []⟩
abbrev s_Lengths___init__ : Stmt := mth 9 0
def d_Lengths___init__ : He.DefD := ⟨("Lengths", some "__init__"), "__init__", "Lengths.__init__", defArgs s_Lengths___init__, defBody s_Lengths___init__, defScope s_Lengths___init__, [.adr (He.dflAt ("Lengths", some "__init__") 0)], []⟩
abbrev s_Lengths___contains__ : Stmt := mth 9 1
def d_Lengths___contains__ : He.DefD := ⟨("Lengths", some "__contains__"), "__contains__", "Lengths.__contains__", defArgs s_Lengths___contains__, defBody s_Lengths___contains__, defScope s_Lengths___contains__, [], []⟩
abbrev s_Lengths___eq__ : Stmt := mth 9 2
def d_Lengths___eq__ : He.DefD := ⟨("Lengths", some "__eq__"), "__eq__", "Lengths.__eq__", defArgs s_Lengths___eq__, defBody s_Lengths___eq__, defScope s_Lengths___eq__, [], []⟩
abbrev s_Lengths___str__ : Stmt := mth 9 3
def d_Lengths___str__ : He.DefD := ⟨("Lengths", some "__str__"), "__str__", "Lengths.__str__", defArgs s_Lengths___str__, defBody s_Lengths___str__, defScope s_Lengths___str__, [], []⟩
abbrev s_Lengths_within : Stmt := mth 9 4
def d_Lengths_within : He.DefD := ⟨("Lengths", some "within"), "within", "Lengths.within", defArgs s_Lengths_within, defBody s_Lengths_within, defScope s_Lengths_within, [], []⟩
abbrev s_Lengths_least : Stmt := mth 9 5
def d_Lengths_least : He.DefD := ⟨("Lengths", some "least"), "least", "Lengths.least", defArgs s_Lengths_least, defBody s_Lengths_least, defScope s_Lengths_least, [], []⟩
abbrev s_Lengths_both : Stmt := mth 9 6
def d_Lengths_both : He.DefD := ⟨("Lengths", some "both"), "both", "Lengths.both", defArgs s_Lengths_both, defBody s_Lengths_both, defScope s_Lengths_both, [], []⟩
abbrev s_Lengths_times : Stmt := mth 9 7
def d_Lengths_times : He.DefD := ⟨("Lengths", some "times"), "times", "Lengths.times", defArgs s_Lengths_times, defBody s_Lengths_times, defScope s_Lengths_times, [], []⟩
abbrev s_Lengths_parts : Stmt := mth 9 8
def d_Lengths_parts : He.DefD := ⟨("Lengths", some "parts"), "parts", "Lengths.parts", defArgs s_Lengths_parts, defBody s_Lengths_parts, defScope s_Lengths_parts, [], []⟩
abbrev s_Lengths_text : Stmt := mth 9 9
def d_Lengths_text : He.DefD := ⟨("Lengths", some "text"), "text", "Lengths.text", defArgs s_Lengths_text, defBody s_Lengths_text, defScope s_Lengths_text, [], []⟩
abbrev s__law_bag : Stmt := top 11
def d__law_bag : He.DefD := ⟨("_law_bag", none), "_law_bag", "_law_bag", defArgs s__law_bag, defBody s__law_bag, defScope s__law_bag, [], []⟩
abbrev s__law_take : Stmt := top 12
def d__law_take : He.DefD := ⟨("_law_take", none), "_law_take", "_law_take", defArgs s__law_take, defBody s__law_take, defScope s__law_take, [], []⟩
abbrev s__law_pick : Stmt := top 13
def d__law_pick : He.DefD := ⟨("_law_pick", none), "_law_pick", "_law_pick", defArgs s__law_pick, defBody s__law_pick, defScope s__law_pick, [], []⟩
abbrev s__law_mixed : Stmt := top 14
def d__law_mixed : He.DefD := ⟨("_law_mixed", none), "_law_mixed", "_law_mixed", defArgs s__law_mixed, defBody s__law_mixed, defScope s__law_mixed, [], []⟩
abbrev s__law_int : Stmt := top 15
def d__law_int : He.DefD := ⟨("_law_int", none), "_law_int", "_law_int", defArgs s__law_int, defBody s__law_int, defScope s__law_int, [], []⟩
abbrev s__law_truth : Stmt := top 16
def d__law_truth : He.DefD := ⟨("_law_truth", none), "_law_truth", "_law_truth", defArgs s__law_truth, defBody s__law_truth, defScope s__law_truth, [], []⟩
abbrev s__law_gcd : Stmt := top 17
def d__law_gcd : He.DefD := ⟨("_law_gcd", none), "_law_gcd", "_law_gcd", defArgs s__law_gcd, defBody s__law_gcd, defScope s__law_gcd, [], []⟩
abbrev s__law_closed : Stmt := top 18
def d__law_closed : He.DefD := ⟨("_law_closed", none), "_law_closed", "_law_closed", defArgs s__law_closed, defBody s__law_closed, defScope s__law_closed, [], []⟩
abbrev s__law_one_of : Stmt := top 19
def d__law_one_of : He.DefD := ⟨("_law_one_of", none), "_law_one_of", "_law_one_of", defArgs s__law_one_of, defBody s__law_one_of, defScope s__law_one_of, [], []⟩
abbrev s__law_within : Stmt := top 20
def d__law_within : He.DefD := ⟨("_law_within", none), "_law_within", "_law_within", defArgs s__law_within, defBody s__law_within, defScope s__law_within, [], []⟩
abbrev s__law_tells : Stmt := top 21
def d__law_tells : He.DefD := ⟨("_law_tells", none), "_law_tells", "_law_tells", defArgs s__law_tells, defBody s__law_tells, defScope s__law_tells, [], []⟩
abbrev s__law_lengths : Stmt := top 22
def d__law_lengths : He.DefD := ⟨("_law_lengths", none), "_law_lengths", "_law_lengths", defArgs s__law_lengths, defBody s__law_lengths, defScope s__law_lengths, [], []⟩
abbrev s__law_object : Stmt := top 23
def d__law_object : He.DefD := ⟨("_law_object", none), "_law_object", "_law_object", defArgs s__law_object, defBody s__law_object, defScope s__law_object, [], []⟩
abbrev s__law_both : Stmt := top 24
def d__law_both : He.DefD := ⟨("_law_both", none), "_law_both", "_law_both", defArgs s__law_both, defBody s__law_both, defScope s__law_both, [], []⟩
abbrev s__law_among : Stmt := top 25
def d__law_among : He.DefD := ⟨("_law_among", none), "_law_among", "_law_among", defArgs s__law_among, defBody s__law_among, defScope s__law_among, [], []⟩
abbrev s__law_ways : Stmt := top 26
def d__law_ways : He.DefD := ⟨("_law_ways", none), "_law_ways", "_law_ways", defArgs s__law_ways, defBody s__law_ways, defScope s__law_ways, [], []⟩
abbrev s__law_asked : Stmt := top 27
def d__law_asked : He.DefD := ⟨("_law_asked", none), "_law_asked", "_law_asked", defArgs s__law_asked, defBody s__law_asked, defScope s__law_asked, [], []⟩
abbrev s__law_alike : Stmt := top 28
def d__law_alike : He.DefD := ⟨("_law_alike", none), "_law_alike", "_law_alike", defArgs s__law_alike, defBody s__law_alike, defScope s__law_alike, [], []⟩
abbrev s__law_more : Stmt := top 29
def d__law_more : He.DefD := ⟨("_law_more", none), "_law_more", "_law_more", defArgs s__law_more, defBody s__law_more, defScope s__law_more, [], []⟩
abbrev s__law_wrong : Stmt := top 30
def d__law_wrong : He.DefD := ⟨("_law_wrong", none), "_law_wrong", "_law_wrong", defArgs s__law_wrong, defBody s__law_wrong, defScope s__law_wrong, [], []⟩
abbrev s_law : Stmt := top 31
def d_law : He.DefD := ⟨("law", none), "law", "law", defArgs s_law, defBody s_law, defScope s_law, [], []⟩
def fn0 : List He.DefD := [d__wall, d__kept, d_BadLengths___init__, d__lacks_divisor, d__wrong_gap, d_Lengths___init__, d_Lengths___contains__, d_Lengths___eq__, d_Lengths___str__, d_Lengths_within, d_Lengths_least, d_Lengths_both, d_Lengths_times, d_Lengths_parts, d_Lengths_text, d__law_bag, d__law_take, d__law_pick, d__law_mixed, d__law_int, d__law_truth, d__law_gcd, d__law_closed, d__law_one_of, d__law_within, d__law_tells, d__law_lengths, d__law_object, d__law_both, d__law_among]
def fn1 : List He.DefD := [d__law_ways, d__law_asked, d__law_alike, d__law_more, d__law_wrong, d_law]
def fn : List He.DefD := fn0 ++ fn1
def fa0 : List He.Fa := [.glo "_wall", .glo "RingError", .glo "_kept", .glo "BadLengths", .glo "_lacks_divisor", .glo "_wrong_gap", .glo "Lengths", .glo "_law_bag", .glo "_law_take", .glo "_law_pick", .glo "_law_mixed", .glo "_law_int", .glo "_law_truth", .glo "_law_gcd", .glo "_law_closed", .glo "_law_one_of", .glo "_law_within", .glo "_law_tells", .glo "_law_lengths", .glo "_law_object", .glo "_law_both", .glo "_law_among", .glo "_law_ways", .glo "_law_asked", .glo "_law_alike", .glo "_law_more", .glo "_law_wrong", .glo "law", .free "ValueError", .free "abs"]
def fa1 : List He.Fa := [.free "bool", .free "dict", .free "int", .free "isinstance", .free "len", .free "list", .free "max", .free "range", .free "set", .free "sorted", .free "str", .free "tuple", .meth "BadLengths" "__init__", .noat "BadLengths" "gap", .cls "Lengths", .mkr "Lengths", .meth "Lengths" "__init__", .meth "Lengths" "__contains__", .meth "Lengths" "__eq__", .meth "Lengths" "__str__", .meth "Lengths" "within", .meth "Lengths" "least", .meth "Lengths" "both", .meth "Lengths" "times", .meth "Lengths" "parts", .meth "Lengths" "text", .noat "Lengths" "_known", .noat "Lengths" "gaps", .noat "Lengths" "period", .exm "BadLengths" "BadLengths" true]
def fa : List He.Fa := fa0 ++ fa1
def lo0 : List Str := ["_wall", "__name__", "RingError", "_kept", "BadLengths", "_lacks_divisor", "_wrong_gap", "Lengths", "_law_bag", "_law_take", "_law_pick", "_law_mixed", "_law_int", "_law_truth", "_law_gcd", "_law_closed", "_law_one_of", "_law_within", "_law_tells", "_law_lengths", "_law_object", "_law_both", "_law_among", "_law_ways", "_law_asked", "_law_alike", "_law_more", "_law_wrong"]
def loose : List Str := lo0
def exL (K : PySem.W.Frag) : List Bool := [He.eqO (PySem.W.nsIn K mainGlobals "lcm") (some (some (.builtin "math.lcm"))), DL.tup0 K (He.dflAt ("Lengths", some "__init__") 0 K), DL.oexB K (He.ga K "BadLengths"), xfB K (He.ga K "BadLengths"), DL.neB K (He.ga K "Lengths") (He.ma K (He.ga K "Lengths") "__eq__"), DL.insB K (He.ga K "Lengths")]
def extra (K : PySem.W.Frag) : Bool := (exL K).all id
theorem ex_lcm {K : PySem.W.Frag} (h : extra K = true) : He.eqO (PySem.W.nsIn K mainGlobals "lcm") (some (some (.builtin "math.lcm"))) = true := List.all_eq_true.mp h _ (List.mem_of_getElem? (i := 0) rfl)
theorem ex_dfl_Lengths___init___0 {K : PySem.W.Frag} (h : extra K = true) : DL.tup0 K (He.dflAt ("Lengths", some "__init__") 0 K) = true := List.all_eq_true.mp h _ (List.mem_of_getElem? (i := 1) rfl)
theorem ex_oex_BadLengths {K : PySem.W.Frag} (h : extra K = true) : DL.oexB K (He.ga K "BadLengths") = true := List.all_eq_true.mp h _ (List.mem_of_getElem? (i := 2) rfl)
theorem ex_xf_BadLengths {K : PySem.W.Frag} (h : extra K = true) : xfB K (He.ga K "BadLengths") = true := List.all_eq_true.mp h _ (List.mem_of_getElem? (i := 3) rfl)
theorem ex_ne_Lengths {K : PySem.W.Frag} (h : extra K = true) : DL.neB K (He.ga K "Lengths") (He.ma K (He.ga K "Lengths") "__eq__") = true := List.all_eq_true.mp h _ (List.mem_of_getElem? (i := 4) rfl)
theorem ex_ins_Lengths {K : PySem.W.Frag} (h : extra K = true) : DL.insB K (He.ga K "Lengths") = true := List.all_eq_true.mp h _ (List.mem_of_getElem? (i := 5) rfl)
abbrev R : PySem.W.OpenRow := PySem.W.OpenLaw.row PySem.Challenge.rw_ringsallow_k02_lengths_of_both_and_withi
abbrev hk : PySem.W.Hook := DL.hookX 6 fa fn extra
def ob (s : PySem.W.SharedT) : Bool × He.AlD := DL.obsXG 6 fa fn extra (HandSHeadRun.getT s)
theorem ob_eq (s : PySem.W.SharedT) : ob s = hk.obs s.abs := DL.obsXG_eq (HandSHeadRun.getT_eq s)
abbrev vw : Program := PySem.W.view R.prog [0, 31]
theorem run (w : World) : HandSHeadRun.RunEqI R vw hk ob 4000 loose w := by
  unfold HandSHeadRun.RunEqI
  kernel_rfl
abbrev lawDef : DefRec := HandSHeadRun.topDef R.prog 31
/-! places -/
theorem fd__wall {K : PySem.W.Frag} (c : He.SaysD fa fn K) : ∃ fd, FunD K d__wall.name d__wall.qual d__wall.params d__wall.body d__wall.scope (d__wall.dvs K) (d__wall.kws K) (He.fAd K d__wall.at_) fd := c.def_ 0 (d := d__wall) rfl
theorem fd__kept {K : PySem.W.Frag} (c : He.SaysD fa fn K) : ∃ fd, FunD K d__kept.name d__kept.qual d__kept.params d__kept.body d__kept.scope (d__kept.dvs K) (d__kept.kws K) (He.fAd K d__kept.at_) fd := c.def_ 1 (d := d__kept) rfl
theorem fd_BadLengths___init__ {K : PySem.W.Frag} (c : He.SaysD fa fn K) : ∃ fd, FunD K d_BadLengths___init__.name d_BadLengths___init__.qual d_BadLengths___init__.params d_BadLengths___init__.body d_BadLengths___init__.scope (d_BadLengths___init__.dvs K) (d_BadLengths___init__.kws K) (He.fAd K d_BadLengths___init__.at_) fd := c.def_ 2 (d := d_BadLengths___init__) rfl
theorem fd__lacks_divisor {K : PySem.W.Frag} (c : He.SaysD fa fn K) : ∃ fd, FunD K d__lacks_divisor.name d__lacks_divisor.qual d__lacks_divisor.params d__lacks_divisor.body d__lacks_divisor.scope (d__lacks_divisor.dvs K) (d__lacks_divisor.kws K) (He.fAd K d__lacks_divisor.at_) fd := c.def_ 3 (d := d__lacks_divisor) rfl
theorem fd__wrong_gap {K : PySem.W.Frag} (c : He.SaysD fa fn K) : ∃ fd, FunD K d__wrong_gap.name d__wrong_gap.qual d__wrong_gap.params d__wrong_gap.body d__wrong_gap.scope (d__wrong_gap.dvs K) (d__wrong_gap.kws K) (He.fAd K d__wrong_gap.at_) fd := c.def_ 4 (d := d__wrong_gap) rfl
theorem fd_Lengths___init__ {K : PySem.W.Frag} (c : He.SaysD fa fn K) : ∃ fd, FunD K d_Lengths___init__.name d_Lengths___init__.qual d_Lengths___init__.params d_Lengths___init__.body d_Lengths___init__.scope (d_Lengths___init__.dvs K) (d_Lengths___init__.kws K) (He.fAd K d_Lengths___init__.at_) fd := c.def_ 5 (d := d_Lengths___init__) rfl
theorem fd_Lengths___contains__ {K : PySem.W.Frag} (c : He.SaysD fa fn K) : ∃ fd, FunD K d_Lengths___contains__.name d_Lengths___contains__.qual d_Lengths___contains__.params d_Lengths___contains__.body d_Lengths___contains__.scope (d_Lengths___contains__.dvs K) (d_Lengths___contains__.kws K) (He.fAd K d_Lengths___contains__.at_) fd := c.def_ 6 (d := d_Lengths___contains__) rfl
theorem fd_Lengths___eq__ {K : PySem.W.Frag} (c : He.SaysD fa fn K) : ∃ fd, FunD K d_Lengths___eq__.name d_Lengths___eq__.qual d_Lengths___eq__.params d_Lengths___eq__.body d_Lengths___eq__.scope (d_Lengths___eq__.dvs K) (d_Lengths___eq__.kws K) (He.fAd K d_Lengths___eq__.at_) fd := c.def_ 7 (d := d_Lengths___eq__) rfl
theorem fd_Lengths___str__ {K : PySem.W.Frag} (c : He.SaysD fa fn K) : ∃ fd, FunD K d_Lengths___str__.name d_Lengths___str__.qual d_Lengths___str__.params d_Lengths___str__.body d_Lengths___str__.scope (d_Lengths___str__.dvs K) (d_Lengths___str__.kws K) (He.fAd K d_Lengths___str__.at_) fd := c.def_ 8 (d := d_Lengths___str__) rfl
theorem fd_Lengths_within {K : PySem.W.Frag} (c : He.SaysD fa fn K) : ∃ fd, FunD K d_Lengths_within.name d_Lengths_within.qual d_Lengths_within.params d_Lengths_within.body d_Lengths_within.scope (d_Lengths_within.dvs K) (d_Lengths_within.kws K) (He.fAd K d_Lengths_within.at_) fd := c.def_ 9 (d := d_Lengths_within) rfl
theorem fd_Lengths_least {K : PySem.W.Frag} (c : He.SaysD fa fn K) : ∃ fd, FunD K d_Lengths_least.name d_Lengths_least.qual d_Lengths_least.params d_Lengths_least.body d_Lengths_least.scope (d_Lengths_least.dvs K) (d_Lengths_least.kws K) (He.fAd K d_Lengths_least.at_) fd := c.def_ 10 (d := d_Lengths_least) rfl
theorem fd_Lengths_both {K : PySem.W.Frag} (c : He.SaysD fa fn K) : ∃ fd, FunD K d_Lengths_both.name d_Lengths_both.qual d_Lengths_both.params d_Lengths_both.body d_Lengths_both.scope (d_Lengths_both.dvs K) (d_Lengths_both.kws K) (He.fAd K d_Lengths_both.at_) fd := c.def_ 11 (d := d_Lengths_both) rfl
theorem fd_Lengths_times {K : PySem.W.Frag} (c : He.SaysD fa fn K) : ∃ fd, FunD K d_Lengths_times.name d_Lengths_times.qual d_Lengths_times.params d_Lengths_times.body d_Lengths_times.scope (d_Lengths_times.dvs K) (d_Lengths_times.kws K) (He.fAd K d_Lengths_times.at_) fd := c.def_ 12 (d := d_Lengths_times) rfl
theorem fd_Lengths_parts {K : PySem.W.Frag} (c : He.SaysD fa fn K) : ∃ fd, FunD K d_Lengths_parts.name d_Lengths_parts.qual d_Lengths_parts.params d_Lengths_parts.body d_Lengths_parts.scope (d_Lengths_parts.dvs K) (d_Lengths_parts.kws K) (He.fAd K d_Lengths_parts.at_) fd := c.def_ 13 (d := d_Lengths_parts) rfl
theorem fd_Lengths_text {K : PySem.W.Frag} (c : He.SaysD fa fn K) : ∃ fd, FunD K d_Lengths_text.name d_Lengths_text.qual d_Lengths_text.params d_Lengths_text.body d_Lengths_text.scope (d_Lengths_text.dvs K) (d_Lengths_text.kws K) (He.fAd K d_Lengths_text.at_) fd := c.def_ 14 (d := d_Lengths_text) rfl
theorem fd__law_bag {K : PySem.W.Frag} (c : He.SaysD fa fn K) : ∃ fd, FunD K d__law_bag.name d__law_bag.qual d__law_bag.params d__law_bag.body d__law_bag.scope (d__law_bag.dvs K) (d__law_bag.kws K) (He.fAd K d__law_bag.at_) fd := c.def_ 15 (d := d__law_bag) rfl
theorem fd__law_take {K : PySem.W.Frag} (c : He.SaysD fa fn K) : ∃ fd, FunD K d__law_take.name d__law_take.qual d__law_take.params d__law_take.body d__law_take.scope (d__law_take.dvs K) (d__law_take.kws K) (He.fAd K d__law_take.at_) fd := c.def_ 16 (d := d__law_take) rfl
theorem fd__law_pick {K : PySem.W.Frag} (c : He.SaysD fa fn K) : ∃ fd, FunD K d__law_pick.name d__law_pick.qual d__law_pick.params d__law_pick.body d__law_pick.scope (d__law_pick.dvs K) (d__law_pick.kws K) (He.fAd K d__law_pick.at_) fd := c.def_ 17 (d := d__law_pick) rfl
theorem fd__law_mixed {K : PySem.W.Frag} (c : He.SaysD fa fn K) : ∃ fd, FunD K d__law_mixed.name d__law_mixed.qual d__law_mixed.params d__law_mixed.body d__law_mixed.scope (d__law_mixed.dvs K) (d__law_mixed.kws K) (He.fAd K d__law_mixed.at_) fd := c.def_ 18 (d := d__law_mixed) rfl
theorem fd__law_int {K : PySem.W.Frag} (c : He.SaysD fa fn K) : ∃ fd, FunD K d__law_int.name d__law_int.qual d__law_int.params d__law_int.body d__law_int.scope (d__law_int.dvs K) (d__law_int.kws K) (He.fAd K d__law_int.at_) fd := c.def_ 19 (d := d__law_int) rfl
theorem fd__law_truth {K : PySem.W.Frag} (c : He.SaysD fa fn K) : ∃ fd, FunD K d__law_truth.name d__law_truth.qual d__law_truth.params d__law_truth.body d__law_truth.scope (d__law_truth.dvs K) (d__law_truth.kws K) (He.fAd K d__law_truth.at_) fd := c.def_ 20 (d := d__law_truth) rfl
theorem fd__law_gcd {K : PySem.W.Frag} (c : He.SaysD fa fn K) : ∃ fd, FunD K d__law_gcd.name d__law_gcd.qual d__law_gcd.params d__law_gcd.body d__law_gcd.scope (d__law_gcd.dvs K) (d__law_gcd.kws K) (He.fAd K d__law_gcd.at_) fd := c.def_ 21 (d := d__law_gcd) rfl
theorem fd__law_closed {K : PySem.W.Frag} (c : He.SaysD fa fn K) : ∃ fd, FunD K d__law_closed.name d__law_closed.qual d__law_closed.params d__law_closed.body d__law_closed.scope (d__law_closed.dvs K) (d__law_closed.kws K) (He.fAd K d__law_closed.at_) fd := c.def_ 22 (d := d__law_closed) rfl
theorem fd__law_one_of {K : PySem.W.Frag} (c : He.SaysD fa fn K) : ∃ fd, FunD K d__law_one_of.name d__law_one_of.qual d__law_one_of.params d__law_one_of.body d__law_one_of.scope (d__law_one_of.dvs K) (d__law_one_of.kws K) (He.fAd K d__law_one_of.at_) fd := c.def_ 23 (d := d__law_one_of) rfl
theorem fd__law_within {K : PySem.W.Frag} (c : He.SaysD fa fn K) : ∃ fd, FunD K d__law_within.name d__law_within.qual d__law_within.params d__law_within.body d__law_within.scope (d__law_within.dvs K) (d__law_within.kws K) (He.fAd K d__law_within.at_) fd := c.def_ 24 (d := d__law_within) rfl
theorem fd__law_tells {K : PySem.W.Frag} (c : He.SaysD fa fn K) : ∃ fd, FunD K d__law_tells.name d__law_tells.qual d__law_tells.params d__law_tells.body d__law_tells.scope (d__law_tells.dvs K) (d__law_tells.kws K) (He.fAd K d__law_tells.at_) fd := c.def_ 25 (d := d__law_tells) rfl
theorem fd__law_lengths {K : PySem.W.Frag} (c : He.SaysD fa fn K) : ∃ fd, FunD K d__law_lengths.name d__law_lengths.qual d__law_lengths.params d__law_lengths.body d__law_lengths.scope (d__law_lengths.dvs K) (d__law_lengths.kws K) (He.fAd K d__law_lengths.at_) fd := c.def_ 26 (d := d__law_lengths) rfl
theorem fd__law_object {K : PySem.W.Frag} (c : He.SaysD fa fn K) : ∃ fd, FunD K d__law_object.name d__law_object.qual d__law_object.params d__law_object.body d__law_object.scope (d__law_object.dvs K) (d__law_object.kws K) (He.fAd K d__law_object.at_) fd := c.def_ 27 (d := d__law_object) rfl
theorem fd__law_both {K : PySem.W.Frag} (c : He.SaysD fa fn K) : ∃ fd, FunD K d__law_both.name d__law_both.qual d__law_both.params d__law_both.body d__law_both.scope (d__law_both.dvs K) (d__law_both.kws K) (He.fAd K d__law_both.at_) fd := c.def_ 28 (d := d__law_both) rfl
theorem fd__law_among {K : PySem.W.Frag} (c : He.SaysD fa fn K) : ∃ fd, FunD K d__law_among.name d__law_among.qual d__law_among.params d__law_among.body d__law_among.scope (d__law_among.dvs K) (d__law_among.kws K) (He.fAd K d__law_among.at_) fd := c.def_ 29 (d := d__law_among) rfl
theorem fd__law_ways {K : PySem.W.Frag} (c : He.SaysD fa fn K) : ∃ fd, FunD K d__law_ways.name d__law_ways.qual d__law_ways.params d__law_ways.body d__law_ways.scope (d__law_ways.dvs K) (d__law_ways.kws K) (He.fAd K d__law_ways.at_) fd := c.def_ 30 (d := d__law_ways) rfl
theorem fd__law_asked {K : PySem.W.Frag} (c : He.SaysD fa fn K) : ∃ fd, FunD K d__law_asked.name d__law_asked.qual d__law_asked.params d__law_asked.body d__law_asked.scope (d__law_asked.dvs K) (d__law_asked.kws K) (He.fAd K d__law_asked.at_) fd := c.def_ 31 (d := d__law_asked) rfl
theorem fd__law_alike {K : PySem.W.Frag} (c : He.SaysD fa fn K) : ∃ fd, FunD K d__law_alike.name d__law_alike.qual d__law_alike.params d__law_alike.body d__law_alike.scope (d__law_alike.dvs K) (d__law_alike.kws K) (He.fAd K d__law_alike.at_) fd := c.def_ 32 (d := d__law_alike) rfl
theorem fd__law_more {K : PySem.W.Frag} (c : He.SaysD fa fn K) : ∃ fd, FunD K d__law_more.name d__law_more.qual d__law_more.params d__law_more.body d__law_more.scope (d__law_more.dvs K) (d__law_more.kws K) (He.fAd K d__law_more.at_) fd := c.def_ 33 (d := d__law_more) rfl
theorem fd__law_wrong {K : PySem.W.Frag} (c : He.SaysD fa fn K) : ∃ fd, FunD K d__law_wrong.name d__law_wrong.qual d__law_wrong.params d__law_wrong.body d__law_wrong.scope (d__law_wrong.dvs K) (d__law_wrong.kws K) (He.fAd K d__law_wrong.at_) fd := c.def_ 34 (d := d__law_wrong) rfl
theorem fd_law {K : PySem.W.Frag} (c : He.SaysD fa fn K) : ∃ fd, FunD K d_law.name d_law.qual d_law.params d_law.body d_law.scope (d_law.dvs K) (d_law.kws K) (He.fAd K d_law.at_) fd := c.def_ 35 (d := d_law) rfl
theorem glo__wall {K : PySem.W.Frag} (c : He.SaysD fa fn K) : ((.glo "_wall" : He.Fa)).ok K = true := c.fact 0 (f := .glo "_wall") rfl
theorem glo_RingError {K : PySem.W.Frag} (c : He.SaysD fa fn K) : ((.glo "RingError" : He.Fa)).ok K = true := c.fact 1 (f := .glo "RingError") rfl
theorem glo__kept {K : PySem.W.Frag} (c : He.SaysD fa fn K) : ((.glo "_kept" : He.Fa)).ok K = true := c.fact 2 (f := .glo "_kept") rfl
theorem glo_BadLengths {K : PySem.W.Frag} (c : He.SaysD fa fn K) : ((.glo "BadLengths" : He.Fa)).ok K = true := c.fact 3 (f := .glo "BadLengths") rfl
theorem glo__lacks_divisor {K : PySem.W.Frag} (c : He.SaysD fa fn K) : ((.glo "_lacks_divisor" : He.Fa)).ok K = true := c.fact 4 (f := .glo "_lacks_divisor") rfl
theorem glo__wrong_gap {K : PySem.W.Frag} (c : He.SaysD fa fn K) : ((.glo "_wrong_gap" : He.Fa)).ok K = true := c.fact 5 (f := .glo "_wrong_gap") rfl
theorem glo_Lengths {K : PySem.W.Frag} (c : He.SaysD fa fn K) : ((.glo "Lengths" : He.Fa)).ok K = true := c.fact 6 (f := .glo "Lengths") rfl
theorem glo__law_bag {K : PySem.W.Frag} (c : He.SaysD fa fn K) : ((.glo "_law_bag" : He.Fa)).ok K = true := c.fact 7 (f := .glo "_law_bag") rfl
theorem glo__law_take {K : PySem.W.Frag} (c : He.SaysD fa fn K) : ((.glo "_law_take" : He.Fa)).ok K = true := c.fact 8 (f := .glo "_law_take") rfl
theorem glo__law_pick {K : PySem.W.Frag} (c : He.SaysD fa fn K) : ((.glo "_law_pick" : He.Fa)).ok K = true := c.fact 9 (f := .glo "_law_pick") rfl
theorem glo__law_mixed {K : PySem.W.Frag} (c : He.SaysD fa fn K) : ((.glo "_law_mixed" : He.Fa)).ok K = true := c.fact 10 (f := .glo "_law_mixed") rfl
theorem glo__law_int {K : PySem.W.Frag} (c : He.SaysD fa fn K) : ((.glo "_law_int" : He.Fa)).ok K = true := c.fact 11 (f := .glo "_law_int") rfl
theorem glo__law_truth {K : PySem.W.Frag} (c : He.SaysD fa fn K) : ((.glo "_law_truth" : He.Fa)).ok K = true := c.fact 12 (f := .glo "_law_truth") rfl
theorem glo__law_gcd {K : PySem.W.Frag} (c : He.SaysD fa fn K) : ((.glo "_law_gcd" : He.Fa)).ok K = true := c.fact 13 (f := .glo "_law_gcd") rfl
theorem glo__law_closed {K : PySem.W.Frag} (c : He.SaysD fa fn K) : ((.glo "_law_closed" : He.Fa)).ok K = true := c.fact 14 (f := .glo "_law_closed") rfl
theorem glo__law_one_of {K : PySem.W.Frag} (c : He.SaysD fa fn K) : ((.glo "_law_one_of" : He.Fa)).ok K = true := c.fact 15 (f := .glo "_law_one_of") rfl
theorem glo__law_within {K : PySem.W.Frag} (c : He.SaysD fa fn K) : ((.glo "_law_within" : He.Fa)).ok K = true := c.fact 16 (f := .glo "_law_within") rfl
theorem glo__law_tells {K : PySem.W.Frag} (c : He.SaysD fa fn K) : ((.glo "_law_tells" : He.Fa)).ok K = true := c.fact 17 (f := .glo "_law_tells") rfl
theorem glo__law_lengths {K : PySem.W.Frag} (c : He.SaysD fa fn K) : ((.glo "_law_lengths" : He.Fa)).ok K = true := c.fact 18 (f := .glo "_law_lengths") rfl
theorem glo__law_object {K : PySem.W.Frag} (c : He.SaysD fa fn K) : ((.glo "_law_object" : He.Fa)).ok K = true := c.fact 19 (f := .glo "_law_object") rfl
theorem glo__law_both {K : PySem.W.Frag} (c : He.SaysD fa fn K) : ((.glo "_law_both" : He.Fa)).ok K = true := c.fact 20 (f := .glo "_law_both") rfl
theorem glo__law_among {K : PySem.W.Frag} (c : He.SaysD fa fn K) : ((.glo "_law_among" : He.Fa)).ok K = true := c.fact 21 (f := .glo "_law_among") rfl
theorem glo__law_ways {K : PySem.W.Frag} (c : He.SaysD fa fn K) : ((.glo "_law_ways" : He.Fa)).ok K = true := c.fact 22 (f := .glo "_law_ways") rfl
theorem glo__law_asked {K : PySem.W.Frag} (c : He.SaysD fa fn K) : ((.glo "_law_asked" : He.Fa)).ok K = true := c.fact 23 (f := .glo "_law_asked") rfl
theorem glo__law_alike {K : PySem.W.Frag} (c : He.SaysD fa fn K) : ((.glo "_law_alike" : He.Fa)).ok K = true := c.fact 24 (f := .glo "_law_alike") rfl
theorem glo__law_more {K : PySem.W.Frag} (c : He.SaysD fa fn K) : ((.glo "_law_more" : He.Fa)).ok K = true := c.fact 25 (f := .glo "_law_more") rfl
theorem glo__law_wrong {K : PySem.W.Frag} (c : He.SaysD fa fn K) : ((.glo "_law_wrong" : He.Fa)).ok K = true := c.fact 26 (f := .glo "_law_wrong") rfl
theorem glo_law {K : PySem.W.Frag} (c : He.SaysD fa fn K) : ((.glo "law" : He.Fa)).ok K = true := c.fact 27 (f := .glo "law") rfl
theorem free_ValueError {K : PySem.W.Frag} (c : He.SaysD fa fn K) : ((.free "ValueError" : He.Fa)).ok K = true := c.fact 28 (f := .free "ValueError") rfl
theorem free_abs {K : PySem.W.Frag} (c : He.SaysD fa fn K) : ((.free "abs" : He.Fa)).ok K = true := c.fact 29 (f := .free "abs") rfl
theorem free_bool {K : PySem.W.Frag} (c : He.SaysD fa fn K) : ((.free "bool" : He.Fa)).ok K = true := c.fact 30 (f := .free "bool") rfl
theorem free_dict {K : PySem.W.Frag} (c : He.SaysD fa fn K) : ((.free "dict" : He.Fa)).ok K = true := c.fact 31 (f := .free "dict") rfl
theorem free_int {K : PySem.W.Frag} (c : He.SaysD fa fn K) : ((.free "int" : He.Fa)).ok K = true := c.fact 32 (f := .free "int") rfl
theorem free_isinstance {K : PySem.W.Frag} (c : He.SaysD fa fn K) : ((.free "isinstance" : He.Fa)).ok K = true := c.fact 33 (f := .free "isinstance") rfl
theorem free_len {K : PySem.W.Frag} (c : He.SaysD fa fn K) : ((.free "len" : He.Fa)).ok K = true := c.fact 34 (f := .free "len") rfl
theorem free_list {K : PySem.W.Frag} (c : He.SaysD fa fn K) : ((.free "list" : He.Fa)).ok K = true := c.fact 35 (f := .free "list") rfl
theorem free_max {K : PySem.W.Frag} (c : He.SaysD fa fn K) : ((.free "max" : He.Fa)).ok K = true := c.fact 36 (f := .free "max") rfl
theorem free_range {K : PySem.W.Frag} (c : He.SaysD fa fn K) : ((.free "range" : He.Fa)).ok K = true := c.fact 37 (f := .free "range") rfl
theorem free_set {K : PySem.W.Frag} (c : He.SaysD fa fn K) : ((.free "set" : He.Fa)).ok K = true := c.fact 38 (f := .free "set") rfl
theorem free_sorted {K : PySem.W.Frag} (c : He.SaysD fa fn K) : ((.free "sorted" : He.Fa)).ok K = true := c.fact 39 (f := .free "sorted") rfl
theorem free_str {K : PySem.W.Frag} (c : He.SaysD fa fn K) : ((.free "str" : He.Fa)).ok K = true := c.fact 40 (f := .free "str") rfl
theorem free_tuple {K : PySem.W.Frag} (c : He.SaysD fa fn K) : ((.free "tuple" : He.Fa)).ok K = true := c.fact 41 (f := .free "tuple") rfl
theorem meth_BadLengths___init__ {K : PySem.W.Frag} (c : He.SaysD fa fn K) : ((.meth "BadLengths" "__init__" : He.Fa)).ok K = true := c.fact 42 (f := .meth "BadLengths" "__init__") rfl
theorem noat_BadLengths_gap {K : PySem.W.Frag} (c : He.SaysD fa fn K) : ((.noat "BadLengths" "gap" : He.Fa)).ok K = true := c.fact 43 (f := .noat "BadLengths" "gap") rfl
theorem cls_Lengths {K : PySem.W.Frag} (c : He.SaysD fa fn K) : ((.cls "Lengths" : He.Fa)).ok K = true := c.fact 44 (f := .cls "Lengths") rfl
theorem mkr_Lengths {K : PySem.W.Frag} (c : He.SaysD fa fn K) : ((.mkr "Lengths" : He.Fa)).ok K = true := c.fact 45 (f := .mkr "Lengths") rfl
theorem meth_Lengths___init__ {K : PySem.W.Frag} (c : He.SaysD fa fn K) : ((.meth "Lengths" "__init__" : He.Fa)).ok K = true := c.fact 46 (f := .meth "Lengths" "__init__") rfl
theorem meth_Lengths___contains__ {K : PySem.W.Frag} (c : He.SaysD fa fn K) : ((.meth "Lengths" "__contains__" : He.Fa)).ok K = true := c.fact 47 (f := .meth "Lengths" "__contains__") rfl
theorem meth_Lengths___eq__ {K : PySem.W.Frag} (c : He.SaysD fa fn K) : ((.meth "Lengths" "__eq__" : He.Fa)).ok K = true := c.fact 48 (f := .meth "Lengths" "__eq__") rfl
theorem meth_Lengths___str__ {K : PySem.W.Frag} (c : He.SaysD fa fn K) : ((.meth "Lengths" "__str__" : He.Fa)).ok K = true := c.fact 49 (f := .meth "Lengths" "__str__") rfl
theorem meth_Lengths_within {K : PySem.W.Frag} (c : He.SaysD fa fn K) : ((.meth "Lengths" "within" : He.Fa)).ok K = true := c.fact 50 (f := .meth "Lengths" "within") rfl
theorem meth_Lengths_least {K : PySem.W.Frag} (c : He.SaysD fa fn K) : ((.meth "Lengths" "least" : He.Fa)).ok K = true := c.fact 51 (f := .meth "Lengths" "least") rfl
theorem meth_Lengths_both {K : PySem.W.Frag} (c : He.SaysD fa fn K) : ((.meth "Lengths" "both" : He.Fa)).ok K = true := c.fact 52 (f := .meth "Lengths" "both") rfl
theorem meth_Lengths_times {K : PySem.W.Frag} (c : He.SaysD fa fn K) : ((.meth "Lengths" "times" : He.Fa)).ok K = true := c.fact 53 (f := .meth "Lengths" "times") rfl
theorem meth_Lengths_parts {K : PySem.W.Frag} (c : He.SaysD fa fn K) : ((.meth "Lengths" "parts" : He.Fa)).ok K = true := c.fact 54 (f := .meth "Lengths" "parts") rfl
theorem meth_Lengths_text {K : PySem.W.Frag} (c : He.SaysD fa fn K) : ((.meth "Lengths" "text" : He.Fa)).ok K = true := c.fact 55 (f := .meth "Lengths" "text") rfl
theorem noat_Lengths__known {K : PySem.W.Frag} (c : He.SaysD fa fn K) : ((.noat "Lengths" "_known" : He.Fa)).ok K = true := c.fact 56 (f := .noat "Lengths" "_known") rfl
theorem noat_Lengths_gaps {K : PySem.W.Frag} (c : He.SaysD fa fn K) : ((.noat "Lengths" "gaps" : He.Fa)).ok K = true := c.fact 57 (f := .noat "Lengths" "gaps") rfl
theorem noat_Lengths_period {K : PySem.W.Frag} (c : He.SaysD fa fn K) : ((.noat "Lengths" "period" : He.Fa)).ok K = true := c.fact 58 (f := .noat "Lengths" "period") rfl
theorem exm_BadLengths_BadLengths {K : PySem.W.Frag} (c : He.SaysD fa fn K) : ((.exm "BadLengths" "BadLengths" true : He.Fa)).ok K = true := c.fact 59 (f := .exm "BadLengths" "BadLengths" true) rfl
end K02

namespace K02
open PySem PySem.Spec L2 DL

local macro_rules | `(tactic| walk_at "dl") => `(tactic| first
  | ((with_reducible show WE _ _ (.Constant _ _ _) _ _ _); first | refine we_int ?_ | refine we_str ?_ | refine we_bl ?_ | refine we_non ?_)
  | ((with_reducible show WE _ _ (.Name _ _) _ _ _); first | refine we_var 0 rfl rfl ?_ | refine we_var 1 rfl rfl ?_ | refine we_var 2 rfl rfl ?_ | refine we_var 3 rfl rfl ?_ | refine we_var 4 rfl rfl ?_ | refine we_var 5 rfl rfl ?_ | refine we_var 6 rfl rfl ?_ | refine we_var 7 rfl rfl ?_ | refine we_var 8 rfl rfl ?_ | refine we_var 9 rfl rfl ?_ | refine we_var 10 rfl rfl ?_ | refine we_var 11 rfl rfl ?_ | refine we_var 12 rfl rfl ?_ | refine we_var 13 rfl rfl ?_ | refine we_var 14 rfl rfl ?_ | refine we_var 15 rfl rfl ?_)
  | ((with_reducible show WE _ _ (.BinOp _ _ _ _) _ _ _); refine we_bin ?_)
  | ((with_reducible show WE _ _ (.Compare _ [_] [_] _) _ _ _); refine we_cmp ?_)
  | ((with_reducible show WT _ _ (.Compare _ [_] [_] _) _ _ _); refine wt_cmp ?_)
  | ((with_reducible show WE _ _ (.UnaryOp .USub _ _) _ _ _); refine we_un ?_)
  | ((with_reducible show WT _ _ (.UnaryOp .Not _ _) _ _ _); refine wt_not ?_)
  | ((with_reducible show WE _ _ (.IfExp _ _ _ _) _ _ _); refine we_ifx ?_)
  | ((with_reducible show WE _ _ (.Subscript _ (.Name _ _) _) _ _ _); refine we_ix ?_)
  | ((with_reducible show WE _ _ (.Subscript _ (.Constant _ _ _) _) _ _ _); refine we_ix ?_)
  | ((with_reducible show WE _ _ (.Subscript _ (.Subscript _ _ _) _) _ _ _); refine we_ix ?_)
  | ((with_reducible show WE _ _ (.Subscript _ (.BinOp _ _ _ _) _) _ _ _); refine we_ix ?_)
  | ((with_reducible show WE _ _ (.Subscript _ (.UnaryOp _ _ _) _) _ _ _); refine we_ix ?_)
  | ((with_reducible show WE _ _ (.Subscript _ (.Call _ _ _ _) _) _ _ _); refine we_ix ?_)
  | ((with_reducible show WE _ _ (.Call (.Name "len" _) [_] [] _) _ _ _); refine we_b1 (by assumption) bb_len ?_)
  | ((with_reducible show WE _ _ (.Call (.Name "abs" _) [_] [] _) _ _ _); refine we_b1 (by assumption) bb_abs ?_)
  | ((with_reducible show WE _ _ (.Call (.Name "int" _) [_] [] _) _ _ _); refine we_t1 (by assumption) bb_int ?_)
  | ((with_reducible show WE _ _ (.Call (.Name "list" _) [_] [] _) _ _ _); refine we_t1 (by assumption) bb_list ?_)
  | ((with_reducible show WE _ _ (.Call (.Name "tuple" _) [_] [] _) _ _ _); refine we_t1 (by assumption) bb_tuple ?_)
  | ((with_reducible show WE _ _ (.Call (.Name "str" _) [_] [] _) _ _ _); refine we_t1 (by assumption) bb_str ?_)
  | ((with_reducible show WE _ _ (.Call (.Name "set" _) [_] [] _) _ _ _); refine we_t1 (by assumption) bb_set ?_)
  | ((with_reducible show WE _ _ (.Call (.Name "sorted" _) [_] [] _) _ _ _); refine we_b1 (by assumption) bb_sorted ?_)
  | ((with_reducible show WE _ _ (.Call (.Name "isinstance" _) [_, _] [] _) _ _ _); refine we_b2 (by assumption) bb_isinstance ?_)
  | ((with_reducible show WE _ _ (.Call (.Name "max" _) [_] [] _) _ _ _); refine we_b1 (by assumption) bb_max ?_)
  | ((with_reducible show WE _ _ (.Call (.Name "min" _) [_] [] _) _ _ _); refine we_b1 (by assumption) bb_min ?_)
  | ((with_reducible show WE _ _ (.Call (.Name "max" _) [_, _] [] _) _ _ _); refine we_b2 (by assumption) bb_max ?_)
  | ((with_reducible show WE _ _ (.Call (.Name "min" _) [_, _] [] _) _ _ _); refine we_b2 (by assumption) bb_min ?_)
  | ((with_reducible show BinG _ _ (binaryOp .Add) (.int _) (.int _) _ _); refine b_add ?_)
  | ((with_reducible show BinG _ _ (binaryOp .Sub) (.int _) (.int _) _ _); refine b_sub ?_)
  | ((with_reducible show BinG _ _ (binaryOp .Mod) (.int _) (.int _) _ _); refine b_mod (by omega) ?_)
  | ((with_reducible show BinG _ _ (binaryOp .FloorDiv) (.int _) (.int _) _ _); refine b_div ⟨by omega, by omega⟩ ?_)
  | ((with_reducible show BinG _ _ (binaryOp .Mult) (.int _) (.int _) _ _); first | refine b_mul (.inr ⟨by omega, by omega⟩) ?_ | refine b_mul (.inl ⟨by omega, by omega⟩) ?_)
  | ((with_reducible show BinG _ _ (compareOp .Lt) (.int _) (.int _) _ _); refine b_lt ?_)
  | ((with_reducible show BinG _ _ (compareOp .LtE) (.int _) (.int _) _ _); refine b_le ?_)
  | ((with_reducible show BinG _ _ (compareOp .Gt) (.int _) (.int _) _ _); refine b_gt ?_)
  | ((with_reducible show BinG _ _ (compareOp .GtE) (.int _) (.int _) _ _); refine b_ge ?_)
  | ((with_reducible show BinG _ _ (compareOp .Eq) (.int _) (.int _) _ _); refine b_eqI (by assumption) ?_)
  | ((with_reducible show BinG _ _ (compareOp .NotEq) (.int _) (.int _) _ _); refine b_neI (by assumption) ?_)
  | ((with_reducible show UnG _ _ (unaryOp .USub) (.int _) _ _); refine b_neg ?_)
  | (with_reducible refine ex_bl ?_)
  | ((with_reducible show CallG _ _ (.type "int") [.int _] _ _); refine c_int ?_)
  | ((with_reducible show CallG _ _ (.type "int") [.bl _] _ _); refine c_intB ?_)
  | ((with_reducible show CallG _ _ (.builtin "abs") _ _ _); refine c_abs ?_)
  | ((with_reducible show CallG _ _ (.builtin "len") [.lst _] _ _); refine c_len ?_)
  | ((with_reducible show CallG _ _ (.builtin "len") [.tup _] _ _); refine c_lenT ?_)
  | ((with_reducible show CallG _ _ (.builtin "len") [.raw _] _ _); refine c_lenM (by first | assumption | exact updM_same) ?_)
  | ((with_reducible show CallG _ _ (.type "list") [.tup _] _ _); refine c_listT ?_)
  | ((with_reducible show CallG _ _ (.type "tuple") [.lst _] _ _); refine c_tuple ?_)
  | ((with_reducible show CallG _ _ (.type "tuple") [.tup _] _ _); refine c_tupleT ?_)
  | ((with_reducible show CallG _ _ (.builtin "max") [.int _, .int _] _ _); refine c_max2 rfl ?_)
  | ((with_reducible show CallG _ _ (.builtin "min") [.int _, .int _] _ _); refine c_min2 rfl ?_)
  | ((with_reducible show IxG _ _ (.tup _) _ _ _); refine ix_tupD rfl ?_)
  | ((with_reducible show IxG _ _ (.raw _) _ _ _); refine ix_mlst (by first | assumption | exact updM_same) rfl ?_)
  | ((with_reducible show WA _ _ (_ :: _) _ _ _); refine wa_cons ?_)
  | ((with_reducible show WA _ _ [] _ _ _); refine wa_nil ?_))
section
variable {P : Program} {w : World} {K : PySem.W.Frag} {mg : Str → Option Value} {base : Heap}
/-- what the module says -/
structure Md (K : PySem.W.Frag) (mg : Str → Option Value) (base : Heap) : Prop where
  c : He.SaysD fa fn K
  e : extra K = true
  i : K.In base
  n : base.Ns mainGlobals mg
/-! ### the bag -/
def bagD (cells : List Int) (pos cell seed : Int) : D := .lst [.lst (cells.map .int), .int pos, .int cell, .int seed]
def BagD (d : D) : Prop := ∃ cells pos cell seed, d = bagD cells pos cell seed ∧ (∀ c ∈ cells, 0 ≤ c) ∧ 0 ≤ pos ∧ 0 ≤ cell
def spBag : SpD := fun xs M Q => ∃ ns : List Int, xs = [.klst (ns.map D.int)] ∧ ∀ p d, M p = none → BagD d → Q (.raw (.ref p)) (updM M p d)
theorem sc_bag : FnScope ["script", "cell"] ["script"] d__law_bag.scope := ⟨rfl, rfl, rfl, by decide +kernel, rfl, by decide +kernel, by decide +kernel⟩
theorem cut_ints {ns : List Int} {lo hi : Option Int} : ∃ ms : List Int, cutD (ns.map D.int) lo hi = ms.map D.int ∧ ∀ c, c ∈ ms → c ∈ ns := by
  refine ⟨(ns.drop (HT.sIx ns.length 0 lo)).take (HT.sIx ns.length ns.length hi - HT.sIx ns.length 0 lo), ?_, fun c h => List.mem_of_mem_drop (List.mem_of_mem_take h)⟩
  unfold cutD
  rw [List.length_map, List.map_take, List.map_drop]
theorem cal_bag (m : Md K mg base) : CalD P w K mg base 1 "_law_bag" spBag [] := by
  refine cal_of (d := d__law_bag) rfl (fd__law_bag m.c) (He.glo_ok m.i m.n (glo__law_bag m.c)) sc_bag (fun xs M Q ⟨ns, e, _⟩ => by rw [e]; rfl) (fun _ _ _ _ _ _ us hl => match us, hl with | [_], _ => rfl) ?_
  rintro cdv A outer s H E hr xs M Q ⟨ns, rfl, hQ⟩
  have nd := sc_bag.nd
  have fint : mg "int" = none := He.free_ok m.i m.n (free_int m.c)
  have fabs : mg "abs" = none := He.free_ok m.i m.n (free_abs m.c)
  refine wss_one (ws_ret (we_lstM ?_))
  obtain ⟨ms, hms, hmem⟩ := cut_ints (ns := ns) (lo := none) (hi := some 63)
  let f : Int → Int := fun c => 2 * (if c < 0 then -c else c) + (if decide (c < 0) = true then 1 else 0)
  refine wa_cons (we_lcM (.nm 1) ms D.int (fun c => .int (f c)) rfl nd (own := [("cell", 1)]) (by kernel_rfl) (by decide) (fun s0 H0 C cl fp => pg_name nd rfl (Or.inl rfl)) ?_)
  refine wi_list (we_slice (we_var 0 rfl rfl (wo_none (wo_some (we_int ⟨_, rfl, _, .klst _ _ _, _, rfl, fun hz => ⟨hz, ?_, ?_, ?_⟩⟩)))))
  · rw [hms]; exact li_map ms D.int
  · intro c hc M' hs
    refine ⟨_, rfl, fun s0 H0 C cl fp => ?_⟩
    refine we_bin (we_bin (we_int (we_b1 fabs bb_abs (we_t1 fint bb_int (we_var 1 rfl rfl (c_int (c_abs (b_mul (.inl ⟨by decide, by decide⟩) ?_))))))))
    exact we_t1 fint bb_int (we_cmp (we_var 1 rfl rfl (we_int (b_lt (c_intB (b_add ⟨rfl, rfl⟩))))))
  · refine wa_cons (we_int (wa_cons (we_int (wa_cons (we_int (wa_nil ⟨sz rfl, fun p hp => hQ p _ hp ⟨ms.map f, 0, 0, 40009, ?_, fun c hc => ?_, Int.le_refl _, Int.le_refl _⟩⟩))))))
    · unfold bagD
      simp [List.map_map, Function.comp_def]
    · obtain ⟨b, _, rfl⟩ := List.mem_map.mp hc
      show 0 ≤ 2 * (if b < 0 then -b else b) + (if decide (b < 0) = true then (1 : Int) else 0)
      split <;> split <;> omega
/-! ### take -/
def spTake : SpD := fun xs M Q => ∃ p d many, xs = [.raw (.ref p), .int many] ∧ M p = some d ∧ BagD d ∧ 0 < many ∧ many < 1073741824 ∧ ∀ r d', 0 ≤ r → r < many → BagD d' → Q (.int r) (updM M p d')
theorem sc_take : FnScope ["bag", "many", "cell"] ["bag", "many"] d__law_take.scope := ⟨rfl, rfl, rfl, by decide +kernel, rfl, by decide +kernel, by decide +kernel⟩
theorem cal_take (m : Md K mg base) : CalD P w K mg base 1 "_law_take" spTake [] := by
  refine cal_of (d := d__law_take) rfl (fd__law_take m.c) (He.glo_ok m.i m.n (glo__law_take m.c)) sc_take (fun xs M Q ⟨p, d, many, e, _⟩ => by rw [e]; rfl) (fun _ _ _ _ _ _ us hl => match us, hl with | [_, _], _ => rfl) ?_
  rintro cdv A outer s H E hr xs M Q ⟨p, d, many, rfl, hM, ⟨cells, pos, cell, seed, rfl, hc, hpos, hcell⟩, hm1, hm2, hQ⟩
  have nd := sc_take.nd
  have flen : mg "len" = none := He.free_ok m.i m.n (free_len m.c)
  have fint : mg "int" = none := He.free_ok m.i m.n (free_int m.c)
  refine wss_cons (ws_set 2 nd rfl ?_)
  repeat walk_at "dl"
  refine wss_cut (fun ds1 M1 => ∃ c ps c0 sd, ds1 = [some (.raw (.ref p)), some (.int many), some (.int c)] ∧ 0 ≤ c ∧ 0 ≤ ps ∧ M1 = updM M p (bagD cells ps c0 sd)) (ws_if ?_) ?_
  · repeat walk_at "dl"
    refine ⟨fun h0 => ?_, fun h0 => wss_nil ⟨cell, pos, cell, seed, rfl, hcell, hpos, (updM_self hM).symm⟩⟩
    -- a fresh cell
    refine wss_cut (fun ds1 M1 => ∃ c, ds1 = [some (.raw (.ref p)), some (.int many), some (.int c)] ∧ 0 ≤ c ∧ M1 = M) (ws_set 2 nd rfl ?_) ?_
    · repeat walk_at "dl"
      refine ⟨fun h1 => ?_, fun h1 => ?_⟩
      · repeat walk_at "dl"
        have h2 := of_decide_eq_true h1
        rw [List.length_map] at h2
        exact ix_lst (atI_int hpos h2) ⟨_, rfl, hc _ (by
          rw [List.getD_eq_getElem?_getD, List.getElem?_eq_getElem (by omega)]
          exact List.getElem_mem _), rfl⟩
      · exact we_int ⟨_, rfl, Int.le_refl _, rfl⟩
    · rintro ds1 M1 ⟨c, rfl, hc0, rfl⟩
      refine wss_cons (ws_setIx ?_)
      repeat walk_at "dl"
      refine ⟨p, 1, 1, _, rfl, rfl, hM, rfl, ?_⟩
      have hM2 : updM M1 p (.lst ([D.lst (cells.map .int), .int pos, .int cell, .int seed].set 1 (.int (pos + 1)))) p = some (bagD cells (pos + 1) cell seed) := updM_same
      refine wss_one (ws_if ?_)
      repeat walk_at "dl"
      refine b_pow ⟨by decide, by decide, by decide⟩ ?_
      repeat walk_at "dl"
      refine ⟨fun h1 => ?_, fun h1 => wss_nil ⟨c, pos + 1, cell, seed, rfl, hc0, by omega, rfl⟩⟩
      refine wss_cons (ws_setIx ?_)
      repeat walk_at "dl"
      refine ⟨p, 3, 3, _, rfl, rfl, hM2, rfl, ?_⟩
      rw [updM_updM]
      refine wss_one (ws_ret ?_)
      repeat walk_at "dl"
      exact hQ _ _ (Int.emod_nonneg _ (by omega)) (Int.emod_lt_of_pos _ hm1) ⟨cells, pos + 1, cell, _, rfl, hc, by omega, hcell⟩
  · rintro ds1 M1 ⟨c, ps, c0, sd, rfl, hc0, hps, rfl⟩
    refine wss_cons (ws_setIx ?_)
    repeat walk_at "dl"
    refine ⟨p, 2, 2, _, rfl, rfl, updM_same, rfl, ?_⟩
    rw [updM_updM]
    refine wss_one (ws_ret ?_)
    repeat walk_at "dl"
    refine hQ _ _ (Int.emod_nonneg _ (by omega)) (Int.emod_lt_of_pos _ hm1) ⟨cells, ps, c / many, sd, rfl, hc, hps, Int.ediv_nonneg hc0 (by omega)⟩
end
end K02

namespace K02
open PySem PySem.Spec L2 DL
local macro_rules | `(tactic| walk_at "dl") => `(tactic| first
  | ((with_reducible show WE _ _ (.Constant _ _ _) _ _ _); first | refine we_int ?_ | refine we_str ?_ | refine we_bl ?_ | refine we_non ?_)
  | ((with_reducible show WE _ _ (.Name _ _) _ _ _); first | refine we_var 0 rfl rfl ?_ | refine we_var 1 rfl rfl ?_ | refine we_var 2 rfl rfl ?_ | refine we_var 3 rfl rfl ?_ | refine we_var 4 rfl rfl ?_ | refine we_var 5 rfl rfl ?_ | refine we_var 6 rfl rfl ?_ | refine we_var 7 rfl rfl ?_ | refine we_var 8 rfl rfl ?_ | refine we_var 9 rfl rfl ?_ | refine we_var 10 rfl rfl ?_ | refine we_var 11 rfl rfl ?_ | refine we_var 12 rfl rfl ?_ | refine we_var 13 rfl rfl ?_ | refine we_var 14 rfl rfl ?_ | refine we_var 15 rfl rfl ?_)
  | ((with_reducible show WE _ _ (.BinOp _ _ _ _) _ _ _); refine we_bin ?_)
  | ((with_reducible show WE _ _ (.Compare _ [_] [_] _) _ _ _); refine we_cmp ?_)
  | ((with_reducible show WT _ _ (.Compare _ [_] [_] _) _ _ _); refine wt_cmp ?_)
  | ((with_reducible show WE _ _ (.UnaryOp .USub _ _) _ _ _); refine we_un ?_)
  | ((with_reducible show WT _ _ (.UnaryOp .Not _ _) _ _ _); refine wt_not ?_)
  | ((with_reducible show WE _ _ (.IfExp _ _ _ _) _ _ _); refine we_ifx ?_)
  | ((with_reducible show WE _ _ (.Subscript _ (.Name _ _) _) _ _ _); refine we_ix ?_)
  | ((with_reducible show WE _ _ (.Subscript _ (.Constant _ _ _) _) _ _ _); refine we_ix ?_)
  | ((with_reducible show WE _ _ (.Subscript _ (.Subscript _ _ _) _) _ _ _); refine we_ix ?_)
  | ((with_reducible show WE _ _ (.Subscript _ (.BinOp _ _ _ _) _) _ _ _); refine we_ix ?_)
  | ((with_reducible show WE _ _ (.Subscript _ (.UnaryOp _ _ _) _) _ _ _); refine we_ix ?_)
  | ((with_reducible show WE _ _ (.Subscript _ (.Call _ _ _ _) _) _ _ _); refine we_ix ?_)
  | ((with_reducible show WE _ _ (.Call (.Name "len" _) [_] [] _) _ _ _); refine we_b1 (by assumption) bb_len ?_)
  | ((with_reducible show WE _ _ (.Call (.Name "abs" _) [_] [] _) _ _ _); refine we_b1 (by assumption) bb_abs ?_)
  | ((with_reducible show WE _ _ (.Call (.Name "int" _) [_] [] _) _ _ _); refine we_t1 (by assumption) bb_int ?_)
  | ((with_reducible show WE _ _ (.Call (.Name "list" _) [_] [] _) _ _ _); refine we_t1 (by assumption) bb_list ?_)
  | ((with_reducible show WE _ _ (.Call (.Name "tuple" _) [_] [] _) _ _ _); refine we_t1 (by assumption) bb_tuple ?_)
  | ((with_reducible show WE _ _ (.Call (.Name "str" _) [_] [] _) _ _ _); refine we_t1 (by assumption) bb_str ?_)
  | ((with_reducible show WE _ _ (.Call (.Name "set" _) [_] [] _) _ _ _); refine we_t1 (by assumption) bb_set ?_)
  | ((with_reducible show WE _ _ (.Call (.Name "sorted" _) [_] [] _) _ _ _); refine we_b1 (by assumption) bb_sorted ?_)
  | ((with_reducible show WE _ _ (.Call (.Name "isinstance" _) [_, _] [] _) _ _ _); refine we_b2 (by assumption) bb_isinstance ?_)
  | ((with_reducible show WE _ _ (.Call (.Name "max" _) [_] [] _) _ _ _); refine we_b1 (by assumption) bb_max ?_)
  | ((with_reducible show WE _ _ (.Call (.Name "min" _) [_] [] _) _ _ _); refine we_b1 (by assumption) bb_min ?_)
  | ((with_reducible show WE _ _ (.Call (.Name "max" _) [_, _] [] _) _ _ _); refine we_b2 (by assumption) bb_max ?_)
  | ((with_reducible show WE _ _ (.Call (.Name "min" _) [_, _] [] _) _ _ _); refine we_b2 (by assumption) bb_min ?_)
  | ((with_reducible show BinG _ _ (binaryOp .Add) (.int _) (.int _) _ _); refine b_add ?_)
  | ((with_reducible show BinG _ _ (binaryOp .Sub) (.int _) (.int _) _ _); refine b_sub ?_)
  | ((with_reducible show BinG _ _ (binaryOp .Mod) (.int _) (.int _) _ _); refine b_mod (by omega) ?_)
  | ((with_reducible show BinG _ _ (binaryOp .FloorDiv) (.int _) (.int _) _ _); refine b_div ⟨by omega, by omega⟩ ?_)
  | ((with_reducible show BinG _ _ (binaryOp .Mult) (.int _) (.int _) _ _); first | refine b_mul (.inr ⟨by omega, by omega⟩) ?_ | refine b_mul (.inl ⟨by omega, by omega⟩) ?_)
  | ((with_reducible show BinG _ _ (compareOp .Lt) (.int _) (.int _) _ _); refine b_lt ?_)
  | ((with_reducible show BinG _ _ (compareOp .LtE) (.int _) (.int _) _ _); refine b_le ?_)
  | ((with_reducible show BinG _ _ (compareOp .Gt) (.int _) (.int _) _ _); refine b_gt ?_)
  | ((with_reducible show BinG _ _ (compareOp .GtE) (.int _) (.int _) _ _); refine b_ge ?_)
  | ((with_reducible show BinG _ _ (compareOp .Eq) (.int _) (.int _) _ _); refine b_eqI (by assumption) ?_)
  | ((with_reducible show BinG _ _ (compareOp .NotEq) (.int _) (.int _) _ _); refine b_neI (by assumption) ?_)
  | ((with_reducible show UnG _ _ (unaryOp .USub) (.int _) _ _); refine b_neg ?_)
  | (with_reducible refine ex_bl ?_)
  | ((with_reducible show CallG _ _ (.type "int") [.int _] _ _); refine c_int ?_)
  | ((with_reducible show CallG _ _ (.type "int") [.bl _] _ _); refine c_intB ?_)
  | ((with_reducible show CallG _ _ (.builtin "abs") _ _ _); refine c_abs ?_)
  | ((with_reducible show CallG _ _ (.builtin "len") [.lst _] _ _); refine c_len ?_)
  | ((with_reducible show CallG _ _ (.builtin "len") [.tup _] _ _); refine c_lenT ?_)
  | ((with_reducible show CallG _ _ (.builtin "len") [.raw _] _ _); refine c_lenM (by first | assumption | exact updM_same) ?_)
  | ((with_reducible show CallG _ _ (.type "list") [.tup _] _ _); refine c_listT ?_)
  | ((with_reducible show CallG _ _ (.type "tuple") [.lst _] _ _); refine c_tuple ?_)
  | ((with_reducible show CallG _ _ (.type "tuple") [.tup _] _ _); refine c_tupleT ?_)
  | ((with_reducible show CallG _ _ (.builtin "max") [.int _, .int _] _ _); refine c_max2 rfl ?_)
  | ((with_reducible show CallG _ _ (.builtin "min") [.int _, .int _] _ _); refine c_min2 rfl ?_)
  | ((with_reducible show IxG _ _ (.tup _) _ _ _); refine ix_tupD rfl ?_)
  | ((with_reducible show IxG _ _ (.raw _) _ _ _); refine ix_mlst (by first | assumption | exact updM_same) rfl ?_)
  | ((with_reducible show WA _ _ (_ :: _) _ _ _); refine wa_cons ?_)
  | ((with_reducible show WA _ _ [] _ _ _); refine wa_nil ?_))
section
variable {P : Program} {w : World} {K : PySem.W.Frag} {mg : Str → Option Value} {base : Heap}
/-! ### pick -/
def spPick : SpD := fun xs M Q => ∃ p d ms, xs = [.raw (.ref p), .lst ms] ∧ M p = some d ∧ BagD d ∧ 0 < ms.length ∧ ms.length < 1000 ∧ ∀ x d', x ∈ ms → BagD d' → Q x (updM M p d')
theorem sc_pick : FnScope ["bag", "menu"] ["bag", "menu"] d__law_pick.scope := ⟨rfl, rfl, rfl, by decide +kernel, rfl, by decide +kernel, by decide +kernel⟩
theorem cal_pick (m : Md K mg base) : CalD P w K mg base 2 "_law_pick" spPick [] := by
  refine cal_of (d := d__law_pick) rfl (fd__law_pick m.c) (He.glo_ok m.i m.n (glo__law_pick m.c)) sc_pick (fun xs M Q ⟨p, d, many, e, _⟩ => by rw [e]; rfl) (fun _ _ _ _ _ _ us hl => match us, hl with | [_, _], _ => rfl) ?_
  rintro cdv A outer s H E hr xs M Q ⟨p, d, ms, rfl, hM, hB, h0, hl, hQ⟩
  have nd := sc_pick.nd
  have flen : mg "len" = none := He.free_ok m.i m.n (free_len m.c)
  refine wss_one (ws_ret (we_ix (we_var 1 rfl rfl (we_cal (cal_take m) hr (by decide) ?_))))
  repeat walk_at "dl"
  refine ⟨p, d, _, rfl, hM, hB, by omega, by omega, fun r d' h1 h2 hB' => ?_⟩
  obtain ⟨k, rfl⟩ := Int.eq_ofNat_of_zero_le h1
  have hk : k < ms.length := by omega
  exact ix_lst (atI_nat (List.getElem?_eq_getElem hk)) (hQ _ _ (List.getElem_mem hk) hB')
/-! ### mixed -/
def spMixed : SpD := fun xs M Q => ∃ p d ys, xs = [.raw (.ref p), .lst ys] ∧ M p = some d ∧ BagD d ∧ ys.length < 1000000 ∧ ∀ zs d', zs.Perm ys → BagD d' → Q (.lst zs) (updM M p d')
theorem sc_mixed : FnScope ["bag", "row", "rest", "out", "k"] ["bag", "row"] d__law_mixed.scope := ⟨rfl, rfl, rfl, by decide +kernel, rfl, by decide +kernel, by decide +kernel⟩
theorem perm_erase {α : Type} {a : List α} {k : Nat} (hk : k < a.length) : (a[k] :: a.eraseIdx k).Perm a := by
  rw [List.eraseIdx_eq_take_drop_succ]
  have e : a = a.take k ++ a[k] :: a.drop (k + 1) := by
    rw [← List.drop_eq_getElem_cons hk, List.take_append_drop]
  exact (List.perm_middle.symm.trans (List.Perm.of_eq e.symm))
theorem del2 {M : Mst} {p l q : Addr} {d a b : D} (h1 : M l = none) (h2 : M q = none) (hlq : q ≠ l) (hlp : l ≠ p) (hqp : q ≠ p) : delM (delM (updM (updM (updM M p d) l a) q b) q) l = updM M p d := by
  funext c
  unfold delM updM
  by_cases e1 : c = l
  · subst e1; simp [hlp, h1]
  · by_cases e2 : c = q
    · subst e2; simp [e1, hqp, h2]
    · simp [e1, e2]
theorem cal_mixed (m : Md K mg base) : CalD P w K mg base 2 "_law_mixed" spMixed [] := by
  refine cal_of (d := d__law_mixed) rfl (fd__law_mixed m.c) (He.glo_ok m.i m.n (glo__law_mixed m.c)) sc_mixed (fun xs M Q ⟨p, d, many, e, _⟩ => by rw [e]; rfl) (fun _ _ _ _ _ _ us hl => match us, hl with | [_, _], _ => rfl) ?_
  rintro cdv A outer s H E hr xs M Q ⟨p, d, ys, rfl, hM, hB, hl, hQ⟩
  have nd := sc_mixed.nd
  have flen : mg "len" = none := He.free_ok m.i m.n (free_len m.c)
  have flist : mg "list" = none := He.free_ok m.i m.n (free_list m.c)
  have frange : mg "range" = none := He.free_ok m.i m.n (free_range m.c)
  refine wss_cons (ws_par2 2 3 rfl nd rfl rfl (wa2 (we_t1 flist bb_list (we_var 1 rfl rfl (c_listM fun l hl1 => we_lstM (wa_nil ⟨sz rfl, fun q hq => ⟨_, _, rfl, ?_⟩⟩))))))
  have hlp : l ≠ p := fun e => by rw [e, hM] at hl1; cases hl1
  have hql : q ≠ l := fun e => by rw [e, updM_same] at hq; cases hq
  have hq1 : M q = none := by rw [updM_ne hql] at hq; exact hq
  have hqp : q ≠ p := fun e => by rw [e, hM] at hq1; cases hq1
  have st0 : updM (updM M l (.lst ys)) q (.lst []) = updM (updM (updM M p d) l (.lst ys)) q (.lst []) := by rw [updM_self hM]
  rw [st0]
  refine wss_cut (fun ds1 M1 => ∃ b d' kk, ds1 = [some (.raw (.ref p)), some (.lst ys), some (.raw (.ref l)), some (.raw (.ref q)), kk] ∧ BagD d' ∧ M1 = updM (updM (updM M p d') l (.lst [])) q (.lst b) ∧ b.Perm ys) (ws_forL (.nm 4) (List.range ys.length) (fun i => .int (i : Nat))
    (fun r ds1 M1 => ∃ a b d' kk, ds1 = [some (.raw (.ref p)), some (.lst ys), some (.raw (.ref l)), some (.raw (.ref q)), kk] ∧ BagD d' ∧ M1 = updM (updM (updM M p d') l (.lst a)) q (.lst b) ∧ (b ++ a).Perm ys ∧ a.length = r.length) PassesOwn.never rfl (pg_name nd rfl (Or.inl rfl)) ?_ ?_ ?_) ?_
  · refine wi_range1 frange (wa1 ?_)
    repeat walk_at "dl"
    refine ⟨_, rfl, by omega, by omega, ?_, ys, [], d, none, rfl, hB, rfl, by simp, by simp⟩
    exact li_range _ _
  · rintro ds1 M1 ⟨a, b, d', kk, rfl, hB', rfl, hp, ha⟩
    have ha0 : a = [] := List.eq_nil_of_length_eq_zero ha
    subst ha0
    exact ⟨b, d', kk, rfl, hB', rfl, by simpa using hp⟩
  · rintro y r ds1 M1 ⟨a, b, d', kk, rfl, hB', rfl, hp, ha⟩
    refine ⟨_, rfl, wss_one (ws_expr ?_)⟩
    have hMq : updM (updM (updM M p d') l (.lst a)) q (.lst b) q = some (.lst b) := updM_same
    have hMl : updM (updM (updM M p d') l (.lst a)) q (.lst b) l = some (.lst a) := by rw [updM_ne (Ne.symm hql), updM_same]
    have hMp : updM (updM (updM M p d') l (.lst a)) q (.lst b) p = some d' := by rw [updM_ne (Ne.symm hqp), updM_ne (Ne.symm hlp), updM_same]
    have hlen : a.length + b.length = ys.length := by have := hp.length_eq; simp at this; omega
    have ha2 : a.length = r.length + 1 := by simpa using ha
    refine we_append (we_var 3 rfl rfl ⟨q, _, rfl, hMq, we_popAt (we_var 2 rfl rfl ⟨l, _, rfl, hMl, we_cal (cal_take m) hr (by decide) ?_⟩)⟩)
    repeat walk_at "dl"
    refine ⟨p, d', _, rfl, hMp, hB', by omega, by omega, fun z d2 h1 h2 hB2 => ?_⟩
    obtain ⟨k, rfl⟩ := Int.eq_ofNat_of_zero_le h1
    have hk : k < a.length := by omega
    have e1 : updM (updM (updM (updM M p d') l (.lst a)) q (.lst b)) p d2 = updM (updM (updM M p d2) l (.lst a)) q (.lst b) := by
      rw [updM_comm hqp, updM_comm hlp, updM_updM]
    rw [e1]
    refine ⟨a, k, a[k], rfl, by rw [updM_ne (Ne.symm hql), updM_same], by omega, List.getElem?_eq_getElem hk, b, by rw [updM_ne hql, updM_same], by have : sizeLine = 16777216 := sizeLine_eq; omega, a.eraseIdx k, b ++ [a[k]], d2, some (.int (y : Nat)), rfl, hB2, ?_, ?_, ?_⟩
    · rw [updM_comm hql, updM_updM, updM_updM]
    · have h3 : (a[k] :: a.eraseIdx k).Perm a := perm_erase hk
      rw [List.append_assoc]
      exact (List.Perm.append_left b h3).trans hp
    · rw [List.length_eraseIdx_of_lt hk]; omega
  · rintro ds1 M1 ⟨b, d', kk, rfl, hB', rfl, hp⟩
    refine wss_freeze 3 (p := q) rfl updM_same (wss_forget (p := l) (d := .lst []) (by rw [delM_ne (Ne.symm hql), updM_ne (Ne.symm hql), updM_same]) ?_)
    rw [del2 hl1 hq1 hql hlp hqp]
    exact wss_one (ws_ret (we_var 3 rfl rfl (hQ b d' hp hB')))
end
end K02

namespace K02
open PySem PySem.Spec L2 DL
local macro_rules | `(tactic| walk_at "dl") => `(tactic| first
  | ((with_reducible show WE _ _ (.Constant _ _ _) _ _ _); first | refine we_int ?_ | refine we_str ?_ | refine we_bl ?_ | refine we_non ?_)
  | ((with_reducible show WE _ _ (.Name _ _) _ _ _); first | refine we_var 0 rfl rfl ?_ | refine we_var 1 rfl rfl ?_ | refine we_var 2 rfl rfl ?_ | refine we_var 3 rfl rfl ?_ | refine we_var 4 rfl rfl ?_ | refine we_var 5 rfl rfl ?_ | refine we_var 6 rfl rfl ?_ | refine we_var 7 rfl rfl ?_ | refine we_var 8 rfl rfl ?_ | refine we_var 9 rfl rfl ?_ | refine we_var 10 rfl rfl ?_ | refine we_var 11 rfl rfl ?_ | refine we_var 12 rfl rfl ?_ | refine we_var 13 rfl rfl ?_ | refine we_var 14 rfl rfl ?_ | refine we_var 15 rfl rfl ?_)
  | ((with_reducible show WE _ _ (.BinOp _ _ _ _) _ _ _); refine we_bin ?_)
  | ((with_reducible show WE _ _ (.Compare _ [_] [_] _) _ _ _); refine we_cmp ?_)
  | ((with_reducible show WT _ _ (.Compare _ [_] [_] _) _ _ _); refine wt_cmp ?_)
  | ((with_reducible show WE _ _ (.UnaryOp .USub _ _) _ _ _); refine we_un ?_)
  | ((with_reducible show WT _ _ (.UnaryOp .Not _ _) _ _ _); refine wt_not ?_)
  | ((with_reducible show WE _ _ (.IfExp _ _ _ _) _ _ _); refine we_ifx ?_)
  | ((with_reducible show WE _ _ (.Subscript _ (.Name _ _) _) _ _ _); refine we_ix ?_)
  | ((with_reducible show WE _ _ (.Subscript _ (.Constant _ _ _) _) _ _ _); refine we_ix ?_)
  | ((with_reducible show WE _ _ (.Subscript _ (.Subscript _ _ _) _) _ _ _); refine we_ix ?_)
  | ((with_reducible show WE _ _ (.Subscript _ (.BinOp _ _ _ _) _) _ _ _); refine we_ix ?_)
  | ((with_reducible show WE _ _ (.Subscript _ (.UnaryOp _ _ _) _) _ _ _); refine we_ix ?_)
  | ((with_reducible show WE _ _ (.Subscript _ (.Call _ _ _ _) _) _ _ _); refine we_ix ?_)
  | ((with_reducible show WE _ _ (.Call (.Name "len" _) [_] [] _) _ _ _); refine we_b1 (by assumption) bb_len ?_)
  | ((with_reducible show WE _ _ (.Call (.Name "abs" _) [_] [] _) _ _ _); refine we_b1 (by assumption) bb_abs ?_)
  | ((with_reducible show WE _ _ (.Call (.Name "int" _) [_] [] _) _ _ _); refine we_t1 (by assumption) bb_int ?_)
  | ((with_reducible show WE _ _ (.Call (.Name "list" _) [_] [] _) _ _ _); refine we_t1 (by assumption) bb_list ?_)
  | ((with_reducible show WE _ _ (.Call (.Name "tuple" _) [_] [] _) _ _ _); refine we_t1 (by assumption) bb_tuple ?_)
  | ((with_reducible show WE _ _ (.Call (.Name "str" _) [_] [] _) _ _ _); refine we_t1 (by assumption) bb_str ?_)
  | ((with_reducible show WE _ _ (.Call (.Name "set" _) [_] [] _) _ _ _); refine we_t1 (by assumption) bb_set ?_)
  | ((with_reducible show WE _ _ (.Call (.Name "sorted" _) [_] [] _) _ _ _); refine we_b1 (by assumption) bb_sorted ?_)
  | ((with_reducible show WE _ _ (.Call (.Name "isinstance" _) [_, _] [] _) _ _ _); refine we_b2 (by assumption) bb_isinstance ?_)
  | ((with_reducible show WE _ _ (.Call (.Name "max" _) [_] [] _) _ _ _); refine we_b1 (by assumption) bb_max ?_)
  | ((with_reducible show WE _ _ (.Call (.Name "min" _) [_] [] _) _ _ _); refine we_b1 (by assumption) bb_min ?_)
  | ((with_reducible show WE _ _ (.Call (.Name "max" _) [_, _] [] _) _ _ _); refine we_b2 (by assumption) bb_max ?_)
  | ((with_reducible show WE _ _ (.Call (.Name "min" _) [_, _] [] _) _ _ _); refine we_b2 (by assumption) bb_min ?_)
  | ((with_reducible show BinG _ _ (binaryOp .Add) (.int _) (.int _) _ _); refine b_add ?_)
  | ((with_reducible show BinG _ _ (binaryOp .Sub) (.int _) (.int _) _ _); refine b_sub ?_)
  | ((with_reducible show BinG _ _ (binaryOp .Mod) (.int _) (.int _) _ _); refine b_mod (by omega) ?_)
  | ((with_reducible show BinG _ _ (binaryOp .FloorDiv) (.int _) (.int _) _ _); refine b_div ⟨by omega, by omega⟩ ?_)
  | ((with_reducible show BinG _ _ (binaryOp .Mult) (.int _) (.int _) _ _); first | refine b_mul (.inr ⟨by omega, by omega⟩) ?_ | refine b_mul (.inl ⟨by omega, by omega⟩) ?_)
  | ((with_reducible show BinG _ _ (compareOp .Lt) (.int _) (.int _) _ _); refine b_lt ?_)
  | ((with_reducible show BinG _ _ (compareOp .LtE) (.int _) (.int _) _ _); refine b_le ?_)
  | ((with_reducible show BinG _ _ (compareOp .Gt) (.int _) (.int _) _ _); refine b_gt ?_)
  | ((with_reducible show BinG _ _ (compareOp .GtE) (.int _) (.int _) _ _); refine b_ge ?_)
  | ((with_reducible show BinG _ _ (compareOp .Eq) (.int _) (.int _) _ _); refine b_eqI (by assumption) ?_)
  | ((with_reducible show BinG _ _ (compareOp .NotEq) (.int _) (.int _) _ _); refine b_neI (by assumption) ?_)
  | ((with_reducible show UnG _ _ (unaryOp .USub) (.int _) _ _); refine b_neg ?_)
  | (with_reducible refine ex_bl ?_)
  | ((with_reducible show CallG _ _ (.type "int") [.int _] _ _); refine c_int ?_)
  | ((with_reducible show CallG _ _ (.type "int") [.bl _] _ _); refine c_intB ?_)
  | ((with_reducible show CallG _ _ (.builtin "abs") _ _ _); refine c_abs ?_)
  | ((with_reducible show CallG _ _ (.builtin "len") [.lst _] _ _); refine c_len ?_)
  | ((with_reducible show CallG _ _ (.builtin "len") [.tup _] _ _); refine c_lenT ?_)
  | ((with_reducible show CallG _ _ (.builtin "len") [.raw _] _ _); refine c_lenM (by first | assumption | exact updM_same) ?_)
  | ((with_reducible show CallG _ _ (.type "list") [.tup _] _ _); refine c_listT ?_)
  | ((with_reducible show CallG _ _ (.type "tuple") [.lst _] _ _); refine c_tuple ?_)
  | ((with_reducible show CallG _ _ (.type "tuple") [.tup _] _ _); refine c_tupleT ?_)
  | ((with_reducible show CallG _ _ (.builtin "max") [.int _, .int _] _ _); refine c_max2 rfl ?_)
  | ((with_reducible show CallG _ _ (.builtin "min") [.int _, .int _] _ _); refine c_min2 rfl ?_)
  | ((with_reducible show IxG _ _ (.tup _) _ _ _); refine ix_tupD rfl ?_)
  | ((with_reducible show IxG _ _ (.raw _) _ _ _); refine ix_mlst (by first | assumption | exact updM_same) rfl ?_)
  | ((with_reducible show WA _ _ (_ :: _) _ _ _); refine wa_cons ?_)
  | ((with_reducible show WA _ _ [] _ _ _); refine wa_nil ?_))
section
variable {P : Program} {w : World} {K : PySem.W.Frag} {mg : Str → Option Value} {base : Heap}
/-! ### int, truth -/
def spInt : SpD := fun xs M Q => ∃ i, xs = [.int i] ∧ Q (.bl true) M
theorem sc_int : FnScope ["told"] ["told"] d__law_int.scope := ⟨rfl, rfl, rfl, by decide +kernel, rfl, by decide +kernel, by decide +kernel⟩
theorem cal_int (m : Md K mg base) : CalD P w K mg base 1 "_law_int" spInt [] := by
  refine cal_of (d := d__law_int) rfl (fd__law_int m.c) (He.glo_ok m.i m.n (glo__law_int m.c)) sc_int (fun xs M Q ⟨i, e, _⟩ => by rw [e]; rfl) (fun _ _ _ _ _ _ us hl => match us, hl with | [_], _ => rfl) ?_
  rintro cdv A outer s H E hr xs M Q ⟨i, rfl, hQ⟩
  have fi : mg "isinstance" = none := He.free_ok m.i m.n (free_isinstance m.c)
  have fint : mg "int" = none := He.free_ok m.i m.n (free_int m.c)
  have fbool : mg "bool" = none := He.free_ok m.i m.n (free_bool m.c)
  refine wss_one (ws_ret (we_andT (we_b2 fi bb_isinstance (we_var 0 rfl rfl (we_bltn fint bb_int (v := .ty "int") rfl (fun _ => rp_raw) (c_isi (ClsV.ty "int") (show TyD K _ _ _ from rfl) rfl (tru_is rfl ⟨fun _ => ?_, fun h => by cases h⟩)))))))
  exact we_one (we_notT (we_b2 fi bb_isinstance (we_var 0 rfl rfl (we_bltn fbool bb_bool (v := .ty "bool") rfl (fun _ => rp_raw) (c_isi (ClsV.ty "bool") (show TyD K _ _ _ from rfl) rfl (tru_is rfl hQ))))))
def spTruth : SpD := fun xs M Q => ∃ a b, xs = [.bl a, .bl b] ∧ Q (.bl (decide (a = b))) M
theorem sc_truth : FnScope ["told", "due"] ["told", "due"] d__law_truth.scope := ⟨rfl, rfl, rfl, by decide +kernel, rfl, by decide +kernel, by decide +kernel⟩
theorem cal_truth (m : Md K mg base) : CalD P w K mg base 1 "_law_truth" spTruth [] := by
  refine cal_of (d := d__law_truth) rfl (fd__law_truth m.c) (He.glo_ok m.i m.n (glo__law_truth m.c)) sc_truth (fun xs M Q ⟨a, b, e, _⟩ => by rw [e]; rfl) (fun _ _ _ _ _ _ us hl => match us, hl with | [_, _], _ => rfl) ?_
  rintro cdv A outer s H E hr xs M Q ⟨a, b, rfl, hQ⟩
  have fi : mg "isinstance" = none := He.free_ok m.i m.n (free_isinstance m.c)
  have fbool : mg "bool" = none := He.free_ok m.i m.n (free_bool m.c)
  refine wss_one (ws_ret (we_andT (we_b2 fi bb_isinstance (we_var 0 rfl rfl (we_bltn fbool bb_bool (v := .ty "bool") rfl (fun _ => rp_raw) (c_isi (ClsV.ty "bool") (show TyD K _ _ _ from rfl) rfl (tru_is rfl ⟨fun _ => ?_, fun h => by cases h⟩)))))))
  exact we_one (we_cmp (we_var 0 rfl rfl (we_var 1 rfl rfl (b_eqB hr hQ))))
/-! ### gcd -/
def spGcd : SpD := fun xs M Q => ∃ a b : Nat, xs = [.int a, .int b] ∧ Q (.int (Nat.gcd a b : Nat)) M
theorem sc_gcd : FnScope ["one", "other"] ["one", "other"] d__law_gcd.scope := ⟨rfl, rfl, rfl, by decide +kernel, rfl, by decide +kernel, by decide +kernel⟩
theorem cal_gcd (m : Md K mg base) : CalD P w K mg base 1 "_law_gcd" spGcd [] := by
  refine cal_of (d := d__law_gcd) rfl (fd__law_gcd m.c) (He.glo_ok m.i m.n (glo__law_gcd m.c)) sc_gcd (fun xs M Q ⟨a, b, e, _⟩ => by rw [e]; rfl) (fun _ _ _ _ _ _ us hl => match us, hl with | [_, _], _ => rfl) ?_
  rintro cdv A outer s H E hr xs M Q ⟨a, b, rfl, hQ⟩
  have nd := sc_gcd.nd
  have fint : mg "int" = none := He.free_ok m.i m.n (free_int m.c)
  refine wss_cons (ws_while (fun n ds1 M1 => ∃ x y : Nat, ds1 = [some (.int x), some (.int y)] ∧ M1 = M ∧ Nat.gcd x y = Nat.gcd a b ∧ n = y) PassesOwn.never ⟨b, a, b, rfl, rfl, rfl, rfl⟩ ?_)
  rintro n ds1 M1 ⟨x, y, rfl, rfl, hg, hny⟩
  obtain rfl : n = y := hny
  repeat walk_at "dl"
  refine ⟨fun h => ?_, fun h => ?_⟩
  · have hy : (0 : Int) < n := of_decide_eq_true h
    refine wss_one (ws_par2 0 1 rfl nd rfl rfl (wa2 ?_))
    repeat walk_at "dl"
    refine ⟨_, _, rfl, (x % n : Nat), Nat.mod_lt _ (by omega), n, x % n, ?_, rfl, ?_, rfl⟩
    · show [some (D.int (n : Int)), some (D.int ((x : Int) % (n : Int)))] = _
      rw [← Int.natCast_emod]
    · rw [← hg, Nat.gcd_comm x n, Nat.gcd_rec n x, Nat.gcd_comm]
  · have hy : ¬ (0 : Int) < n := of_decide_eq_false h
    have hy0 : n = 0 := by omega
    subst hy0
    rw [Nat.gcd_zero_right] at hg
    refine wss_one (ws_ret (we_var 0 rfl rfl ?_))
    rw [hg]
    exact hQ
end
end K02

namespace K02
open PySem PySem.Spec L2 DL
local macro_rules | `(tactic| walk_at "dl") => `(tactic| first
  | ((with_reducible show WE _ _ (.Constant _ _ _) _ _ _); first | refine we_int ?_ | refine we_str ?_ | refine we_bl ?_ | refine we_non ?_)
  | ((with_reducible show WE _ _ (.Name _ _) _ _ _); first | refine we_var 0 rfl rfl ?_ | refine we_var 1 rfl rfl ?_ | refine we_var 2 rfl rfl ?_ | refine we_var 3 rfl rfl ?_ | refine we_var 4 rfl rfl ?_ | refine we_var 5 rfl rfl ?_ | refine we_var 6 rfl rfl ?_ | refine we_var 7 rfl rfl ?_ | refine we_var 8 rfl rfl ?_ | refine we_var 9 rfl rfl ?_ | refine we_var 10 rfl rfl ?_ | refine we_var 11 rfl rfl ?_ | refine we_var 12 rfl rfl ?_ | refine we_var 13 rfl rfl ?_ | refine we_var 14 rfl rfl ?_ | refine we_var 15 rfl rfl ?_)
  | ((with_reducible show WE _ _ (.BinOp _ _ _ _) _ _ _); refine we_bin ?_)
  | ((with_reducible show WE _ _ (.Compare _ [_] [_] _) _ _ _); refine we_cmp ?_)
  | ((with_reducible show WT _ _ (.Compare _ [_] [_] _) _ _ _); refine wt_cmp ?_)
  | ((with_reducible show WE _ _ (.UnaryOp .USub _ _) _ _ _); refine we_un ?_)
  | ((with_reducible show WT _ _ (.UnaryOp .Not _ _) _ _ _); refine wt_not ?_)
  | ((with_reducible show WE _ _ (.IfExp _ _ _ _) _ _ _); refine we_ifx ?_)
  | ((with_reducible show WE _ _ (.Subscript _ (.Name _ _) _) _ _ _); refine we_ix ?_)
  | ((with_reducible show WE _ _ (.Subscript _ (.Constant _ _ _) _) _ _ _); refine we_ix ?_)
  | ((with_reducible show WE _ _ (.Subscript _ (.Subscript _ _ _) _) _ _ _); refine we_ix ?_)
  | ((with_reducible show WE _ _ (.Subscript _ (.BinOp _ _ _ _) _) _ _ _); refine we_ix ?_)
  | ((with_reducible show WE _ _ (.Subscript _ (.UnaryOp _ _ _) _) _ _ _); refine we_ix ?_)
  | ((with_reducible show WE _ _ (.Subscript _ (.Call _ _ _ _) _) _ _ _); refine we_ix ?_)
  | ((with_reducible show WE _ _ (.Call (.Name "len" _) [_] [] _) _ _ _); refine we_b1 (by assumption) bb_len ?_)
  | ((with_reducible show WE _ _ (.Call (.Name "abs" _) [_] [] _) _ _ _); refine we_b1 (by assumption) bb_abs ?_)
  | ((with_reducible show WE _ _ (.Call (.Name "int" _) [_] [] _) _ _ _); refine we_t1 (by assumption) bb_int ?_)
  | ((with_reducible show WE _ _ (.Call (.Name "list" _) [_] [] _) _ _ _); refine we_t1 (by assumption) bb_list ?_)
  | ((with_reducible show WE _ _ (.Call (.Name "tuple" _) [_] [] _) _ _ _); refine we_t1 (by assumption) bb_tuple ?_)
  | ((with_reducible show WE _ _ (.Call (.Name "str" _) [_] [] _) _ _ _); refine we_t1 (by assumption) bb_str ?_)
  | ((with_reducible show WE _ _ (.Call (.Name "set" _) [_] [] _) _ _ _); refine we_t1 (by assumption) bb_set ?_)
  | ((with_reducible show WE _ _ (.Call (.Name "sorted" _) [_] [] _) _ _ _); refine we_b1 (by assumption) bb_sorted ?_)
  | ((with_reducible show WE _ _ (.Call (.Name "isinstance" _) [_, _] [] _) _ _ _); refine we_b2 (by assumption) bb_isinstance ?_)
  | ((with_reducible show WE _ _ (.Call (.Name "max" _) [_] [] _) _ _ _); refine we_b1 (by assumption) bb_max ?_)
  | ((with_reducible show WE _ _ (.Call (.Name "min" _) [_] [] _) _ _ _); refine we_b1 (by assumption) bb_min ?_)
  | ((with_reducible show WE _ _ (.Call (.Name "max" _) [_, _] [] _) _ _ _); refine we_b2 (by assumption) bb_max ?_)
  | ((with_reducible show WE _ _ (.Call (.Name "min" _) [_, _] [] _) _ _ _); refine we_b2 (by assumption) bb_min ?_)
  | ((with_reducible show BinG _ _ (binaryOp .Add) (.int _) (.int _) _ _); refine b_add ?_)
  | ((with_reducible show BinG _ _ (binaryOp .Sub) (.int _) (.int _) _ _); refine b_sub ?_)
  | ((with_reducible show BinG _ _ (binaryOp .Mod) (.int _) (.int _) _ _); refine b_mod (by omega) ?_)
  | ((with_reducible show BinG _ _ (binaryOp .FloorDiv) (.int _) (.int _) _ _); refine b_div ⟨by omega, by omega⟩ ?_)
  | ((with_reducible show BinG _ _ (binaryOp .Mult) (.int _) (.int _) _ _); first | refine b_mul (.inr ⟨by omega, by omega⟩) ?_ | refine b_mul (.inl ⟨by omega, by omega⟩) ?_)
  | ((with_reducible show BinG _ _ (compareOp .Lt) (.int _) (.int _) _ _); refine b_lt ?_)
  | ((with_reducible show BinG _ _ (compareOp .LtE) (.int _) (.int _) _ _); refine b_le ?_)
  | ((with_reducible show BinG _ _ (compareOp .Gt) (.int _) (.int _) _ _); refine b_gt ?_)
  | ((with_reducible show BinG _ _ (compareOp .GtE) (.int _) (.int _) _ _); refine b_ge ?_)
  | ((with_reducible show BinG _ _ (compareOp .Eq) (.int _) (.int _) _ _); refine b_eqI (by assumption) ?_)
  | ((with_reducible show BinG _ _ (compareOp .NotEq) (.int _) (.int _) _ _); refine b_neI (by assumption) ?_)
  | ((with_reducible show UnG _ _ (unaryOp .USub) (.int _) _ _); refine b_neg ?_)
  | (with_reducible refine ex_bl ?_)
  | ((with_reducible show CallG _ _ (.type "int") [.int _] _ _); refine c_int ?_)
  | ((with_reducible show CallG _ _ (.type "int") [.bl _] _ _); refine c_intB ?_)
  | ((with_reducible show CallG _ _ (.builtin "abs") _ _ _); refine c_abs ?_)
  | ((with_reducible show CallG _ _ (.builtin "len") [.lst _] _ _); refine c_len ?_)
  | ((with_reducible show CallG _ _ (.builtin "len") [.tup _] _ _); refine c_lenT ?_)
  | ((with_reducible show CallG _ _ (.builtin "len") [.raw _] _ _); refine c_lenM (by first | assumption | exact updM_same) ?_)
  | ((with_reducible show CallG _ _ (.type "list") [.tup _] _ _); refine c_listT ?_)
  | ((with_reducible show CallG _ _ (.type "tuple") [.lst _] _ _); refine c_tuple ?_)
  | ((with_reducible show CallG _ _ (.type "tuple") [.tup _] _ _); refine c_tupleT ?_)
  | ((with_reducible show CallG _ _ (.builtin "max") [.int _, .int _] _ _); refine c_max2 rfl ?_)
  | ((with_reducible show CallG _ _ (.builtin "min") [.int _, .int _] _ _); refine c_min2 rfl ?_)
  | ((with_reducible show IxG _ _ (.tup _) _ _ _); refine ix_tupD rfl ?_)
  | ((with_reducible show IxG _ _ (.raw _) _ _ _); refine ix_mlst (by first | assumption | exact updM_same) rfl ?_)
  | ((with_reducible show WA _ _ (_ :: _) _ _ _); refine wa_cons ?_)
  | ((with_reducible show WA _ _ [] _ _ _); refine wa_nil ?_))
section
variable {P : Program} {w : World} {K : PySem.W.Frag} {mg : Str → Option Value} {base : Heap}
/-! ### closed -/
def spClosed : SpD := fun xs M Q => ∃ ts : List Int, xs = [.lst (ts.map D.int)] ∧ (∀ t ∈ ts, 0 < t ∧ t ≤ 10000) ∧ ts.length ≤ 1000 ∧ ∀ r : List Int, r.Pairwise (· < ·) → (∀ d, d ∈ r ↔ 0 < d ∧ ∃ t ∈ ts, t % d = 0) → Q (.lst (r.map D.int)) M
theorem sc_closed : FnScope ["tops", "d", "top"] ["tops"] d__law_closed.scope := ⟨rfl, rfl, rfl, by decide +kernel, rfl, by decide +kernel, by decide +kernel⟩
theorem cal_closed (m : Md K mg base) : CalD P w K mg base 1 "_law_closed" spClosed [] := by
  refine cal_of (d := d__law_closed) rfl (fd__law_closed m.c) (He.glo_ok m.i m.n (glo__law_closed m.c)) sc_closed (fun xs M Q ⟨ts, e, _⟩ => by rw [e]; rfl) (fun _ _ _ _ _ _ us hl => match us, hl with | [_], _ => rfl) ?_
  rintro cdv A outer s H E hr xs M Q ⟨ts, rfl, hts, hl, hQ⟩
  have nd := sc_closed.nd
  have fint : mg "int" = none := He.free_ok m.i m.n (free_int m.c)
  have fmax : mg "max" = none := He.free_ok m.i m.n (free_max m.c)
  have frange : mg "range" = none := He.free_ok m.i m.n (free_range m.c)
  refine wss_one (ws_ret ?_)
  have hsz : sizeLine = 16777216 := sizeLine_eq
  let pr : Nat → Bool := fun k => !decide ((ts.filter fun t => decide (t % (1 + (k : Int)) = 0)) = [])
  have hpr : ∀ k : Nat, pr k = true ↔ ∃ t ∈ ts, t % (1 + (k : Int)) = 0 := fun k => by simp [pr, List.filter_eq_nil_iff]
  obtain ⟨mx, hmx⟩ : ∃ mx : Int, mx = mx := ⟨0, rfl⟩
  refine we_lcG (.nm 1) rfl nd (own := [("d", 1)]) (blkOk_by (by kernel_rfl)) (by decide) (fun s0 H0 C cl fp => pg_name nd rfl (Or.inr rfl) (.inl rfl))
    (R := fun n item M1 => ∃ mx : Int, n = mx.toNat ∧ item = (fun k => .int (1 + (k : Nat))) ∧ M1 = M ∧ (∀ t ∈ ts, t ≤ mx) ∧ mx ≤ 10000) ?_ ?_
  · refine wi_range2 frange (wa2 ?_)
    repeat walk_at "dl"
    refine we_lst ?_
    repeat walk_at "dl"
    refine ⟨sz rfl, b_addLI ts [0] (by simp; omega) (c_maxL rfl (by simp) fun mx hmx hmy => ?_)⟩
    repeat walk_at "dl"
    have h1 : mx ≤ 10000 ∧ 0 ≤ mx := by
      rcases List.mem_append.mp hmx with h | h
      · have := hts _ h; omega
      · simp at h; omega
    refine ⟨1, mx + 1, rfl, by omega, mx, by omega, rfl, rfl, fun t ht => hmy t (List.mem_append_left _ ht), h1.1⟩
  · rintro n item M1 ⟨mx, rfl, rfl, rfl, hm1, hm2⟩
    refine ⟨by omega, fun i acc M2 => M2 = M1 ∧ acc = (((List.range mx.toNat).take i).filter pr).map (fun k => .int (1 + (k : Nat))), ⟨rfl, rfl⟩, fun acc M2 ⟨e1, e2⟩ => ?_, lct_pure (li_range _ _) ?_⟩
    · subst e1
      rw [e2]
      have e3 : (List.range mx.toNat).take mx.toNat = List.range mx.toNat := List.take_of_length_le (by simp)
      rw [e3]
      have e4 : ((List.range mx.toNat).filter pr).map (fun k => D.int (1 + (k : Nat))) = ((((List.range mx.toNat).filter pr).map fun k : Nat => 1 + (k : Int))).map D.int := by simp [List.map_map, Function.comp_def]
      rw [e4]
      refine hQ _ ?_ fun d => ?_
      · rw [List.pairwise_map]
        exact (List.pairwise_lt_range.filter _).imp fun {a b} h => by omega
      · simp only [List.mem_map, List.mem_filter, List.mem_range]
        constructor
        · rintro ⟨k, ⟨h1, h2⟩, rfl⟩
          exact ⟨by omega, (hpr k).mp h2⟩
        · rintro ⟨h0, t, ht, h1⟩
          have h2 : d ≤ t := Int.le_of_dvd (hts t ht).1 (Int.dvd_of_emod_eq_zero h1)
          have h3 := hm1 t ht
          exact ⟨(d - 1).toNat, ⟨by omega, (hpr _).mpr ⟨t, ht, by rw [show (1 : Int) + ((d - 1).toNat : Nat) = d by omega]; exact h1⟩⟩, by omega⟩
    · intro k hk M' hs
      refine ⟨_, rfl, fun s0 H0 C cl fp => wts_one (wt_cmp (we_lcP (.nm 2) ts D.int (fun t => decide (t % (1 + (k : Int)) = 0)) D.int rfl nd (own := [("top", 2)]) (blkOk_by (by kernel_rfl)) (by decide) (fun s1 H1 C1 cl1 fp1 => pg_name nd rfl (Or.inl rfl)) (wi_list (we_var 0 rfl rfl ⟨_, rfl, fun hz => ⟨hz, li_map ts D.int, ?_, ?_⟩⟩)))), fun _ s0 H0 C cl fp => we_var 1 rfl rfl ⟨rfl, rfl⟩⟩
      · intro t ht M2 hs2
        refine ⟨_, rfl, fun s1 H1 C1 cl1 fp1 => wts_one ?_, fun _ s1 H1 C1 cl1 fp1 => we_var 2 rfl rfl ⟨rfl, rfl⟩⟩
        repeat walk_at "dl"
        exact ⟨rfl, rfl⟩
      · refine we_lst (wa_nil ⟨sz rfl, ?_⟩)
        exact b_neE (encL encI) (a := ts.filter fun t => decide (t % (1 + (k : Int)) = 0)) (b := []) hr ⟨_, rfl, rfl, rfl⟩
end
end K02

namespace K02
/-! the plain law: lengths, their times and parts -/
theorem sorted_ext : ∀ {a b : List Int}, a.Pairwise (· < ·) → b.Pairwise (· < ·) → (∀ x, x ∈ a ↔ x ∈ b) → a = b
  | [], [], _, _, _ => rfl
  | [], y :: b, _, _, h => by have := (h y).mpr List.mem_cons_self; cases this
  | x :: a, [], _, _, h => by have := (h x).mp List.mem_cons_self; cases this
  | x :: a, y :: b, ha, hb, h => by
    rw [List.pairwise_cons] at ha hb
    have e : x = y := by
      have h1 := (h x).mp List.mem_cons_self
      have h2 := (h y).mpr List.mem_cons_self
      rcases List.mem_cons.mp h1 with q | q
      · exact q
      · rcases List.mem_cons.mp h2 with q2 | q2
        · exact q2.symm
        · have := ha.1 y q2
          have := hb.1 x q
          omega
    subst e
    rw [sorted_ext ha.2 hb.2 fun z => ?_]
    constructor
    · intro hz
      rcases List.mem_cons.mp ((h z).mp (List.mem_cons_of_mem _ hz)) with q | q
      · have := ha.1 z hz; omega
      · exact q
    · intro hz
      rcases List.mem_cons.mp ((h z).mpr (List.mem_cons_of_mem _ hz)) with q | q
      · have := hb.1 z hz; omega
      · exact q
structure Wf (per : Int) (gaps : List Int) : Prop where
  pos : 0 < per
  perB : per ≤ 100000
  srt : gaps.Pairwise (· < ·)
  len : gaps.length ≤ 1000
  mul : ∀ g ∈ gaps, 0 < g ∧ g ≤ 100000000 ∧ per ∣ g
  clo : ∀ g ∈ gaps, ∀ d, 0 < d → d ∣ g / per → per * d ∈ gaps
theorem pw_map {f : Int → Int} (hf : ∀ a b, a < b → f a < f b) {l : List Int} (h : l.Pairwise (· < ·)) : (l.map f).Pairwise (· < ·) := by
  rw [List.pairwise_map]
  exact h.imp fun {a b} q => hf a b q
theorem Wf.times {per : Int} {gaps : List Int} (h : Wf per gaps) {k : Int} (hk : 0 < k) (b1 : k * per ≤ 100000) (b2 : ∀ g ∈ gaps, k * g ≤ 100000000) : Wf (k * per) (gaps.map (k * ·)) := by
  refine ⟨Int.mul_pos hk h.pos, b1, pw_map (fun a b q => Int.mul_lt_mul_of_pos_left q hk) h.srt, by rw [List.length_map]; exact h.len, fun g hg => ?_, fun g hg d hd hdv => ?_⟩
  · obtain ⟨x, hx, rfl⟩ := List.mem_map.mp hg
    obtain ⟨h1, _, h3⟩ := h.mul x hx
    exact ⟨Int.mul_pos hk h1, b2 x hx, Int.mul_dvd_mul_left k h3⟩
  · obtain ⟨x, hx, rfl⟩ := List.mem_map.mp hg
    have e : k * x / (k * per) = x / per := Int.mul_ediv_mul_of_pos _ _ hk
    rw [show k * x / (k * per) = x / per from e] at hdv
    rw [Int.mul_assoc]
    exact List.mem_map.mpr ⟨per * d, h.clo x hx d hd hdv, rfl⟩
def partsG (k : Int) (gaps : List Int) : List Int := (gaps.filter fun g => decide (g % k = 0)).map (· / k)
def partsP (per k : Int) : Int := per / (Int.gcd per k : Nat)
theorem mem_partsG {k : Int} (hk : 0 < k) {gaps : List Int} {n : Int} : n ∈ partsG k gaps ↔ k * n ∈ gaps := by
  unfold partsG
  simp only [List.mem_map, List.mem_filter, decide_eq_true_eq]
  constructor
  · rintro ⟨g, ⟨hg, hz⟩, rfl⟩
    rw [Int.mul_ediv_cancel' (Int.dvd_of_emod_eq_zero hz)]
    exact hg
  · intro h
    exact ⟨k * n, ⟨h, Int.mul_emod_right k n⟩, Int.mul_ediv_cancel_left n (by omega)⟩
theorem srt_partsG {k : Int} (hk : 0 < k) {gaps : List Int} (h : gaps.Pairwise (· < ·)) : (partsG k gaps).Pairwise (· < ·) := by
  unfold partsG
  rw [List.pairwise_map]
  have h2 := h.filter (fun g => decide (g % k = 0))
  refine h2.imp_of_mem fun {a b} ha hb q => ?_
  have ha := of_decide_eq_true (List.mem_filter.mp ha).2
  have hb := of_decide_eq_true (List.mem_filter.mp hb).2
  have e1 := Int.mul_ediv_cancel' (Int.dvd_of_emod_eq_zero ha)
  have e2 := Int.mul_ediv_cancel' (Int.dvd_of_emod_eq_zero hb)
  rcases Int.lt_or_le (a / k) (b / k) with z | z
  · exact z
  · have := Int.mul_le_mul_of_nonneg_left z (by omega : 0 ≤ k)
    omega
theorem pos_r {a b : Int} (ha : 0 < a) (h : 0 < a * b) : 0 < b := by
  rcases Int.lt_or_le 0 b with z | z
  · exact z
  · have := Int.mul_le_mul_of_nonneg_left z (by omega : 0 ≤ a)
    omega
/-- per = g * p, k = g * c, p and c without a common divisor -/
theorem gcd_split {per k : Int} (hp : 0 < per) (hk : 0 < k) : ∃ g p c : Int, 0 < g ∧ 0 < p ∧ 0 < c ∧ per = g * p ∧ k = g * c ∧ Int.gcd p c = 1 ∧ partsP per k = p ∧ g = (Int.gcd per k : Nat) := by
  have hg : 0 < Int.gcd per k := Int.gcd_pos_of_ne_zero_left _ (by omega)
  have hgi : (0 : Int) < (Int.gcd per k : Nat) := by omega
  have d1 : ((Int.gcd per k : Nat) : Int) ∣ per := Int.gcd_dvd_left ..
  have d2 : ((Int.gcd per k : Nat) : Int) ∣ k := Int.gcd_dvd_right ..
  have hP : partsP per k = per / (Int.gcd per k : Nat) := rfl
  obtain ⟨p, hp'⟩ := d1
  obtain ⟨c, hc'⟩ := d2
  generalize hG : Int.gcd per k = G at *
  refine ⟨G, p, c, hgi, pos_r hgi (by rw [← hp']; exact hp), pos_r hgi (by rw [← hc']; exact hk), hp', hc', ?_, ?_, rfl⟩
  · rw [hp', hc', Int.gcd_mul_left] at hG
    simp only [Int.natAbs_natCast] at hG
    have h1 : G * Int.gcd p c = G * 1 := by rw [hG, Nat.mul_one]
    exact Nat.eq_of_mul_eq_mul_left hg h1
  · rw [hP, hp']
    exact Int.mul_ediv_cancel_left p (by omega)
theorem dvd_of_gcd1 {p c x : Int} (h : Int.gcd p c = 1) (hd : p ∣ c * x) : p ∣ x := by
  rw [← Int.natAbs_dvd_natAbs] at hd ⊢
  rw [Int.natAbs_mul] at hd
  exact Nat.Coprime.dvd_of_dvd_mul_left h hd
theorem partsP_pos {per k : Int} (hp : 0 < per) (hk : 0 < k) : 0 < partsP per k := by
  obtain ⟨g, p, c, hg, hp', hc, e1, e2, h1, e3, _⟩ := gcd_split hp hk
  rw [e3]; exact hp'
theorem partsP_dvd {per k n : Int} (hp : 0 < per) (hk : 0 < k) : partsP per k ∣ n ↔ per ∣ k * n := by
  obtain ⟨g, p, c, hg, hp', hc, e1, e2, h1, e3, _⟩ := gcd_split hp hk
  rw [e3, e1, e2, Int.mul_assoc, Int.mul_dvd_mul_iff_left (by omega)]
  exact ⟨fun h => Int.dvd_mul_of_dvd_right h, fun h => dvd_of_gcd1 h1 h⟩
theorem Wf.parts {per : Int} {gaps : List Int} (h : Wf per gaps) {k : Int} (hk : 0 < k) : Wf (partsP per k) (partsG k gaps) := by
  obtain ⟨g, p, c, hg, hp', hc, e1, e2, h1, e3, _⟩ := gcd_split h.pos hk
  have hpp : p ≤ per := by
    rw [e1]
    have := Int.mul_le_mul_of_nonneg_right (show 1 ≤ g by omega) (by omega : 0 ≤ p)
    omega
  refine ⟨partsP_pos h.pos hk, by rw [e3]; have := h.perB; omega, srt_partsG hk h.srt, ?_, fun n hn => ?_, fun n hn d hd hdv => ?_⟩
  · unfold partsG
    rw [List.length_map]
    exact Nat.le_trans (List.length_filter_le _ _) h.len
  · have hn := (mem_partsG hk).mp hn
    obtain ⟨a1, a2, a3⟩ := h.mul _ hn
    have h0 : 0 < n := pos_r hk a1
    have : n ≤ k * n := by
      have := Int.mul_le_mul_of_nonneg_right (show 1 ≤ k by omega) (by omega : 0 ≤ n)
      omega
    exact ⟨h0, by omega, (partsP_dvd h.pos hk).mpr a3⟩
  · have hn := (mem_partsG hk).mp hn
    rw [mem_partsG hk]
    obtain ⟨a1, a2, a3⟩ := h.mul _ hn
    obtain ⟨e, he⟩ := (partsP_dvd h.pos hk).mpr a3
    rw [he] at hdv hn
    have hpos := partsP_pos h.pos hk
    rw [Int.mul_ediv_cancel_left e (by omega)] at hdv
    have q1 : k * (partsP per k * d) = per * (c * d) := by
      rw [e3]; conv => lhs; rw [e2]
      conv => rhs; rw [e1]
      simp only [Int.mul_assoc, Int.mul_left_comm]
    have q2 : k * (partsP per k * e) = per * (c * e) := by
      rw [e3]; conv => lhs; rw [e2]
      conv => rhs; rw [e1]
      simp only [Int.mul_assoc, Int.mul_left_comm]
    rw [q1]
    rw [q2] at hn
    refine h.clo _ hn (c * d) (Int.mul_pos hc hd) ?_
    rw [Int.mul_ediv_cancel_left (c * e) (by have := h.pos; omega)]
    exact Int.mul_dvd_mul_left c hdv
/-! ### parts of parts, times of times -/
theorem parts_parts {per : Int} {gaps : List Int} (h : Wf per gaps) {k j : Int} (hk : 0 < k) (hj : 0 < j) : partsP (partsP per k) j = partsP per (k * j) ∧ partsG j (partsG k gaps) = partsG (k * j) gaps := by
  have hkj : 0 < k * j := Int.mul_pos hk hj
  constructor
  · -- two positive numbers with the same multiples
    have d : ∀ n, partsP (partsP per k) j ∣ n ↔ partsP per (k * j) ∣ n := fun n => by
      rw [partsP_dvd (partsP_pos h.pos hk) hj, partsP_dvd h.pos hk, partsP_dvd h.pos hkj, Int.mul_assoc]
    exact Int.dvd_antisymm (Int.le_of_lt (partsP_pos (partsP_pos h.pos hk) hj)) (Int.le_of_lt (partsP_pos h.pos hkj)) ((d _).mpr (Int.dvd_refl _)) ((d _).mp (Int.dvd_refl _))
  · refine sorted_ext (srt_partsG hj (srt_partsG hk h.srt)) (srt_partsG hkj h.srt) fun x => ?_
    rw [mem_partsG hj, mem_partsG hk, mem_partsG hkj, Int.mul_assoc]
theorem parts_times {per : Int} {gaps : List Int} (h : Wf per gaps) {k : Int} (hk : 0 < k) : partsP (k * per) k = per ∧ partsG k (gaps.map (k * ·)) = gaps := by
  have hp := Int.mul_pos hk h.pos
  constructor
  · have d : ∀ n, partsP (k * per) k ∣ n ↔ per ∣ n := fun n => by
      rw [partsP_dvd hp hk, Int.mul_dvd_mul_iff_left (by omega)]
    exact Int.dvd_antisymm (Int.le_of_lt (partsP_pos hp hk)) (Int.le_of_lt h.pos) ((d _).mpr (Int.dvd_refl _)) ((d _).mp (Int.dvd_refl _))
  · refine sorted_ext (srt_partsG hk (pw_map (fun a b q => Int.mul_lt_mul_of_pos_left q hk) h.srt)) h.srt fun x => ?_
    rw [mem_partsG hk]
    simp only [List.mem_map]
    constructor
    · rintro ⟨a, ha, e⟩
      have : a = x := Int.eq_of_mul_eq_mul_left (by omega) e
      rw [← this]; exact ha
    · exact fun hx => ⟨x, hx, rfl⟩
theorem times_times {gaps : List Int} {k j : Int} : (gaps.map (k * ·)).map (j * ·) = gaps.map ((k * j) * ·) := by
  rw [List.map_map]
  congr 1
  funext x
  show j * (k * x) = k * j * x
  simp only [Int.mul_assoc, Int.mul_left_comm]
/-- what both lengths(k) and these allow is the times of the parts -/
theorem both_mult {per : Int} {gaps : List Int} (h : Wf per gaps) {k : Int} (hk : 0 < k) : ((Int.lcm per k : Nat) : Int) = k * partsP per k ∧ gaps.filter (fun g => decide (g % ((Int.lcm per k : Nat) : Int) = 0)) = (partsG k gaps).map (k * ·) := by
  have hkp := Int.mul_pos hk (partsP_pos h.pos hk)
  have e : ((Int.lcm per k : Nat) : Int) = k * partsP per k := by
    refine Int.dvd_antisymm (by omega) (Int.le_of_lt hkp) ?_ ?_
    · refine Int.coe_lcm_dvd ?_ (Int.dvd_mul_right ..)
      exact (partsP_dvd h.pos hk).mp (Int.dvd_refl _)
    · obtain ⟨z, hz⟩ : k ∣ ((Int.lcm per k : Nat) : Int) := Int.dvd_lcm_right ..
      rw [hz, Int.mul_dvd_mul_iff_left (by omega), partsP_dvd h.pos hk, ← hz]
      exact Int.dvd_lcm_left ..
  refine ⟨e, ?_⟩
  refine sorted_ext (h.srt.filter _) (pw_map (fun a b q => Int.mul_lt_mul_of_pos_left q hk) (srt_partsG hk h.srt)) fun x => ?_
  simp only [List.mem_filter, List.mem_map, decide_eq_true_eq]
  constructor
  · rintro ⟨h1, h2⟩
    have h3 : k ∣ x := Int.dvd_trans (by rw [e]; exact Int.dvd_mul_right ..) (Int.dvd_of_emod_eq_zero h2)
    obtain ⟨z, rfl⟩ := h3
    exact ⟨z, (mem_partsG hk).mpr h1, rfl⟩
  · rintro ⟨z, hz, rfl⟩
    have h1 := (mem_partsG hk).mp hz
    refine ⟨h1, Int.emod_eq_zero_of_dvd ?_⟩
    rw [e, Int.mul_dvd_mul_iff_left (by omega), partsP_dvd h.pos hk]
    exact (h.mul _ h1).2.2
end K02

namespace K02
open PySem PySem.Spec L2 DL

local macro_rules | `(tactic| walk_at "dl") => `(tactic| first
  | ((with_reducible show WE _ _ (.Constant _ _ _) _ _ _); first | refine we_int ?_ | refine we_str ?_ | refine we_bl ?_ | refine we_non ?_)
  | ((with_reducible show WE _ _ (.Name _ _) _ _ _); first | refine we_var 0 rfl rfl ?_ | refine we_var 1 rfl rfl ?_ | refine we_var 2 rfl rfl ?_ | refine we_var 3 rfl rfl ?_ | refine we_var 4 rfl rfl ?_ | refine we_var 5 rfl rfl ?_ | refine we_var 6 rfl rfl ?_ | refine we_var 7 rfl rfl ?_ | refine we_var 8 rfl rfl ?_ | refine we_var 9 rfl rfl ?_ | refine we_var 10 rfl rfl ?_ | refine we_var 11 rfl rfl ?_ | refine we_var 12 rfl rfl ?_ | refine we_var 13 rfl rfl ?_ | refine we_var 14 rfl rfl ?_ | refine we_var 15 rfl rfl ?_)
  | ((with_reducible show WE _ _ (.BinOp _ _ _ _) _ _ _); refine we_bin ?_)
  | ((with_reducible show WE _ _ (.Compare _ [_] [_] _) _ _ _); refine we_cmp ?_)
  | ((with_reducible show WT _ _ (.Compare _ [_] [_] _) _ _ _); refine wt_cmp ?_)
  | ((with_reducible show WE _ _ (.UnaryOp .USub _ _) _ _ _); refine we_un ?_)
  | ((with_reducible show WT _ _ (.UnaryOp .Not _ _) _ _ _); refine wt_not ?_)
  | ((with_reducible show WE _ _ (.IfExp _ _ _ _) _ _ _); refine we_ifx ?_)
  | ((with_reducible show WE _ _ (.Subscript _ (.Name _ _) _) _ _ _); refine we_ix ?_)
  | ((with_reducible show WE _ _ (.Subscript _ (.Constant _ _ _) _) _ _ _); refine we_ix ?_)
  | ((with_reducible show WE _ _ (.Subscript _ (.Subscript _ _ _) _) _ _ _); refine we_ix ?_)
  | ((with_reducible show WE _ _ (.Subscript _ (.BinOp _ _ _ _) _) _ _ _); refine we_ix ?_)
  | ((with_reducible show WE _ _ (.Subscript _ (.UnaryOp _ _ _) _) _ _ _); refine we_ix ?_)
  | ((with_reducible show WE _ _ (.Subscript _ (.Call _ _ _ _) _) _ _ _); refine we_ix ?_)
  | ((with_reducible show WE _ _ (.Call (.Name "len" _) [_] [] _) _ _ _); refine we_b1 (by assumption) bb_len ?_)
  | ((with_reducible show WE _ _ (.Call (.Name "abs" _) [_] [] _) _ _ _); refine we_b1 (by assumption) bb_abs ?_)
  | ((with_reducible show WE _ _ (.Call (.Name "int" _) [_] [] _) _ _ _); refine we_t1 (by assumption) bb_int ?_)
  | ((with_reducible show WE _ _ (.Call (.Name "list" _) [_] [] _) _ _ _); refine we_t1 (by assumption) bb_list ?_)
  | ((with_reducible show WE _ _ (.Call (.Name "tuple" _) [_] [] _) _ _ _); refine we_t1 (by assumption) bb_tuple ?_)
  | ((with_reducible show WE _ _ (.Call (.Name "str" _) [_] [] _) _ _ _); refine we_t1 (by assumption) bb_str ?_)
  | ((with_reducible show WE _ _ (.Call (.Name "set" _) [_] [] _) _ _ _); refine we_t1 (by assumption) bb_set ?_)
  | ((with_reducible show WE _ _ (.Call (.Name "sorted" _) [_] [] _) _ _ _); refine we_b1 (by assumption) bb_sorted ?_)
  | ((with_reducible show WE _ _ (.Call (.Name "isinstance" _) [_, _] [] _) _ _ _); refine we_b2 (by assumption) bb_isinstance ?_)
  | ((with_reducible show WE _ _ (.Call (.Name "max" _) [_] [] _) _ _ _); refine we_b1 (by assumption) bb_max ?_)
  | ((with_reducible show WE _ _ (.Call (.Name "min" _) [_] [] _) _ _ _); refine we_b1 (by assumption) bb_min ?_)
  | ((with_reducible show WE _ _ (.Call (.Name "max" _) [_, _] [] _) _ _ _); refine we_b2 (by assumption) bb_max ?_)
  | ((with_reducible show WE _ _ (.Call (.Name "min" _) [_, _] [] _) _ _ _); refine we_b2 (by assumption) bb_min ?_)
  | ((with_reducible show BinG _ _ (binaryOp .Add) (.int _) (.int _) _ _); refine b_add ?_)
  | ((with_reducible show BinG _ _ (binaryOp .Sub) (.int _) (.int _) _ _); refine b_sub ?_)
  | ((with_reducible show BinG _ _ (binaryOp .Mod) (.int _) (.int _) _ _); refine b_mod (by omega) ?_)
  | ((with_reducible show BinG _ _ (binaryOp .FloorDiv) (.int _) (.int _) _ _); refine b_div ⟨by omega, by omega⟩ ?_)
  | ((with_reducible show BinG _ _ (binaryOp .Mult) (.int _) (.int _) _ _); first | refine b_mul (.inr ⟨by omega, by omega⟩) ?_ | refine b_mul (.inl ⟨by omega, by omega⟩) ?_)
  | ((with_reducible show BinG _ _ (compareOp .Lt) (.int _) (.int _) _ _); refine b_lt ?_)
  | ((with_reducible show BinG _ _ (compareOp .LtE) (.int _) (.int _) _ _); refine b_le ?_)
  | ((with_reducible show BinG _ _ (compareOp .Gt) (.int _) (.int _) _ _); refine b_gt ?_)
  | ((with_reducible show BinG _ _ (compareOp .GtE) (.int _) (.int _) _ _); refine b_ge ?_)
  | ((with_reducible show BinG _ _ (compareOp .Eq) (.int _) (.int _) _ _); refine b_eqI (by assumption) ?_)
  | ((with_reducible show BinG _ _ (compareOp .NotEq) (.int _) (.int _) _ _); refine b_neI (by assumption) ?_)
  | ((with_reducible show UnG _ _ (unaryOp .USub) (.int _) _ _); refine b_neg ?_)
  | (with_reducible refine ex_bl ?_)
  | ((with_reducible show CallG _ _ (.type "int") [.int _] _ _); refine c_int ?_)
  | ((with_reducible show CallG _ _ (.type "int") [.bl _] _ _); refine c_intB ?_)
  | ((with_reducible show CallG _ _ (.builtin "abs") _ _ _); refine c_abs ?_)
  | ((with_reducible show CallG _ _ (.builtin "len") [.lst _] _ _); refine c_len ?_)
  | ((with_reducible show CallG _ _ (.builtin "len") [.tup _] _ _); refine c_lenT ?_)
  | ((with_reducible show CallG _ _ (.builtin "len") [.raw _] _ _); refine c_lenM (by first | assumption | exact updM_same) ?_)
  | ((with_reducible show CallG _ _ (.type "list") [.tup _] _ _); refine c_listT ?_)
  | ((with_reducible show CallG _ _ (.type "tuple") [.lst _] _ _); refine c_tuple ?_)
  | ((with_reducible show CallG _ _ (.type "tuple") [.tup _] _ _); refine c_tupleT ?_)
  | ((with_reducible show CallG _ _ (.builtin "max") [.int _, .int _] _ _); refine c_max2 rfl ?_)
  | ((with_reducible show CallG _ _ (.builtin "min") [.int _, .int _] _ _); refine c_min2 rfl ?_)
  | ((with_reducible show IxG _ _ (.tup _) _ _ _); refine ix_tupD rfl ?_)
  | ((with_reducible show IxG _ _ (.raw _) _ _ _); refine ix_mlst (by first | assumption | exact updM_same) rfl ?_)
  | ((with_reducible show WA _ _ (_ :: _) _ _ _); refine wa_cons ?_)
  | ((with_reducible show WA _ _ [] _ _ _); refine wa_nil ?_))
section
variable {P : Program} {w : World} {K : PySem.W.Frag} {mg : Str → Option Value} {base : Heap}
/-! ### the checks of a Lengths -/
/-- a proper divisor of part that is not known -/
def LacksP (part period : Int) (kvs : List (Key × D)) : Prop := ∃ d, 0 < d ∧ d ∣ part ∧ d < part ∧ (getD kvs (.inl (period * d))).isSome = false
def spLacks : SpD := fun xs M Q => ∃ part period q kvs, xs = [.int part, .int period, .raw (.ref q)] ∧ M q = some (.dct kvs) ∧ 0 < part ∧ part ≤ 100000000 ∧ 0 < period ∧ period ≤ 100000 ∧
  ∀ r : Bool, (r = true ↔ LacksP part period kvs) → Q (.bl r) M
theorem sc_lacks : FnScope ["part", "period", "known", "divisor", "other"] ["part", "period", "known"] d__lacks_divisor.scope := ⟨rfl, rfl, rfl, by decide +kernel, rfl, by decide +kernel, by decide +kernel⟩
theorem cal_lacks (m : Md K mg base) : CalD P w K mg base 1 "_lacks_divisor" spLacks [] := by
  refine cal_of (d := d__lacks_divisor) rfl (fd__lacks_divisor m.c) (He.glo_ok m.i m.n (glo__lacks_divisor m.c)) sc_lacks (fun xs M Q ⟨a, b, c, d, e, _⟩ => by rw [e]; rfl) (fun _ _ _ _ _ _ us hl => match us, hl with | [_, _, _], _ => rfl) ?_
  rintro cdv A outer s H E hr xs M Q ⟨part, period, q, kvs, rfl, hq, h1, h2, h3, h4, hQ⟩
  have nd := sc_lacks.nd
  have hu : (cx0 P w K mg base ["part", "period", "known", "divisor", "other"] d__lacks_divisor.qual d__lacks_divisor.scope (He.fAd K d__lacks_divisor.at_) cdv A outer s H E).A.units + 1 < cLine := by have := hr.units; omega
  have yes : ∀ d, 0 < d → d ∣ part → d < part → (getD kvs (.inl (period * d))).isSome = false → Q (.bl true) M := fun d a b c e => hQ true ⟨fun _ => ⟨d, a, b, c, e⟩, fun _ => rfl⟩
  refine wss_cons (ws_set 3 nd rfl (we_int ?_))
  refine wss_cons (ws_while (fun n ds1 M1 => ∃ (dv : Int) (o : Option D), ds1 = [some (.int part), some (.int period), some (.raw (.ref q)), some (.int dv), o] ∧ M1 = M ∧ 1 ≤ dv ∧ n = (part + 2 - dv).toNat ∧ dv ≤ part + 1 ∧
    ∀ d, 0 < d → d < dv → d ∣ part → (d < part → (getD kvs (.inl (period * d))).isSome = true) ∧ (part / d < part → (getD kvs (.inl (period * (part / d)))).isSome = true)) PassesOwn.never ⟨_, 1, none, rfl, rfl, Int.le_refl _, rfl, by omega, fun d a b => by omega⟩ ?_)
  rintro n ds1 M1 ⟨dv, o, rfl, rfl, hd1, rfl, hd2, hseen⟩
  repeat walk_at "dl"
  refine ⟨fun h => ?_, fun h => wss_one (ws_ret (we_bl (hQ false ⟨fun z => (by cases z), fun ⟨d, a, b, c, e⟩ => ?_⟩)))⟩
  · have hdd : dv * dv ≤ part := of_decide_eq_true h
    have hdp : dv ≤ part := by
      have := Int.mul_le_mul_of_nonneg_right hd1 (by omega : 0 ≤ dv)
      omega
    refine wss_cut (fun ds1 M2 => ∃ o : Option D, ds1 = [some (.int part), some (.int period), some (.raw (.ref q)), some (.int dv), o] ∧ M2 = M1 ∧ (dv ∣ part → (dv < part → (getD kvs (.inl (period * dv))).isSome = true) ∧ (part / dv < part → (getD kvs (.inl (period * (part / dv)))).isSome = true))) (ws_if ?_) ?_
    · repeat walk_at "dl"
      refine ⟨fun hm => ?_, fun hm => wss_nil ⟨o, rfl, rfl, fun hd => absurd (Int.emod_eq_zero_of_dvd hd) (of_decide_eq_false hm)⟩⟩
      have hdv : dv ∣ part := Int.dvd_of_emod_eq_zero (of_decide_eq_true hm)
      obtain ⟨ot, hot⟩ := hdv
      have hot0 : 0 < ot := by
        refine pos_r (a := dv) (by omega) ?_
        rw [← hot]; exact h1
      have eot : part / dv = ot := by rw [hot]; exact Int.mul_ediv_cancel_left ot (by omega)
      have hoe : ot ∣ part := ⟨dv, by rw [hot, Int.mul_comm]⟩
      have hole : ot ≤ part := by
        rw [hot]
        have := Int.mul_le_mul_of_nonneg_right hd1 (by omega : 0 ≤ ot)
        omega
      refine wss_cut (fun ds1 M2 => ds1 = [some (.int part), some (.int period), some (.raw (.ref q)), some (.int dv), o] ∧ M2 = M1 ∧ (dv < part → (getD kvs (.inl (period * dv))).isSome = true)) (ws_if (wt_w (ww_and ?_))) ?_
      · repeat walk_at "dl"
        refine ⟨fun hlt => ?_, fun hlt => ⟨fun z => (by cases z), fun _ => wss_nil ⟨rfl, rfl, fun z => absurd z (of_decide_eq_false hlt)⟩⟩⟩
        refine ww_and1 (wt_dnotin hu ?_)
        repeat walk_at "dl"
        refine ⟨.inl (period * dv), kvs, rfl, .inr ⟨q, rfl, hq⟩, fun hn => ?_, fun hn => wss_nil ⟨rfl, rfl, fun _ => by simpa using hn⟩⟩
        exact wss_one (ws_ret (we_bl (yes dv (by omega) ⟨ot, hot⟩ (of_decide_eq_true hlt) (by simpa using hn))))
      · rintro ds1 M2 ⟨rfl, rfl, hs1⟩
        refine wss_cons (ws_set 4 nd rfl ?_)
        repeat walk_at "dl"
        rw [eot]
        refine wss_one (ws_if (wt_w (ww_and ?_)))
        repeat walk_at "dl"
        refine ⟨fun hlt => ?_, fun hlt => ⟨fun z => (by cases z), fun _ => wss_nil ⟨_, rfl, rfl, fun _ => ⟨hs1, fun z => absurd z (of_decide_eq_false hlt)⟩⟩⟩⟩
        refine ww_and1 (wt_dnotin hu ?_)
        repeat walk_at "dl"
        refine ⟨.inl (period * ot), kvs, rfl, .inr ⟨q, rfl, hq⟩, fun hn => ?_, fun hn => wss_nil ⟨_, rfl, rfl, fun _ => ⟨hs1, fun _ => by simpa using hn⟩⟩⟩
        exact wss_one (ws_ret (we_bl (yes ot hot0 hoe (of_decide_eq_true hlt) (by simpa using hn))))
    · rintro ds1 M2 ⟨o2, rfl, rfl, hnew⟩
      refine wss_one (ws_aug 3 nd rfl rfl (we_int (bi_add ?_)))
      refine ⟨_, by omega, dv + 1, o2, rfl, rfl, by omega, rfl, by omega, fun d a b c => ?_⟩
      by_cases hd : d < dv
      · exact hseen d a hd c
      · obtain rfl : d = dv := by omega
        exact hnew c
  · have hdd : ¬ dv * dv ≤ part := of_decide_eq_false h
    obtain ⟨k, hk⟩ := b
    have hk0 : 0 < k := pos_r (a := d) a (by rw [← hk]; exact h1)
    have ek : part / k = d := by rw [hk]; exact Int.mul_ediv_cancel d (by omega)
    have : (getD kvs (.inl (period * d))).isSome = true := by
      by_cases hd : d < dv
      · exact (hseen d a hd ⟨k, hk⟩).1 c
      · have hk2 : k < dv := by
          refine Int.not_le.mp fun h5 => hdd ?_
          rw [hk]
          exact Int.mul_le_mul (by omega) h5 (by omega) (by omega)
        have := (hseen k hk0 hk2 ⟨d, by rw [hk, Int.mul_comm]⟩).2
        rw [ek] at this
        exact this c
    rw [this] at e
    cases e
end
end K02

namespace K02
open PySem PySem.Spec L2 DL

local macro_rules | `(tactic| walk_at "dl") => `(tactic| first
  | ((with_reducible show WE _ _ (.Constant _ _ _) _ _ _); first | refine we_int ?_ | refine we_str ?_ | refine we_bl ?_ | refine we_non ?_)
  | ((with_reducible show WE _ _ (.Name _ _) _ _ _); first | refine we_var 0 rfl rfl ?_ | refine we_var 1 rfl rfl ?_ | refine we_var 2 rfl rfl ?_ | refine we_var 3 rfl rfl ?_ | refine we_var 4 rfl rfl ?_ | refine we_var 5 rfl rfl ?_ | refine we_var 6 rfl rfl ?_ | refine we_var 7 rfl rfl ?_ | refine we_var 8 rfl rfl ?_ | refine we_var 9 rfl rfl ?_ | refine we_var 10 rfl rfl ?_ | refine we_var 11 rfl rfl ?_ | refine we_var 12 rfl rfl ?_ | refine we_var 13 rfl rfl ?_ | refine we_var 14 rfl rfl ?_ | refine we_var 15 rfl rfl ?_)
  | ((with_reducible show WE _ _ (.BinOp _ _ _ _) _ _ _); refine we_bin ?_)
  | ((with_reducible show WE _ _ (.Compare _ [_] [_] _) _ _ _); refine we_cmp ?_)
  | ((with_reducible show WT _ _ (.Compare _ [_] [_] _) _ _ _); refine wt_cmp ?_)
  | ((with_reducible show WE _ _ (.UnaryOp .USub _ _) _ _ _); refine we_un ?_)
  | ((with_reducible show WT _ _ (.UnaryOp .Not _ _) _ _ _); refine wt_not ?_)
  | ((with_reducible show WE _ _ (.IfExp _ _ _ _) _ _ _); refine we_ifx ?_)
  | ((with_reducible show WE _ _ (.Subscript _ (.Name _ _) _) _ _ _); refine we_ix ?_)
  | ((with_reducible show WE _ _ (.Subscript _ (.Constant _ _ _) _) _ _ _); refine we_ix ?_)
  | ((with_reducible show WE _ _ (.Subscript _ (.Subscript _ _ _) _) _ _ _); refine we_ix ?_)
  | ((with_reducible show WE _ _ (.Subscript _ (.BinOp _ _ _ _) _) _ _ _); refine we_ix ?_)
  | ((with_reducible show WE _ _ (.Subscript _ (.UnaryOp _ _ _) _) _ _ _); refine we_ix ?_)
  | ((with_reducible show WE _ _ (.Subscript _ (.Call _ _ _ _) _) _ _ _); refine we_ix ?_)
  | ((with_reducible show WE _ _ (.Call (.Name "len" _) [_] [] _) _ _ _); refine we_b1 (by assumption) bb_len ?_)
  | ((with_reducible show WE _ _ (.Call (.Name "abs" _) [_] [] _) _ _ _); refine we_b1 (by assumption) bb_abs ?_)
  | ((with_reducible show WE _ _ (.Call (.Name "int" _) [_] [] _) _ _ _); refine we_t1 (by assumption) bb_int ?_)
  | ((with_reducible show WE _ _ (.Call (.Name "list" _) [_] [] _) _ _ _); refine we_t1 (by assumption) bb_list ?_)
  | ((with_reducible show WE _ _ (.Call (.Name "tuple" _) [_] [] _) _ _ _); refine we_t1 (by assumption) bb_tuple ?_)
  | ((with_reducible show WE _ _ (.Call (.Name "str" _) [_] [] _) _ _ _); refine we_t1 (by assumption) bb_str ?_)
  | ((with_reducible show WE _ _ (.Call (.Name "set" _) [_] [] _) _ _ _); refine we_t1 (by assumption) bb_set ?_)
  | ((with_reducible show WE _ _ (.Call (.Name "sorted" _) [_] [] _) _ _ _); refine we_b1 (by assumption) bb_sorted ?_)
  | ((with_reducible show WE _ _ (.Call (.Name "isinstance" _) [_, _] [] _) _ _ _); refine we_b2 (by assumption) bb_isinstance ?_)
  | ((with_reducible show WE _ _ (.Call (.Name "max" _) [_] [] _) _ _ _); refine we_b1 (by assumption) bb_max ?_)
  | ((with_reducible show WE _ _ (.Call (.Name "min" _) [_] [] _) _ _ _); refine we_b1 (by assumption) bb_min ?_)
  | ((with_reducible show WE _ _ (.Call (.Name "max" _) [_, _] [] _) _ _ _); refine we_b2 (by assumption) bb_max ?_)
  | ((with_reducible show WE _ _ (.Call (.Name "min" _) [_, _] [] _) _ _ _); refine we_b2 (by assumption) bb_min ?_)
  | ((with_reducible show BinG _ _ (binaryOp .Add) (.int _) (.int _) _ _); refine b_add ?_)
  | ((with_reducible show BinG _ _ (binaryOp .Sub) (.int _) (.int _) _ _); refine b_sub ?_)
  | ((with_reducible show BinG _ _ (binaryOp .Mod) (.int _) (.int _) _ _); refine b_mod (by omega) ?_)
  | ((with_reducible show BinG _ _ (binaryOp .FloorDiv) (.int _) (.int _) _ _); refine b_div ⟨by omega, by omega⟩ ?_)
  | ((with_reducible show BinG _ _ (binaryOp .Mult) (.int _) (.int _) _ _); first | refine b_mul (.inr ⟨by omega, by omega⟩) ?_ | refine b_mul (.inl ⟨by omega, by omega⟩) ?_)
  | ((with_reducible show BinG _ _ (compareOp .Lt) (.int _) (.int _) _ _); refine b_lt ?_)
  | ((with_reducible show BinG _ _ (compareOp .LtE) (.int _) (.int _) _ _); refine b_le ?_)
  | ((with_reducible show BinG _ _ (compareOp .Gt) (.int _) (.int _) _ _); refine b_gt ?_)
  | ((with_reducible show BinG _ _ (compareOp .GtE) (.int _) (.int _) _ _); refine b_ge ?_)
  | ((with_reducible show BinG _ _ (compareOp .Eq) (.int _) (.int _) _ _); refine b_eqI (by assumption) ?_)
  | ((with_reducible show BinG _ _ (compareOp .NotEq) (.int _) (.int _) _ _); refine b_neI (by assumption) ?_)
  | ((with_reducible show UnG _ _ (unaryOp .USub) (.int _) _ _); refine b_neg ?_)
  | (with_reducible refine ex_bl ?_)
  | ((with_reducible show CallG _ _ (.type "int") [.int _] _ _); refine c_int ?_)
  | ((with_reducible show CallG _ _ (.type "int") [.bl _] _ _); refine c_intB ?_)
  | ((with_reducible show CallG _ _ (.builtin "abs") _ _ _); refine c_abs ?_)
  | ((with_reducible show CallG _ _ (.builtin "len") [.lst _] _ _); refine c_len ?_)
  | ((with_reducible show CallG _ _ (.builtin "len") [.tup _] _ _); refine c_lenT ?_)
  | ((with_reducible show CallG _ _ (.builtin "len") [.raw _] _ _); refine c_lenM (by first | assumption | exact updM_same) ?_)
  | ((with_reducible show CallG _ _ (.type "list") [.tup _] _ _); refine c_listT ?_)
  | ((with_reducible show CallG _ _ (.type "tuple") [.lst _] _ _); refine c_tuple ?_)
  | ((with_reducible show CallG _ _ (.type "tuple") [.tup _] _ _); refine c_tupleT ?_)
  | ((with_reducible show CallG _ _ (.builtin "max") [.int _, .int _] _ _); refine c_max2 rfl ?_)
  | ((with_reducible show CallG _ _ (.builtin "min") [.int _, .int _] _ _); refine c_min2 rfl ?_)
  | ((with_reducible show IxG _ _ (.tup _) _ _ _); refine ix_tupD rfl ?_)
  | ((with_reducible show IxG _ _ (.raw _) _ _ _); refine ix_mlst (by first | assumption | exact updM_same) rfl ?_)
  | ((with_reducible show WA _ _ (_ :: _) _ _ _); refine wa_cons ?_)
  | ((with_reducible show WA _ _ [] _ _ _); refine wa_nil ?_))
section
variable {P : Program} {w : World} {K : PySem.W.Frag} {mg : Str → Option Value} {base : Heap}
/-- the numbers as they may be told -/
structure Wg (per : Int) (gaps : List Int) : Prop where
  pos : 0 < per
  perB : per ≤ 100000
  srt : gaps.Pairwise (· < ·)
  len : gaps.length ≤ 1000
  mul : ∀ g ∈ gaps, 0 < g ∧ g ≤ 100000000
/-- g breaks no condition -/
def OkG (per : Int) (gaps : List Int) (g : Int) : Prop := per ∣ g ∧ ∀ d, 0 < d → d ∣ g / per → d < g / per → per * d ∈ gaps
def spWrong : SpD := fun xs M Q => ∃ (per : Int) (gaps : List Int), xs = [.int per, .lst (gaps.map D.int)] ∧ Wg per gaps ∧ ((∀ g ∈ gaps, OkG per gaps g) → Q .non M) ∧ ∀ a g b, gaps = a ++ g :: b → (∀ x ∈ a, OkG per gaps x) → ¬ OkG per gaps g → Q (.int g) M
theorem sc_wrong : FnScope ["period", "gaps", "known", "gap"] ["period", "gaps"] d__wrong_gap.scope := ⟨rfl, rfl, rfl, by decide +kernel, rfl, by decide +kernel, by decide +kernel⟩
theorem getD_put {kvs : List (Key × D)} {k j : Key} {v : D} : getD (putD kvs k v) j = if j = k then some v else getD kvs j := by
  unfold getD putD
  by_cases h : (kvs.any fun kv => decide (kv.1 = k)) = true
  · rw [if_pos h]
    induction kvs with
    | nil => simp at h
    | cons p r ih =>
      obtain ⟨a, b⟩ := p
      by_cases e : a = k
      · subst e
        by_cases e2 : j = a
        · subst e2; simp
        · have e3 : ¬ a = j := fun q => e2 q.symm
          simp only [List.map_cons, if_true, List.find?_cons, decide_eq_false e3, if_neg e2]
          by_cases h2 : (r.any fun kv => decide (kv.1 = a)) = true
          · have := ih h2
            rw [if_neg e2] at this
            exact this
          · have : r.map (fun kv => if kv.1 = a then (kv.1, v) else kv) = r := by
              conv => rhs; rw [← List.map_id r]
              refine List.map_congr_left fun x hx => ?_
              rw [if_neg fun q => h2 (List.any_eq_true.mpr ⟨x, hx, decide_eq_true q⟩)]
              rfl
            rw [this]
      · have h2 : (r.any fun kv => decide (kv.1 = k)) = true := by
          rw [List.any_cons, decide_eq_false e, Bool.false_or] at h
          exact h
        have := ih h2
        simp only [List.map_cons, if_neg e, List.find?_cons]
        by_cases e2 : a = j
        · subst e2
          simp [e]
        · simp only [decide_eq_false e2]
          exact this
  · rw [if_neg h]
    have hn : ∀ x ∈ kvs, ¬ x.1 = k := fun x hx q => h (List.any_eq_true.mpr ⟨x, hx, decide_eq_true q⟩)
    rw [List.find?_append]
    by_cases e : j = k
    · subst e
      have : kvs.find? (fun kv => decide (kv.1 = j)) = none := List.find?_eq_none.mpr fun x hx => by simp [hn x hx]
      rw [this]
      simp
    · rw [if_neg e]
      have e3 : ¬ k = j := fun q => e q.symm
      simp [e3]
theorem cal_wrong (m : Md K mg base) : CalD P w K mg base 2 "_wrong_gap" spWrong [] := by
  refine cal_of (d := d__wrong_gap) rfl (fd__wrong_gap m.c) (He.glo_ok m.i m.n (glo__wrong_gap m.c)) sc_wrong (fun xs M Q ⟨a, b, e, _⟩ => by rw [e]; rfl) (fun _ _ _ _ _ _ us hl => match us, hl with | [_, _], _ => rfl) ?_
  rintro cdv A outer s H E hr xs M Q ⟨per, gaps, rfl, wf, hQ, hW⟩
  have nd := sc_wrong.nd
  have hu : (cx0 P w K mg base ["period", "gaps", "known", "gap"] d__wrong_gap.qual d__wrong_gap.scope (He.fAd K d__wrong_gap.at_) cdv A outer s H E).A.units + 1 < cLine := by have := hr.units; omega
  have hper := wf.pos
  have hperB := wf.perB
  refine wss_cons (ws_set 2 nd rfl (we_dictM fun q hq => ?_))
  refine wss_cut (fun ds1 M1 => ∃ kvs o, ds1 = [some (.int per), some (.lst (gaps.map D.int)), some (.raw (.ref q)), o] ∧ M1 = updM M q (.dct kvs) ∧ ∀ g ∈ gaps, OkG per gaps g) (ws_forL (.nm 3) gaps D.int
    (fun r ds1 M1 => ∃ dn kvs o, gaps = dn ++ r ∧ ds1 = [some (.int per), some (.lst (gaps.map D.int)), some (.raw (.ref q)), o] ∧ M1 = updM M q (.dct kvs) ∧ (∀ x, (getD kvs (.inl x)).isSome = true ↔ x ∈ dn) ∧ kvs.length ≤ dn.length ∧ ∀ x ∈ dn, OkG per gaps x) PassesOwn.never rfl (pg_name nd rfl (Or.inl rfl)) ?_ ?_ ?_) ?_
  · refine wi_list (we_var 1 rfl rfl ⟨_, rfl, fun hz => ⟨li_map gaps D.int, [], [], none, rfl, rfl, rfl, fun x => ⟨fun h => (by cases h), fun hx => (by cases hx)⟩, Nat.le_refl _, fun x hx => (by cases hx)⟩⟩)
  · rintro ds1 M1 ⟨dn, kvs, o, hg, rfl, rfl, _, _, hok⟩
    rw [List.append_nil] at hg
    exact ⟨kvs, o, rfl, rfl, fun g h => hok g (hg ▸ h)⟩
  · rintro y r ds1 M1 ⟨dn, kvs, o, hg, rfl, rfl, hk, hl, hok⟩
    have hy : y ∈ gaps := by rw [hg]; simp
    obtain ⟨y1, y2⟩ := wf.mul y hy
    have hlen := wf.len
    have hdl : dn.length + r.length + 1 ≤ 1000 := by rw [hg] at hlen; simp at hlen; omega
    have hbad : ¬ OkG per gaps y → Q (.int y) M := hW dn y r hg hok
    refine ⟨_, rfl, wss_cons (ws_if (wt_w (ww_or ?_)))⟩
    repeat walk_at "dl"
    refine ⟨fun h => ⟨fun _ => ?_, fun z => (by cases z)⟩, fun h => ww_or1 (wt_truth (we_cal (cal_lacks m) hr (by decide) ?_))⟩
    · refine wss_forget (p := q) updM_same ?_
      rw [delM_updM' hq]
      refine wss_one (ws_ret (we_var 3 rfl rfl (hbad fun hk => ?_)))
      have : y % per = 0 := Int.emod_eq_zero_of_dvd hk.1
      rw [this] at h
      cases h
    · have hm0 : y % per = 0 := by simpa using h
      obtain ⟨z, hz⟩ := Int.dvd_of_emod_eq_zero hm0
      have hz0 : 0 < z := pos_r (a := per) (by omega) (by rw [← hz]; exact y1)
      have ez : y / per = z := by rw [hz]; exact Int.mul_ediv_cancel_left z (by omega)
      have hzy : z ≤ y := by
        rw [hz]
        have := Int.mul_le_mul_of_nonneg_right (show 1 ≤ per by omega) (by omega : 0 ≤ z)
        omega
      have hin : ∀ d, d < z → (per * d ∈ gaps ↔ per * d ∈ dn) := fun d hd => by
        have h6 : per * d < y := by rw [hz]; exact Int.mul_lt_mul_of_pos_left hd hper
        rw [hg]
        have srt := wf.srt
        rw [hg, List.pairwise_append] at srt
        refine ⟨fun h => ?_, fun h => List.mem_append_left _ h⟩
        rcases List.mem_append.mp h with h7 | h7
        · exact h7
        · rcases List.mem_cons.mp h7 with h8 | h8
          · omega
          · have := (List.pairwise_cons.mp srt.2.1).1 _ h8
            omega
      have key : LacksP z per kvs ↔ ¬ OkG per gaps y := by
        constructor
        · rintro ⟨d, d1, d2, d3, d4⟩ hok'
          have h5 := hok'.2 d d1 (by rw [ez]; exact d2) (by rw [ez]; exact d3)
          rw [(hk _).mpr ((hin d d3).mp h5)] at d4
          cases d4
        · intro hno
          refine Classical.byContradiction fun hlk => hno ⟨⟨z, hz⟩, fun d d1 d2 d3 => ?_⟩
          rw [ez] at d2 d3
          refine (hin d d3).mpr ((hk _).mp ?_)
          cases e : (getD kvs (.inl (per * d))).isSome with
          | true => rfl
          | false => exact absurd ⟨d, d1, d2, d3, e⟩ hlk
      repeat walk_at "dl"
      rw [ez]
      refine ⟨z, per, q, kvs, rfl, updM_same, hz0, by omega, hper, hperB, fun t ht => tru_is rfl ⟨fun h => ?_, fun h => wss_nil ?_⟩⟩
      · refine wss_forget (p := q) updM_same ?_
        rw [delM_updM' hq]
        exact wss_one (ws_ret (we_var 3 rfl rfl (hbad (key.mp (ht.mp h)))))
      · have hgood : OkG per gaps y := Classical.byContradiction fun hno => by
          rw [ht.mpr (key.mpr hno)] at h
          cases h
        refine wss_one (ws_dput hu (we_bl (we_var 2 rfl rfl (we_var 3 rfl rfl ⟨.inl y, kvs, q, rfl, rfl, updM_same, by have : sizeLine = 16777216 := sizeLine_eq; omega, ?_⟩))))
        rw [updM_updM]
        refine ⟨dn ++ [y], putD kvs (.inl y) (.bl true), _, by rw [hg]; simp, rfl, rfl, fun x => ?_, ?_, fun x hx => ?_⟩
        · rw [getD_put]
          by_cases e : (Sum.inl x : Key) = .inl y
          · rw [if_pos e]
            cases e
            simp
          · rw [if_neg e, hk x, List.mem_append]
            refine ⟨.inl, fun h => ?_⟩
            rcases h with h | h
            · exact h
            · exact absurd (by rw [List.mem_singleton.mp h]) e
        · have := dct_len kvs (.inl y) (.bl true)
          simp; omega
        · rcases List.mem_append.mp hx with h7 | h7
          · exact hok x h7
          · rw [List.mem_singleton.mp h7]; exact hgood
  · rintro ds1 M1 ⟨kvs, o, rfl, rfl, hall⟩
    refine wss_forget (p := q) updM_same ?_
    rw [delM_updM' hq]
    exact wss_one (ws_ret (we_non (hQ hall)))
theorem nodup_keys {gaps : List Int} (h : gaps.Pairwise (· < ·)) : (gaps.map fun g : Int => (Sum.inl g : Key)).Nodup := by
  unfold List.Nodup
  rw [List.pairwise_map]
  exact h.imp fun {a b} q e => by cases e; omega

end
end K02

namespace K02
open PySem PySem.Spec L2 DL

local macro_rules | `(tactic| walk_at "dl") => `(tactic| first
  | ((with_reducible show WE _ _ (.Constant _ _ _) _ _ _); first | refine we_int ?_ | refine we_str ?_ | refine we_bl ?_ | refine we_non ?_)
  | ((with_reducible show WE _ _ (.Name _ _) _ _ _); first | refine we_var 0 rfl rfl ?_ | refine we_var 1 rfl rfl ?_ | refine we_var 2 rfl rfl ?_ | refine we_var 3 rfl rfl ?_ | refine we_var 4 rfl rfl ?_ | refine we_var 5 rfl rfl ?_ | refine we_var 6 rfl rfl ?_ | refine we_var 7 rfl rfl ?_ | refine we_var 8 rfl rfl ?_ | refine we_var 9 rfl rfl ?_ | refine we_var 10 rfl rfl ?_ | refine we_var 11 rfl rfl ?_ | refine we_var 12 rfl rfl ?_ | refine we_var 13 rfl rfl ?_ | refine we_var 14 rfl rfl ?_ | refine we_var 15 rfl rfl ?_)
  | ((with_reducible show WE _ _ (.BinOp _ _ _ _) _ _ _); refine we_bin ?_)
  | ((with_reducible show WE _ _ (.Compare _ [_] [_] _) _ _ _); refine we_cmp ?_)
  | ((with_reducible show WT _ _ (.Compare _ [_] [_] _) _ _ _); refine wt_cmp ?_)
  | ((with_reducible show WE _ _ (.UnaryOp .USub _ _) _ _ _); refine we_un ?_)
  | ((with_reducible show WT _ _ (.UnaryOp .Not _ _) _ _ _); refine wt_not ?_)
  | ((with_reducible show WE _ _ (.IfExp _ _ _ _) _ _ _); refine we_ifx ?_)
  | ((with_reducible show WE _ _ (.Subscript _ (.Name _ _) _) _ _ _); refine we_ix ?_)
  | ((with_reducible show WE _ _ (.Subscript _ (.Constant _ _ _) _) _ _ _); refine we_ix ?_)
  | ((with_reducible show WE _ _ (.Subscript _ (.Subscript _ _ _) _) _ _ _); refine we_ix ?_)
  | ((with_reducible show WE _ _ (.Subscript _ (.BinOp _ _ _ _) _) _ _ _); refine we_ix ?_)
  | ((with_reducible show WE _ _ (.Subscript _ (.UnaryOp _ _ _) _) _ _ _); refine we_ix ?_)
  | ((with_reducible show WE _ _ (.Subscript _ (.Call _ _ _ _) _) _ _ _); refine we_ix ?_)
  | ((with_reducible show WE _ _ (.Call (.Name "len" _) [_] [] _) _ _ _); refine we_b1 (by assumption) bb_len ?_)
  | ((with_reducible show WE _ _ (.Call (.Name "abs" _) [_] [] _) _ _ _); refine we_b1 (by assumption) bb_abs ?_)
  | ((with_reducible show WE _ _ (.Call (.Name "int" _) [_] [] _) _ _ _); refine we_t1 (by assumption) bb_int ?_)
  | ((with_reducible show WE _ _ (.Call (.Name "list" _) [_] [] _) _ _ _); refine we_t1 (by assumption) bb_list ?_)
  | ((with_reducible show WE _ _ (.Call (.Name "tuple" _) [_] [] _) _ _ _); refine we_t1 (by assumption) bb_tuple ?_)
  | ((with_reducible show WE _ _ (.Call (.Name "str" _) [_] [] _) _ _ _); refine we_t1 (by assumption) bb_str ?_)
  | ((with_reducible show WE _ _ (.Call (.Name "set" _) [_] [] _) _ _ _); refine we_t1 (by assumption) bb_set ?_)
  | ((with_reducible show WE _ _ (.Call (.Name "sorted" _) [_] [] _) _ _ _); refine we_b1 (by assumption) bb_sorted ?_)
  | ((with_reducible show WE _ _ (.Call (.Name "isinstance" _) [_, _] [] _) _ _ _); refine we_b2 (by assumption) bb_isinstance ?_)
  | ((with_reducible show WE _ _ (.Call (.Name "max" _) [_] [] _) _ _ _); refine we_b1 (by assumption) bb_max ?_)
  | ((with_reducible show WE _ _ (.Call (.Name "min" _) [_] [] _) _ _ _); refine we_b1 (by assumption) bb_min ?_)
  | ((with_reducible show WE _ _ (.Call (.Name "max" _) [_, _] [] _) _ _ _); refine we_b2 (by assumption) bb_max ?_)
  | ((with_reducible show WE _ _ (.Call (.Name "min" _) [_, _] [] _) _ _ _); refine we_b2 (by assumption) bb_min ?_)
  | ((with_reducible show BinG _ _ (binaryOp .Add) (.int _) (.int _) _ _); refine b_add ?_)
  | ((with_reducible show BinG _ _ (binaryOp .Sub) (.int _) (.int _) _ _); refine b_sub ?_)
  | ((with_reducible show BinG _ _ (binaryOp .Mod) (.int _) (.int _) _ _); refine b_mod (by omega) ?_)
  | ((with_reducible show BinG _ _ (binaryOp .FloorDiv) (.int _) (.int _) _ _); refine b_div ⟨by omega, by omega⟩ ?_)
  | ((with_reducible show BinG _ _ (binaryOp .Mult) (.int _) (.int _) _ _); first | refine b_mul (.inr ⟨by omega, by omega⟩) ?_ | refine b_mul (.inl ⟨by omega, by omega⟩) ?_)
  | ((with_reducible show BinG _ _ (compareOp .Lt) (.int _) (.int _) _ _); refine b_lt ?_)
  | ((with_reducible show BinG _ _ (compareOp .LtE) (.int _) (.int _) _ _); refine b_le ?_)
  | ((with_reducible show BinG _ _ (compareOp .Gt) (.int _) (.int _) _ _); refine b_gt ?_)
  | ((with_reducible show BinG _ _ (compareOp .GtE) (.int _) (.int _) _ _); refine b_ge ?_)
  | ((with_reducible show BinG _ _ (compareOp .Eq) (.int _) (.int _) _ _); refine b_eqI (by assumption) ?_)
  | ((with_reducible show BinG _ _ (compareOp .NotEq) (.int _) (.int _) _ _); refine b_neI (by assumption) ?_)
  | ((with_reducible show UnG _ _ (unaryOp .USub) (.int _) _ _); refine b_neg ?_)
  | (with_reducible refine ex_bl ?_)
  | ((with_reducible show CallG _ _ (.type "int") [.int _] _ _); refine c_int ?_)
  | ((with_reducible show CallG _ _ (.type "int") [.bl _] _ _); refine c_intB ?_)
  | ((with_reducible show CallG _ _ (.builtin "abs") _ _ _); refine c_abs ?_)
  | ((with_reducible show CallG _ _ (.builtin "len") [.lst _] _ _); refine c_len ?_)
  | ((with_reducible show CallG _ _ (.builtin "len") [.tup _] _ _); refine c_lenT ?_)
  | ((with_reducible show CallG _ _ (.builtin "len") [.raw _] _ _); refine c_lenM (by first | assumption | exact updM_same) ?_)
  | ((with_reducible show CallG _ _ (.type "list") [.tup _] _ _); refine c_listT ?_)
  | ((with_reducible show CallG _ _ (.type "tuple") [.lst _] _ _); refine c_tuple ?_)
  | ((with_reducible show CallG _ _ (.type "tuple") [.tup _] _ _); refine c_tupleT ?_)
  | ((with_reducible show CallG _ _ (.builtin "max") [.int _, .int _] _ _); refine c_max2 rfl ?_)
  | ((with_reducible show CallG _ _ (.builtin "min") [.int _, .int _] _ _); refine c_min2 rfl ?_)
  | ((with_reducible show IxG _ _ (.tup _) _ _ _); refine ix_tupD rfl ?_)
  | ((with_reducible show IxG _ _ (.raw _) _ _ _); refine ix_mlst (by first | assumption | exact updM_same) rfl ?_)
  | ((with_reducible show WA _ _ (_ :: _) _ _ _); refine wa_cons ?_)
  | ((with_reducible show WA _ _ [] _ _ _); refine wa_nil ?_))
section
variable {P : Program} {w : World} {K : PySem.W.Frag} {mg : Str → Option Value} {base : Heap}
abbrev CL (K : PySem.W.Frag) : Addr := He.ga K "Lengths"
abbrev CB (K : PySem.W.Frag) : Addr := He.ga K "BadLengths"
/-! ### the exception -/
def spKept : SpD := fun xs M Q => ∃ i, xs = [.int i] ∧ Q (.int i) M
theorem sc_kept : FnScope ["worth", "key"] ["worth"] d__kept.scope := ⟨rfl, rfl, rfl, by decide +kernel, rfl, by decide +kernel, by decide +kernel⟩
theorem cal_kept (m : Md K mg base) : CalD P w K mg base 1 "_kept" spKept [] := by
  refine cal_of (d := d__kept) rfl (fd__kept m.c) (He.glo_ok m.i m.n (glo__kept m.c)) sc_kept (fun xs M Q ⟨i, e, _⟩ => by rw [e]; rfl) (fun _ _ _ _ _ _ us hl => match us, hl with | [_], _ => rfl) ?_
  rintro cdv A outer s H E hr xs M Q ⟨i, rfl, hQ⟩
  have fi : mg "isinstance" = none := He.free_ok m.i m.n (free_isinstance m.c)
  have flist : mg "list" = none := He.free_ok m.i m.n (free_list m.c)
  have fdict : mg "dict" = none := He.free_ok m.i m.n (free_dict m.c)
  refine wss_cons (ws_if (wt_truth (we_b2 fi bb_isinstance (we_var 0 rfl rfl (we_bltn flist bb_list (v := .ty "list") rfl (fun _ => rp_raw) (c_isi (ClsV.ty "list") (show TyD K _ _ _ from rfl) rfl (tru_is rfl ⟨fun h => (by cases h), fun _ => wss_nil ?_⟩)))))))
  refine wss_cons (ws_if (wt_truth (we_b2 fi bb_isinstance (we_var 0 rfl rfl (we_bltn fdict bb_dict (v := .ty "dict") rfl (fun _ => rp_raw) (c_isi (ClsV.ty "dict") (show TyD K _ _ _ from rfl) rfl (tru_is rfl ⟨fun h => (by cases h), fun _ => wss_nil ?_⟩)))))))
  exact wss_one (ws_ret (we_var 0 rfl rfl hQ))
def spBad (C : Addr) : SpD := fun xs M Q => ∃ (a : Addr) (g : Int), xs = [.raw (.ref a), .int g] ∧ M a = some (.xo a C none) ∧ ∀ dx, M dx = none → dx ≠ a → Q .non (updM (updM M dx (.xf dx [("gap", .int g)])) a (.xo a C (some dx)))
theorem sc_bad : FnScope ["self", "gap"] ["self", "gap"] d_BadLengths___init__.scope := ⟨rfl, rfl, rfl, by decide +kernel, rfl, by decide +kernel, by decide +kernel⟩
theorem xmk_bad (m : Md K mg base) : XmkD P w K mg base 2 "BadLengths" (CB K) (spBad (CB K)) [] := by
  obtain ⟨fd, F⟩ := fd_BadLengths___init__ m.c
  have F' : FunD K d_BadLengths___init__.name d_BadLengths___init__.qual d_BadLengths___init__.params d_BadLengths___init__.body d_BadLengths___init__.scope [] (d_BadLengths___init__.kws K) (He.fAd K d_BadLengths___init__.at_) fd := F
  have hm := He.ba (meth_BadLengths___init__ m.c)
  have T : OexC K (CB K) := oex_of (ex_oex_BadLengths m.e)
  refine ⟨_, fd, _, [], [], fnD F sc_bad (fun xs M Q ⟨a, g, e, _⟩ => by rw [e]; rfl) ?_, He.eqO_ok hm.1, beq_iff_eq.mp (He.ba hm.2).1, T, He.glo_ok m.i m.n (glo_BadLengths m.c), F'.bindsN (fun _ _ _ _ _ _ us hl => match us, hl with | [_, _], _ => rfl), .nil, fun _ => RpL.nil⟩
  rintro cdv A outer s H E hr xs M Q ⟨a, g, rfl, hM, hQ⟩
  refine wss_one (ws_xst (we_cal (cal_kept m) hr (by decide) (wa1 (we_var 1 rfl rfl ⟨g, rfl, we_var 0 rfl rfl ⟨a, CB K, rfl, T, He.eqO_ok (noat_BadLengths_gap m.c), .inl ⟨hM, hQ⟩⟩⟩))))
/-! ### Lengths(..) -/
def lenF (per : Int) (gaps : List Int) : List (Str × D) := [("period", .int per), ("gaps", .tup (gaps.map D.int)), ("_known", .dct (gaps.map fun g => (.inl g, .bl true)))]
def spInit (K : PySem.W.Frag) : SpX := fun xs M Q QX => ∃ (q : Addr) (per : Int) (told : D) (ts gaps : List Int), xs = [.raw (.ref q), .int per, told] ∧ (told = .lst (ts.map D.int) ∨ told = .tup (ts.map D.int)) ∧ M q = some (.obj (CL K) []) ∧ Wg per gaps ∧ (∀ x, x ∈ ts ↔ x ∈ gaps) ∧ ts.length ≤ 4000 ∧
  ((∀ g ∈ gaps, OkG per gaps g) → Q .non (updM M q (.obj (CL K) (lenF per gaps)))) ∧ ∀ a g b, gaps = a ++ g :: b → (∀ x ∈ a, OkG per gaps x) → ¬ OkG per gaps g → QX (.ref (CB K)) [("gap", .int g)] (delM M q)
theorem sc_init : FnScope ["self", "period", "gaps", "ordered", "wrong", "gap"] ["self", "period", "gaps"] d_Lengths___init__.scope := ⟨rfl, rfl, rfl, by decide +kernel, rfl, by decide +kernel, by decide +kernel⟩
theorem del_bad {M : Mst} {a dx : Addr} {x y z : D} (h1 : M a = none) (h2 : M dx = none) (ne : dx ≠ a) : delM (delM (updM (updM (updM M a x) dx y) a z) a) dx = M := by
  funext b
  by_cases ha : b = a
  · subst ha
    rw [delM_ne (Ne.symm ne), delM_same, h1]
  · by_cases hd : b = dx
    · subst hd
      rw [delM_same, h2]
    · rw [delM_ne hd, delM_ne ha, updM_ne ha, updM_ne hd, updM_ne ha]
theorem ok_init (m : Md K mg base) {fd : FuncData} (F : FunD K d_Lengths___init__.name d_Lengths___init__.qual d_Lengths___init__.params d_Lengths___init__.body d_Lengths___init__.scope (d_Lengths___init__.dvs K) (d_Lengths___init__.kws K) (He.fAd K d_Lengths___init__.at_) fd) :
    FnOk P w K mg base (L2.CX P w) 4 (He.fAd K d_Lengths___init__.at_) fd ["self", "period", "gaps"] (toSpX K (spInit K)) := by
  refine fnX F sc_init (fun xs M Q QX ⟨a, b, c, d, g, e, _⟩ => by rw [e]; rfl) ?_
  rintro cdv A outer s H E Pm hr xs M Q QX ⟨q, per, told, ts, gaps, rfl, hto, hM, wf, hmem, hlen, hQ, hX⟩ tk
  have nd := sc_init.nd
  have fint : mg "int" = none := He.free_ok m.i m.n (free_int m.c)
  have fset : mg "set" = none := He.free_ok m.i m.n (free_set m.c)
  have fsorted : mg "sorted" = none := He.free_ok m.i m.n (free_sorted m.c)
  have ftuple : mg "tuple" = none := He.free_ok m.i m.n (free_tuple m.c)
  refine wss_cut (fun ds1 M1 => ds1 = [some (.raw (.ref q)), some (.int per), some told, some (.lst (gaps.map D.int)), none, none] ∧ M1 = M) (ws_set 3 nd rfl (we_b1 fsorted bb_sorted (we_t1 fset bb_set (we_lcM (.nm 5) ts D.int D.int rfl nd (own := [("gap", 5)]) (by kernel_rfl) (by decide) (fun s0 H0 C cl fp => pg_name nd rfl (Or.inl rfl)) ?_)))) ?_
  · have fin : ∀ ns' : List Int, ns'.Pairwise (· < ·) → (∀ k, k ∈ ns' ↔ k ∈ ts) → ns' = gaps := fun ns' h1 h2 => sorted_ext h1 wf.srt fun x => (h2 x).trans (hmem x)
    rcases hto with rfl | rfl
    · refine wi_list (we_var 2 rfl rfl ⟨_, rfl, fun hz => ⟨hz, li_map ts D.int, ?_, ?_⟩⟩)
      · intro c hc M' hs
        exact ⟨_, rfl, fun s0 H0 C cl fp => we_t1 fint bb_int (we_var 5 rfl rfl (c_int ⟨rfl, rfl⟩))⟩
      · exact c_set rfl hlen (c_sortedSetA rfl fun ns' h1 h2 => by rw [fin ns' h1 h2]; exact ⟨rfl, rfl⟩)
    · refine wi_tup (we_var 2 rfl rfl ⟨_, rfl, fun hz => ⟨hz, li_map ts D.int, ?_, ?_⟩⟩)
      · intro c hc M' hs
        exact ⟨_, rfl, fun s0 H0 C cl fp => we_t1 fint bb_int (we_var 5 rfl rfl (c_int ⟨rfl, rfl⟩))⟩
      · exact c_set rfl hlen (c_sortedSetA rfl fun ns' h1 h2 => by rw [fin ns' h1 h2]; exact ⟨rfl, rfl⟩)
  · rintro ds1 M1 ⟨rfl, rfl⟩
    have cl := He.cls_ok (cls_Lengths m.c)
    have n1 := He.noat_ok (noat_Lengths_period m.c)
    have n2 := He.noat_ok (noat_Lengths_gaps m.c)
    have n3 := He.noat_ok (noat_Lengths__known m.c)
    refine wss_cons (ws_set 4 nd rfl (we_cal (cal_wrong m) hr (by decide) (wa2 (we_var 1 rfl rfl (we_var 3 rfl rfl ⟨per, gaps, rfl, wf, fun hall => ?_, fun a g b hg ha hb => ?_⟩)))))
    · refine wss_cons (ws_if (wt_cmp (we_var 4 rfl rfl (we_non (b_notN (fun G v h => nonN h) ⟨_, rfl, fun h => (by cases h), fun _ => wss_nil ?_⟩)))))
      refine wss_cons (ws_fld (we_var 1 rfl rfl (we_var 0 rfl rfl ⟨q, _, [], rfl, hM, cl, n1, by decide, ?_⟩)))
      refine wss_cons (ws_fld (we_t1 ftuple bb_tuple (we_var 3 rfl rfl (c_tuple (we_var 0 rfl rfl ⟨q, _, _, rfl, updM_same, cl, n2, Nat.lt_of_le_of_lt (Nat.le_of_ble_eq_true rfl) (by decide : 5 < 1000), ?_⟩)))))
      rw [updM_updM]
      refine wss_one (ws_fld (we_dcP (.nm 5) gaps D.int (fun _ => true) (fun g => .inl g) (fun _ => .bl true) rfl nd (own := [("gap", 5)]) (blkOk_by (by kernel_rfl)) (by decide) (fun s0 H0 C cl fp => pg_name nd rfl (Or.inl rfl)) ?_))
      refine wi_list (we_var 3 rfl rfl ⟨_, rfl, fun hz => ⟨hz, li_map gaps D.int, ?_, ?_⟩⟩)
      · intro c hc M' hs
        exact ⟨_, rfl, fun s0 H0 C cl fp => wts_nil ⟨rfl, rfl⟩, fun _ => ⟨fun s0 H0 C cl fp => we_var 5 rfl rfl ⟨rfl, rfl⟩, fun s0 H0 C cl fp => we_bl ⟨rfl, rfl⟩⟩⟩
      · refine we_var 0 rfl rfl ⟨q, _, _, rfl, updM_same, cl, n3, Nat.lt_of_le_of_lt (Nat.le_of_ble_eq_true rfl) (by decide : 5 < 1000), ?_⟩
        rw [updM_updM, foldDc_map (fun g : Int => (Sum.inl g : Key)) (fun _ => D.bl true) gaps (nodup_keys wf.srt)]
        exact hQ hall
    · refine wss_cons (ws_if (wt_cmp (we_var 4 rfl rfl (we_non (b_notN (k := false) (fun G v h => nonI h) ⟨_, rfl, fun _ => ?_, fun h => (by cases h)⟩)))))
      · refine wss_forget (p := q) hM ?_
        refine wss_one (ws_raiseX (ED := fun _ => QX) (xmk_bad m) tk hr (by decide) (wa1 (we_var 4 rfl rfl ⟨by simp, fun a' ha' => ⟨a', g, rfl, updM_same, fun dx h1 h2 => ⟨rfl, dx, _, updM_same, by rw [updM_ne h2, updM_same], h2, by rw [updM_ne h2] at h1; exact h1, ?_⟩⟩⟩)))
        rw [del_bad ha' (by rw [updM_ne h2] at h1; exact h1) h2]
        exact hX a g b hg ha hb
end
end K02

namespace K02
open PySem PySem.Spec L2 DL

local macro_rules | `(tactic| walk_at "dl") => `(tactic| first
  | ((with_reducible show WE _ _ (.Constant _ _ _) _ _ _); first | refine we_int ?_ | refine we_str ?_ | refine we_bl ?_ | refine we_non ?_)
  | ((with_reducible show WE _ _ (.Name _ _) _ _ _); first | refine we_var 0 rfl rfl ?_ | refine we_var 1 rfl rfl ?_ | refine we_var 2 rfl rfl ?_ | refine we_var 3 rfl rfl ?_ | refine we_var 4 rfl rfl ?_ | refine we_var 5 rfl rfl ?_ | refine we_var 6 rfl rfl ?_ | refine we_var 7 rfl rfl ?_ | refine we_var 8 rfl rfl ?_ | refine we_var 9 rfl rfl ?_ | refine we_var 10 rfl rfl ?_ | refine we_var 11 rfl rfl ?_ | refine we_var 12 rfl rfl ?_ | refine we_var 13 rfl rfl ?_ | refine we_var 14 rfl rfl ?_ | refine we_var 15 rfl rfl ?_)
  | ((with_reducible show WE _ _ (.BinOp _ _ _ _) _ _ _); refine we_bin ?_)
  | ((with_reducible show WE _ _ (.Compare _ [_] [_] _) _ _ _); refine we_cmp ?_)
  | ((with_reducible show WT _ _ (.Compare _ [_] [_] _) _ _ _); refine wt_cmp ?_)
  | ((with_reducible show WE _ _ (.UnaryOp .USub _ _) _ _ _); refine we_un ?_)
  | ((with_reducible show WT _ _ (.UnaryOp .Not _ _) _ _ _); refine wt_not ?_)
  | ((with_reducible show WE _ _ (.IfExp _ _ _ _) _ _ _); refine we_ifx ?_)
  | ((with_reducible show WE _ _ (.Subscript _ (.Name _ _) _) _ _ _); refine we_ix ?_)
  | ((with_reducible show WE _ _ (.Subscript _ (.Constant _ _ _) _) _ _ _); refine we_ix ?_)
  | ((with_reducible show WE _ _ (.Subscript _ (.Subscript _ _ _) _) _ _ _); refine we_ix ?_)
  | ((with_reducible show WE _ _ (.Subscript _ (.BinOp _ _ _ _) _) _ _ _); refine we_ix ?_)
  | ((with_reducible show WE _ _ (.Subscript _ (.UnaryOp _ _ _) _) _ _ _); refine we_ix ?_)
  | ((with_reducible show WE _ _ (.Subscript _ (.Call _ _ _ _) _) _ _ _); refine we_ix ?_)
  | ((with_reducible show WE _ _ (.Call (.Name "len" _) [_] [] _) _ _ _); refine we_b1 (by assumption) bb_len ?_)
  | ((with_reducible show WE _ _ (.Call (.Name "abs" _) [_] [] _) _ _ _); refine we_b1 (by assumption) bb_abs ?_)
  | ((with_reducible show WE _ _ (.Call (.Name "int" _) [_] [] _) _ _ _); refine we_t1 (by assumption) bb_int ?_)
  | ((with_reducible show WE _ _ (.Call (.Name "list" _) [_] [] _) _ _ _); refine we_t1 (by assumption) bb_list ?_)
  | ((with_reducible show WE _ _ (.Call (.Name "tuple" _) [_] [] _) _ _ _); refine we_t1 (by assumption) bb_tuple ?_)
  | ((with_reducible show WE _ _ (.Call (.Name "str" _) [_] [] _) _ _ _); refine we_t1 (by assumption) bb_str ?_)
  | ((with_reducible show WE _ _ (.Call (.Name "set" _) [_] [] _) _ _ _); refine we_t1 (by assumption) bb_set ?_)
  | ((with_reducible show WE _ _ (.Call (.Name "sorted" _) [_] [] _) _ _ _); refine we_b1 (by assumption) bb_sorted ?_)
  | ((with_reducible show WE _ _ (.Call (.Name "isinstance" _) [_, _] [] _) _ _ _); refine we_b2 (by assumption) bb_isinstance ?_)
  | ((with_reducible show WE _ _ (.Call (.Name "max" _) [_] [] _) _ _ _); refine we_b1 (by assumption) bb_max ?_)
  | ((with_reducible show WE _ _ (.Call (.Name "min" _) [_] [] _) _ _ _); refine we_b1 (by assumption) bb_min ?_)
  | ((with_reducible show WE _ _ (.Call (.Name "max" _) [_, _] [] _) _ _ _); refine we_b2 (by assumption) bb_max ?_)
  | ((with_reducible show WE _ _ (.Call (.Name "min" _) [_, _] [] _) _ _ _); refine we_b2 (by assumption) bb_min ?_)
  | ((with_reducible show BinG _ _ (binaryOp .Add) (.int _) (.int _) _ _); refine b_add ?_)
  | ((with_reducible show BinG _ _ (binaryOp .Sub) (.int _) (.int _) _ _); refine b_sub ?_)
  | ((with_reducible show BinG _ _ (binaryOp .Mod) (.int _) (.int _) _ _); refine b_mod (by omega) ?_)
  | ((with_reducible show BinG _ _ (binaryOp .FloorDiv) (.int _) (.int _) _ _); refine b_div ⟨by omega, by omega⟩ ?_)
  | ((with_reducible show BinG _ _ (binaryOp .Mult) (.int _) (.int _) _ _); first | refine b_mul (.inr ⟨by omega, by omega⟩) ?_ | refine b_mul (.inl ⟨by omega, by omega⟩) ?_)
  | ((with_reducible show BinG _ _ (compareOp .Lt) (.int _) (.int _) _ _); refine b_lt ?_)
  | ((with_reducible show BinG _ _ (compareOp .LtE) (.int _) (.int _) _ _); refine b_le ?_)
  | ((with_reducible show BinG _ _ (compareOp .Gt) (.int _) (.int _) _ _); refine b_gt ?_)
  | ((with_reducible show BinG _ _ (compareOp .GtE) (.int _) (.int _) _ _); refine b_ge ?_)
  | ((with_reducible show BinG _ _ (compareOp .Eq) (.int _) (.int _) _ _); refine b_eqI (by assumption) ?_)
  | ((with_reducible show BinG _ _ (compareOp .NotEq) (.int _) (.int _) _ _); refine b_neI (by assumption) ?_)
  | ((with_reducible show UnG _ _ (unaryOp .USub) (.int _) _ _); refine b_neg ?_)
  | (with_reducible refine ex_bl ?_)
  | ((with_reducible show CallG _ _ (.type "int") [.int _] _ _); refine c_int ?_)
  | ((with_reducible show CallG _ _ (.type "int") [.bl _] _ _); refine c_intB ?_)
  | ((with_reducible show CallG _ _ (.builtin "abs") _ _ _); refine c_abs ?_)
  | ((with_reducible show CallG _ _ (.builtin "len") [.lst _] _ _); refine c_len ?_)
  | ((with_reducible show CallG _ _ (.builtin "len") [.tup _] _ _); refine c_lenT ?_)
  | ((with_reducible show CallG _ _ (.builtin "len") [.raw _] _ _); refine c_lenM (by first | assumption | exact updM_same) ?_)
  | ((with_reducible show CallG _ _ (.type "list") [.tup _] _ _); refine c_listT ?_)
  | ((with_reducible show CallG _ _ (.type "tuple") [.lst _] _ _); refine c_tuple ?_)
  | ((with_reducible show CallG _ _ (.type "tuple") [.tup _] _ _); refine c_tupleT ?_)
  | ((with_reducible show CallG _ _ (.builtin "max") [.int _, .int _] _ _); refine c_max2 rfl ?_)
  | ((with_reducible show CallG _ _ (.builtin "min") [.int _, .int _] _ _); refine c_min2 rfl ?_)
  | ((with_reducible show IxG _ _ (.tup _) _ _ _); refine ix_tupD rfl ?_)
  | ((with_reducible show IxG _ _ (.raw _) _ _ _); refine ix_mlst (by first | assumption | exact updM_same) rfl ?_)
  | ((with_reducible show WA _ _ (_ :: _) _ _ _); refine wa_cons ?_)
  | ((with_reducible show WA _ _ [] _ _ _); refine wa_nil ?_))
section
variable {P : Program} {w : World} {K : PySem.W.Frag} {mg : Str → Option Value} {base : Heap}
def lenD (K : PySem.W.Frag) (per : Int) (gaps : List Int) : D := .obj (CL K) (lenF per gaps)
theorem mak_len (m : Md K mg base) : MakX P w K mg base 4 "Lengths" (CL K) (spInit K) [] := by
  obtain ⟨fd, F⟩ := fd_Lengths___init__ m.c
  obtain ⟨us, hu, hb⟩ := F.binds1 (ps := ["self", "period", "gaps"]) 3 1 (by intro e; cases e) rfl (fun T kV doc pm an cdv ct us its hu hi => match us, its, hu, hi with | [_, _, _], [_], _, _ => ⟨_, rfl, rfl⟩)
  exact ⟨_, fd, _, [], us, ok_init m F, He.mkr_ok (mkr_Lengths m.c), He.glo_ok m.i m.n (glo_Lengths m.c), hb, hu, fun _ => RpL.nil⟩
theorem mak_lenK (m : Md K mg base) : MakK P w K mg base 4 "Lengths" (CL K) ["gaps", "period"] (fun xs => match xs with | [g, p] => [p, g] | l => l) (spInit K) := by
  obtain ⟨fd, F⟩ := fd_Lengths___init__ m.c
  obtain ⟨its, hb⟩ := F.kbindsD (ps := ["self", "period", "gaps"]) 1 ["gaps", "period"] (fun {α} us _ ws => match us, ws with | [s], [g, p] => [s, p, g] | _, l => us ++ l) (by intro e; cases e) (fun {vs ds zs us its ws} r1 _ r3 => by
      cases r1 with
      | nil => exact r3
      | cons a1 b1 =>
        cases b1 with
        | nil =>
          cases r3 with
          | nil => exact .cons a1 .nil
          | cons a2 b2 =>
            cases b2 with
            | nil => exact .cons a1 (.cons a2 .nil)
            | cons a3 b3 =>
              cases b3 with
              | nil => exact .cons a1 (.cons a3 (.cons a2 .nil))
              | cons a4 b4 => exact .cons a1 (.cons a2 (.cons a3 (.cons a4 b4)))
        | cons a2 b2 => exact Vals.append (.cons a1 (.cons a2 b2)) r3) (fun T kV doc pm an cdv ct us its ws h1 h2 h3 => match us, its, ws, h1, h2, h3 with | [_], [_], [_, _], _, _, _ => ⟨_, rfl, rfl⟩)
  refine ⟨_, fd, _, _, _, ok_init m F, He.mkr_ok (mkr_Lengths m.c), He.glo_ok m.i m.n (glo_Lengths m.c), hb, fun G v zs xs hl r => ?_⟩
  match xs, hl with
  | [x, y], _ =>
    obtain ⟨a, b, rfl, r1, r2⟩ := r.two_inv
    exact ⟨[b, a], rfl, RpL.cons r2 (RpL.cons r1 RpL.nil)⟩
theorem wf_ok {per : Int} {gaps : List Int} (h : Wf per gaps) : Wg per gaps ∧ ∀ g ∈ gaps, OkG per gaps g :=
  ⟨⟨h.pos, h.perB, h.srt, h.len, fun g hg => ⟨(h.mul g hg).1, (h.mul g hg).2.1⟩⟩, fun g hg => ⟨(h.mul g hg).2.2, fun d h1 h2 _ => h.clo g hg d h1 h2⟩⟩
theorem made {per : Int} {gaps : List Int} {M : Mst} {q : Addr} {Q : QD} (hq : M q = none) (h : Q (lenD K per gaps) M) : MkEnd (CL K) q Q .non (updM (updM M q (.obj (CL K) [])) q (.obj (CL K) (lenF per gaps))) := by
  rw [updM_updM]
  refine ⟨rfl, _, updM_same, ?_⟩
  rw [delM_updM' hq]
  exact h
/-- Lengths(per, told), of numbers that break nothing -/
theorem init_ok {per : Int} {gaps ts : List Int} {told : D} {M : Mst} {q : Addr} {Q : QD} {QX : XQ0} (wf : Wf per gaps) (hto : told = .lst (ts.map D.int) ∨ told = .tup (ts.map D.int)) (hmem : ∀ x, x ∈ ts ↔ x ∈ gaps) (hlen : ts.length ≤ 4000) (hq : M q = none) (h : Q (lenD K per gaps) M) :
    spInit K [.raw (.ref q), .int per, told] (updM M q (.obj (CL K) [])) (MkEnd (CL K) q Q) QX :=
  ⟨q, per, told, ts, gaps, rfl, hto, updM_same, (wf_ok wf).1, hmem, hlen, fun _ => made hq h, fun a g b hg _ hb => absurd ((wf_ok wf).2 g (by rw [hg]; simp)) hb⟩
theorem getD_map {gaps : List Int} {n : Int} : (getD (gaps.map fun g => ((.inl g : Key), D.bl true)) (.inl n)).isSome = decide (n ∈ gaps) := by
  unfold getD
  induction gaps with
  | nil => rfl
  | cons g r ih =>
    by_cases e : g = n
    · subst e; simp
    · have e2 : ¬ n = g := fun q => e q.symm
      simp only [List.map_cons, List.find?_cons, List.mem_cons, e2, false_or]
      rw [show decide ((Sum.inl g : Key) = .inl n) = false from decide_eq_false fun q => e (by cases q; rfl)]
      exact ih
/-! ### in -/
def inL (per : Int) (gaps : List Int) (n : Int) : Bool := decide (per ≤ n ∧ n % per = 0 ∧ n ∉ gaps)
def spCont (C : Addr) : SpD := fun xs M Q => ∃ per gaps x n, xs = [x, .int n] ∧ IsObj M x C (lenF per gaps) ∧ 0 < per ∧ Q (.bl (inL per gaps n)) M
theorem sc_cont : FnScope ["self", "number"] ["self", "number"] d_Lengths___contains__.scope := ⟨rfl, rfl, rfl, by decide +kernel, rfl, by decide +kernel, by decide +kernel⟩
theorem met_cont (m : Md K mg base) : MetD P w K mg base 1 (CL K) "__contains__" (spCont (CL K)) [] := by
  refine met_of (d := d_Lengths___contains__) rfl (fd_Lengths___contains__ m.c) (He.cls_ok (cls_Lengths m.c)) (He.meth_ok (meth_Lengths___contains__ m.c)) sc_cont (fun xs M Q ⟨a, b, c, d, e, _⟩ => by rw [e]; rfl) (fun _ _ _ _ _ _ us hl => match us, hl with | [_, _], _ => rfl) ?_
  rintro cdv A outer s H E hr xs M Q ⟨per, gaps, x, n, rfl, hx, hper, hQ⟩
  have cl := He.cls_ok (cls_Lengths m.c)
  have n1 := He.noat_ok (noat_Lengths_period m.c)
  have n3 := He.noat_ok (noat_Lengths__known m.c)
  have hu : (cx0 P w K mg base ["self", "number"] d_Lengths___contains__.qual d_Lengths___contains__.scope (He.fAd K d_Lengths___contains__.at_) cdv A outer s H E).A.units + 1 < cLine := by have := hr.units; omega
  refine wss_one (ws_ret (we_andT (we_cmp (we_var 1 rfl rfl (we_fld (we_var 0 rfl rfl ⟨_, _, _, hx, cl, n1, rfl, b_ge (tru_is rfl ⟨fun h1 => ?_, fun h1 => ?_⟩)⟩))))))
  · refine we_andT (we_cmp (we_bin (we_var 1 rfl rfl (we_fld (we_var 0 rfl rfl ⟨_, _, _, hx, cl, n1, rfl, b_mod hper (we_int (b_eqI hr (tru_is rfl ⟨fun h2 => ?_, fun h2 => ?_⟩)))⟩)))))
    · refine we_one (we_dnotin hu (we_var 1 rfl rfl (we_fld (we_var 0 rfl rfl ⟨_, _, _, hx, cl, n3, rfl, .inl n, _, rfl, .inl rfl, ?_⟩))))
      rw [getD_map]
      have e : inL per gaps n = !decide (n ∈ gaps) := by
        unfold inL
        simp only [of_decide_eq_true h1, of_decide_eq_true h2, true_and, decide_not]
      rw [← e]
      exact hQ
    · have e : inL per gaps n = decide (n % per = 0) := by
        unfold inL
        simp only [of_decide_eq_false h2, false_and, and_false]
      rw [← e]
      exact hQ
  · have e : inL per gaps n = decide (per ≤ n) := by
      unfold inL
      simp only [of_decide_eq_false h1, false_and]
    rw [← e]
    exact hQ
/-! ### == -/
def spEq (C : Addr) : SpD := fun xs M Q => ∃ per gaps per' gaps', xs = [.obj C (lenF per gaps), .obj C (lenF per' gaps')] ∧ Q (.bl (decide (per = per' ∧ gaps = gaps'))) M
theorem sc_eq : FnScope ["self", "other"] ["self", "other"] d_Lengths___eq__.scope := ⟨rfl, rfl, rfl, by decide +kernel, rfl, by decide +kernel, by decide +kernel⟩
theorem met_eq (m : Md K mg base) : MetD P w K mg base 1 (CL K) "__eq__" (spEq (CL K)) [] := by
  refine met_of (d := d_Lengths___eq__) rfl (fd_Lengths___eq__ m.c) (He.cls_ok (cls_Lengths m.c)) (He.meth_ok (meth_Lengths___eq__ m.c)) sc_eq (fun xs M Q ⟨a, b, c, d, e, _⟩ => by rw [e]; rfl) (fun _ _ _ _ _ _ us hl => match us, hl with | [_, _], _ => rfl) ?_
  rintro cdv A outer s H E hr xs M Q ⟨per, gaps, per', gaps', rfl, hQ⟩
  have cl := He.cls_ok (cls_Lengths m.c)
  have n1 := He.noat_ok (noat_Lengths_period m.c)
  have n2 := He.noat_ok (noat_Lengths_gaps m.c)
  have ic := (insB_ok cl (ex_ins_Lengths m.e)).1
  have fi : mg "isinstance" = none := He.free_ok m.i m.n (free_isinstance m.c)
  refine wss_cons (ws_if (wt_not (wt_truth (we_b2 fi bb_isinstance (we_var 1 rfl rfl (we_glob (He.glo_ok m.i m.n (glo_Lengths m.c)) (v := .ref (CL K)) rfl (fun _ => rp_raw) (c_isi (ClsV.own (CL K)) (t := .ref (CL K)) ⟨ic, rfl⟩ ic.me (tru_is rfl ⟨fun h => (by cases h), fun _ => wss_nil ?_⟩))))))))
  refine wss_one (ws_ret (we_andT (we_cmp (we_fld (we_var 0 rfl rfl ⟨_, _, _, .inl rfl, cl, n1, rfl, we_fld (we_var 1 rfl rfl ⟨_, _, _, .inl rfl, cl, n1, rfl, b_eqI hr (tru_is rfl ⟨fun h1 => ?_, fun h1 => ?_⟩)⟩)⟩)))))
  · refine we_one (we_cmp (we_fld (we_var 0 rfl rfl ⟨_, _, _, .inl rfl, cl, n2, rfl, we_fld (we_var 1 rfl rfl ⟨_, _, _, .inl rfl, cl, n2, rfl, b_eqE (encT encI) (a := gaps) (b := gaps') hr ?_⟩)⟩)))
    have e : decide (per = per' ∧ gaps = gaps') = decide (gaps = gaps') := by simp only [of_decide_eq_true h1, true_and]
    rw [← e]
    exact hQ
  · have e : decide (per = per' ∧ gaps = gaps') = decide (per = per') := by simp only [of_decide_eq_false h1, false_and]
    rw [← e]
    exact hQ
end
end K02

namespace K02
open PySem PySem.Spec L2 DL

local macro_rules | `(tactic| walk_at "dl") => `(tactic| first
  | ((with_reducible show WE _ _ (.Constant _ _ _) _ _ _); first | refine we_int ?_ | refine we_str ?_ | refine we_bl ?_ | refine we_non ?_)
  | ((with_reducible show WE _ _ (.Name _ _) _ _ _); first | refine we_var 0 rfl rfl ?_ | refine we_var 1 rfl rfl ?_ | refine we_var 2 rfl rfl ?_ | refine we_var 3 rfl rfl ?_ | refine we_var 4 rfl rfl ?_ | refine we_var 5 rfl rfl ?_ | refine we_var 6 rfl rfl ?_ | refine we_var 7 rfl rfl ?_ | refine we_var 8 rfl rfl ?_ | refine we_var 9 rfl rfl ?_ | refine we_var 10 rfl rfl ?_ | refine we_var 11 rfl rfl ?_ | refine we_var 12 rfl rfl ?_ | refine we_var 13 rfl rfl ?_ | refine we_var 14 rfl rfl ?_ | refine we_var 15 rfl rfl ?_)
  | ((with_reducible show WE _ _ (.BinOp _ _ _ _) _ _ _); refine we_bin ?_)
  | ((with_reducible show WE _ _ (.Compare _ [_] [_] _) _ _ _); refine we_cmp ?_)
  | ((with_reducible show WT _ _ (.Compare _ [_] [_] _) _ _ _); refine wt_cmp ?_)
  | ((with_reducible show WE _ _ (.UnaryOp .USub _ _) _ _ _); refine we_un ?_)
  | ((with_reducible show WT _ _ (.UnaryOp .Not _ _) _ _ _); refine wt_not ?_)
  | ((with_reducible show WE _ _ (.IfExp _ _ _ _) _ _ _); refine we_ifx ?_)
  | ((with_reducible show WE _ _ (.Subscript _ (.Name _ _) _) _ _ _); refine we_ix ?_)
  | ((with_reducible show WE _ _ (.Subscript _ (.Constant _ _ _) _) _ _ _); refine we_ix ?_)
  | ((with_reducible show WE _ _ (.Subscript _ (.Subscript _ _ _) _) _ _ _); refine we_ix ?_)
  | ((with_reducible show WE _ _ (.Subscript _ (.BinOp _ _ _ _) _) _ _ _); refine we_ix ?_)
  | ((with_reducible show WE _ _ (.Subscript _ (.UnaryOp _ _ _) _) _ _ _); refine we_ix ?_)
  | ((with_reducible show WE _ _ (.Subscript _ (.Call _ _ _ _) _) _ _ _); refine we_ix ?_)
  | ((with_reducible show WE _ _ (.Call (.Name "len" _) [_] [] _) _ _ _); refine we_b1 (by assumption) bb_len ?_)
  | ((with_reducible show WE _ _ (.Call (.Name "abs" _) [_] [] _) _ _ _); refine we_b1 (by assumption) bb_abs ?_)
  | ((with_reducible show WE _ _ (.Call (.Name "int" _) [_] [] _) _ _ _); refine we_t1 (by assumption) bb_int ?_)
  | ((with_reducible show WE _ _ (.Call (.Name "list" _) [_] [] _) _ _ _); refine we_t1 (by assumption) bb_list ?_)
  | ((with_reducible show WE _ _ (.Call (.Name "tuple" _) [_] [] _) _ _ _); refine we_t1 (by assumption) bb_tuple ?_)
  | ((with_reducible show WE _ _ (.Call (.Name "str" _) [_] [] _) _ _ _); refine we_t1 (by assumption) bb_str ?_)
  | ((with_reducible show WE _ _ (.Call (.Name "set" _) [_] [] _) _ _ _); refine we_t1 (by assumption) bb_set ?_)
  | ((with_reducible show WE _ _ (.Call (.Name "sorted" _) [_] [] _) _ _ _); refine we_b1 (by assumption) bb_sorted ?_)
  | ((with_reducible show WE _ _ (.Call (.Name "isinstance" _) [_, _] [] _) _ _ _); refine we_b2 (by assumption) bb_isinstance ?_)
  | ((with_reducible show WE _ _ (.Call (.Name "max" _) [_] [] _) _ _ _); refine we_b1 (by assumption) bb_max ?_)
  | ((with_reducible show WE _ _ (.Call (.Name "min" _) [_] [] _) _ _ _); refine we_b1 (by assumption) bb_min ?_)
  | ((with_reducible show WE _ _ (.Call (.Name "max" _) [_, _] [] _) _ _ _); refine we_b2 (by assumption) bb_max ?_)
  | ((with_reducible show WE _ _ (.Call (.Name "min" _) [_, _] [] _) _ _ _); refine we_b2 (by assumption) bb_min ?_)
  | ((with_reducible show BinG _ _ (binaryOp .Add) (.int _) (.int _) _ _); refine b_add ?_)
  | ((with_reducible show BinG _ _ (binaryOp .Sub) (.int _) (.int _) _ _); refine b_sub ?_)
  | ((with_reducible show BinG _ _ (binaryOp .Mod) (.int _) (.int _) _ _); refine b_mod (by omega) ?_)
  | ((with_reducible show BinG _ _ (binaryOp .FloorDiv) (.int _) (.int _) _ _); refine b_div ⟨by omega, by omega⟩ ?_)
  | ((with_reducible show BinG _ _ (binaryOp .Mult) (.int _) (.int _) _ _); first | refine b_mul (.inr ⟨by omega, by omega⟩) ?_ | refine b_mul (.inl ⟨by omega, by omega⟩) ?_)
  | ((with_reducible show BinG _ _ (compareOp .Lt) (.int _) (.int _) _ _); refine b_lt ?_)
  | ((with_reducible show BinG _ _ (compareOp .LtE) (.int _) (.int _) _ _); refine b_le ?_)
  | ((with_reducible show BinG _ _ (compareOp .Gt) (.int _) (.int _) _ _); refine b_gt ?_)
  | ((with_reducible show BinG _ _ (compareOp .GtE) (.int _) (.int _) _ _); refine b_ge ?_)
  | ((with_reducible show BinG _ _ (compareOp .Eq) (.int _) (.int _) _ _); refine b_eqI (by assumption) ?_)
  | ((with_reducible show BinG _ _ (compareOp .NotEq) (.int _) (.int _) _ _); refine b_neI (by assumption) ?_)
  | ((with_reducible show UnG _ _ (unaryOp .USub) (.int _) _ _); refine b_neg ?_)
  | (with_reducible refine ex_bl ?_)
  | ((with_reducible show CallG _ _ (.type "int") [.int _] _ _); refine c_int ?_)
  | ((with_reducible show CallG _ _ (.type "int") [.bl _] _ _); refine c_intB ?_)
  | ((with_reducible show CallG _ _ (.builtin "abs") _ _ _); refine c_abs ?_)
  | ((with_reducible show CallG _ _ (.builtin "len") [.lst _] _ _); refine c_len ?_)
  | ((with_reducible show CallG _ _ (.builtin "len") [.tup _] _ _); refine c_lenT ?_)
  | ((with_reducible show CallG _ _ (.builtin "len") [.raw _] _ _); refine c_lenM (by first | assumption | exact updM_same) ?_)
  | ((with_reducible show CallG _ _ (.type "list") [.tup _] _ _); refine c_listT ?_)
  | ((with_reducible show CallG _ _ (.type "tuple") [.lst _] _ _); refine c_tuple ?_)
  | ((with_reducible show CallG _ _ (.type "tuple") [.tup _] _ _); refine c_tupleT ?_)
  | ((with_reducible show CallG _ _ (.builtin "max") [.int _, .int _] _ _); refine c_max2 rfl ?_)
  | ((with_reducible show CallG _ _ (.builtin "min") [.int _, .int _] _ _); refine c_min2 rfl ?_)
  | ((with_reducible show IxG _ _ (.tup _) _ _ _); refine ix_tupD rfl ?_)
  | ((with_reducible show IxG _ _ (.raw _) _ _ _); refine ix_mlst (by first | assumption | exact updM_same) rfl ?_)
  | ((with_reducible show WA _ _ (_ :: _) _ _ _); refine wa_cons ?_)
  | ((with_reducible show WA _ _ [] _ _ _); refine wa_nil ?_))
section
variable {P : Program} {w : World} {K : PySem.W.Frag} {mg : Str → Option Value} {base : Heap}
/-! ### within -/
def withinL (p1 : Int) (g1 : List Int) (p2 : Int) (g2 : List Int) : Bool := decide (p1 % p2 = 0) && g2.all fun g => !inL p1 g1 g
def spWithin (C : Addr) : SpD := fun xs M Q => ∃ p1 g1 p2 g2, xs = [.obj C (lenF p1 g1), .obj C (lenF p2 g2)] ∧ 0 < p1 ∧ 0 < p2 ∧ Q (.bl (withinL p1 g1 p2 g2)) M
theorem sc_within : FnScope ["self", "other", "gap"] ["self", "other"] d_Lengths_within.scope := ⟨rfl, rfl, rfl, by decide +kernel, rfl, by decide +kernel, by decide +kernel⟩
theorem met_within (m : Md K mg base) : MetD P w K mg base 2 (CL K) "within" (spWithin (CL K)) [] := by
  refine met_of (d := d_Lengths_within) rfl (fd_Lengths_within m.c) (He.cls_ok (cls_Lengths m.c)) (He.meth_ok (meth_Lengths_within m.c)) sc_within (fun xs M Q ⟨a, b, c, d, e, _⟩ => by rw [e]; rfl) (fun _ _ _ _ _ _ us hl => match us, hl with | [_, _], _ => rfl) ?_
  rintro cdv A outer s H E hr xs M Q ⟨p1, g1, p2, g2, rfl, hp1, hp2, hQ⟩
  have nd := sc_within.nd
  have cl := He.cls_ok (cls_Lengths m.c)
  have n1 := He.noat_ok (noat_Lengths_period m.c)
  have n2 := He.noat_ok (noat_Lengths_gaps m.c)
  refine wss_cut (fun ds1 M1 => ds1 = [some (.obj (CL K) (lenF p1 g1)), some (.obj (CL K) (lenF p2 g2)), none] ∧ M1 = M ∧ p1 % p2 = 0) (ws_if (wt_cmp (we_bin (we_fld (we_var 0 rfl rfl ⟨_, _, _, .inl rfl, cl, n1, rfl, we_fld (we_var 1 rfl rfl ⟨_, _, _, .inl rfl, cl, n1, rfl, b_mod hp2 (we_int (b_neI hr ⟨_, rfl, fun h => ?_, fun h => ?_⟩))⟩)⟩))))) ?_
  · have h0 : decide (p1 % p2 = 0) = false := by simpa using h
    have e : withinL p1 g1 p2 g2 = false := by unfold withinL; rw [h0]; rfl
    refine wss_one (ws_ret (we_bl ?_))
    rw [← e]; exact hQ
  · exact wss_nil ⟨rfl, rfl, by simpa using h⟩
  · rintro ds1 M1 ⟨rfl, rfl, h0⟩
    refine wss_cons (ws_forL (.nm 2) g2 D.int (fun r ds1 M2 => ∃ dn o, g2 = dn ++ r ∧ ds1 = [some (.obj (CL K) (lenF p1 g1)), some (.obj (CL K) (lenF p2 g2)), o] ∧ M2 = M1 ∧ ∀ g ∈ dn, inL p1 g1 g = false) PassesOwn.never rfl (pg_name nd rfl (Or.inl rfl)) ?_ ?_ ?_)
    · exact wi_tup (we_fld (we_var 1 rfl rfl ⟨_, _, _, .inl rfl, cl, n2, rfl, _, rfl, fun hz => ⟨li_map g2 D.int, [], none, rfl, rfl, rfl, fun g hg => (by cases hg)⟩⟩))
    · rintro ds1 M2 ⟨dn, o, hg, rfl, rfl, hn⟩
      rw [List.append_nil] at hg
      have e : withinL p1 g1 p2 g2 = true := by
        unfold withinL
        rw [h0, hg, List.all_eq_true.mpr fun g hg => by rw [hn g hg]; rfl]
        rfl
      refine wss_one (ws_ret (we_bl ?_))
      rw [← e]; exact hQ
    · rintro y r ds1 M2 ⟨dn, o, hg, rfl, rfl, hn⟩
      refine ⟨_, rfl, wss_one (ws_if (wt_cmp (we_var 2 rfl rfl (we_var 0 rfl rfl (b_inM (met_cont m) hr (by decide) (.inl rfl) ⟨p1, g1, _, y, rfl, .inl rfl, hp1, _, rfl, _, rfl, fun h => ?_, fun h => ?_⟩)))))⟩
      · have e : withinL p1 g1 p2 g2 = false := by
          unfold withinL
          rw [h0]
          refine Bool.and_eq_false_imp.mpr fun _ => ?_
          rw [List.all_eq_false]
          exact ⟨y, by rw [hg]; simp, by rw [h]; decide⟩
        refine wss_one (ws_ret (we_bl ?_))
        rw [← e]; exact hQ
      · refine wss_nil ⟨dn ++ [y], _, by rw [hg]; simp, rfl, rfl, fun g hg2 => ?_⟩
        rcases List.mem_append.mp hg2 with q | q
        · exact hn g q
        · simp at q; rw [q]; exact h
def spBoth (C : Addr) : SpD := fun xs M Q => ∃ p1 g1 p2 g2 R, xs = [.obj C (lenF p1 g1), .obj C (lenF p2 g2)] ∧ 0 < p1 ∧ p1 ≤ 1000000 ∧ 0 < p2 ∧ p2 ≤ 1000000 ∧ g1.length ≤ 1000 ∧ g2.length ≤ 1000 ∧ Wf ((Int.lcm p1 p2 : Nat) : Int) R ∧
  (∀ x, x ∈ R ↔ (x ∈ g1 ∨ x ∈ g2) ∧ x % ((Int.lcm p1 p2 : Nat) : Int) = 0) ∧ Q (.obj C (lenF ((Int.lcm p1 p2 : Nat) : Int) R)) M
theorem sc_both : FnScope ["self", "other", "period", "gap"] ["self", "other"] d_Lengths_both.scope := ⟨rfl, rfl, rfl, by decide +kernel, rfl, by decide +kernel, by decide +kernel⟩
theorem met_both (m : Md K mg base) : MetD P w K mg base 6 (CL K) "both" (spBoth (CL K)) [] := by
  refine met_of (d := d_Lengths_both) rfl (fd_Lengths_both m.c) (He.cls_ok (cls_Lengths m.c)) (He.meth_ok (meth_Lengths_both m.c)) sc_both (fun xs M Q ⟨a, b, c, d, f, e, _⟩ => by rw [e]; rfl) (fun _ _ _ _ _ _ us hl => match us, hl with | [_, _], _ => rfl) ?_
  rintro cdv A outer s H E hr xs M Q ⟨p1, g1, p2, g2, R, rfl, h1, h1B, h2, h2B, hl1, hl2, wf, hR, hQ⟩
  have nd := sc_both.nd
  have cl := He.cls_ok (cls_Lengths m.c)
  have n1 := He.noat_ok (noat_Lengths_period m.c)
  have n2 := He.noat_ok (noat_Lengths_gaps m.c)
  have hp := wf.pos
  have hpB := wf.perB
  have hsz : sizeLine = 16777216 := sizeLine_eq
  have fl : mg "lcm" = some (.builtin "math.lcm") := PySem.W.mg_of m.i m.n (He.eqO_ok (ex_lcm m.e))
  have e1 : Nat.lcm p1.natAbs p2.natAbs = Int.lcm p1 p2 := rfl
  refine wss_cons (ws_set 2 nd rfl (we_callG (wa2 (we_fld (we_var 0 rfl rfl ⟨_, _, _, .inl rfl, cl, n1, rfl, we_fld (we_var 1 rfl rfl ⟨_, _, _, .inl rfl, cl, n1, rfl, c_lcm (by omega) (by omega) ?_⟩)⟩))) fl))
  rw [e1]
  refine wss_one (ws_ret (we_makX (ED := fun _ _ _ _ => False) (mak_len m) takes_no hr (by decide) (wa2 (we_var 2 rfl rfl (we_lcP (.nm 3) (g1 ++ g2) D.int (fun g => decide (g % ((Int.lcm p1 p2 : Nat) : Int) = 0)) D.int rfl nd (own := [("gap", 3)]) (blkOk_by (by kernel_rfl)) (by decide) (fun s0 H0 C cl fp => pg_name nd rfl (Or.inl rfl)) ?_)))))
  refine wi_tup (we_bin (we_fld (we_var 0 rfl rfl ⟨_, _, _, .inl rfl, cl, n2, rfl, we_fld (we_var 1 rfl rfl ⟨_, _, _, .inl rfl, cl, n2, rfl, b_addTI g1 g2 (by omega) ⟨_, rfl, fun hz => ⟨hz, li_map (g1 ++ g2) D.int, ?_, ?_⟩⟩⟩)⟩)))
  · intro c hc M' hs
    refine ⟨_, rfl, fun s0 H0 C cl fp => wts_one ?_, fun _ s0 H0 C cl fp => ?_⟩
    · repeat walk_at "dl"
      exact ⟨rfl, rfl⟩
    · repeat walk_at "dl"
      exact ⟨rfl, rfl⟩
  · intro q hq
    refine init_ok (gaps := R) wf (.inl rfl) (fun x => ?_) ?_ hq hQ
    · rw [List.mem_filter, hR, List.mem_append, decide_eq_true_eq]
    · exact Nat.le_trans (List.length_filter_le _ _) (by rw [List.length_append]; omega)
theorem b_neM {X : Cx} {Pm : Hp → Prop} {M : Mst} {Q : QD} {j k : Nat} {sp : SpD} {x y : D} {fs gs : List (Str × D)} (m : Md X.K mg base) (g : MetD X.prog X.w X.K X.mg X.base k (CL X.K) "__eq__" sp []) (hr : Room j X.A) (hk : k + 1 ≤ j) (hx : IsObj M x (CL X.K) fs) (hy : IsObj M y (CL X.K) gs) (h : sp [x, y] M fun d M1 => ∃ t, d = .bl t ∧ Q (.bl (!t)) M1) : BinG Pm X (compareOp .NotEq) x y M Q := by
  obtain ⟨f, fd, ps, F1, cl, hm, hb⟩ := g.nil
  have e : He.ma X.K (CL X.K) "__eq__" = f := by unfold He.ma; rw [hm.at_]
  exact b_neOwn (yB := some (.builtin "object.__eq__")) (e ▸ ex_ne_Lengths m.e) (by kernel_rfl) F1 hb hr hk hx hy h
end
end K02

namespace K02
open PySem PySem.Spec L2 DL

local macro_rules | `(tactic| walk_at "dl") => `(tactic| first
  | ((with_reducible show WE _ _ (.Constant _ _ _) _ _ _); first | refine we_int ?_ | refine we_str ?_ | refine we_bl ?_ | refine we_non ?_)
  | ((with_reducible show WE _ _ (.Name _ _) _ _ _); first | refine we_var 0 rfl rfl ?_ | refine we_var 1 rfl rfl ?_ | refine we_var 2 rfl rfl ?_ | refine we_var 3 rfl rfl ?_ | refine we_var 4 rfl rfl ?_ | refine we_var 5 rfl rfl ?_ | refine we_var 6 rfl rfl ?_ | refine we_var 7 rfl rfl ?_ | refine we_var 8 rfl rfl ?_ | refine we_var 9 rfl rfl ?_ | refine we_var 10 rfl rfl ?_ | refine we_var 11 rfl rfl ?_ | refine we_var 12 rfl rfl ?_ | refine we_var 13 rfl rfl ?_ | refine we_var 14 rfl rfl ?_ | refine we_var 15 rfl rfl ?_)
  | ((with_reducible show WE _ _ (.BinOp _ _ _ _) _ _ _); refine we_bin ?_)
  | ((with_reducible show WE _ _ (.Compare _ [_] [_] _) _ _ _); refine we_cmp ?_)
  | ((with_reducible show WT _ _ (.Compare _ [_] [_] _) _ _ _); refine wt_cmp ?_)
  | ((with_reducible show WE _ _ (.UnaryOp .USub _ _) _ _ _); refine we_un ?_)
  | ((with_reducible show WT _ _ (.UnaryOp .Not _ _) _ _ _); refine wt_not ?_)
  | ((with_reducible show WE _ _ (.IfExp _ _ _ _) _ _ _); refine we_ifx ?_)
  | ((with_reducible show WE _ _ (.Subscript _ (.Name _ _) _) _ _ _); refine we_ix ?_)
  | ((with_reducible show WE _ _ (.Subscript _ (.Constant _ _ _) _) _ _ _); refine we_ix ?_)
  | ((with_reducible show WE _ _ (.Subscript _ (.Subscript _ _ _) _) _ _ _); refine we_ix ?_)
  | ((with_reducible show WE _ _ (.Subscript _ (.BinOp _ _ _ _) _) _ _ _); refine we_ix ?_)
  | ((with_reducible show WE _ _ (.Subscript _ (.UnaryOp _ _ _) _) _ _ _); refine we_ix ?_)
  | ((with_reducible show WE _ _ (.Subscript _ (.Call _ _ _ _) _) _ _ _); refine we_ix ?_)
  | ((with_reducible show WE _ _ (.Call (.Name "len" _) [_] [] _) _ _ _); refine we_b1 (by assumption) bb_len ?_)
  | ((with_reducible show WE _ _ (.Call (.Name "abs" _) [_] [] _) _ _ _); refine we_b1 (by assumption) bb_abs ?_)
  | ((with_reducible show WE _ _ (.Call (.Name "int" _) [_] [] _) _ _ _); refine we_t1 (by assumption) bb_int ?_)
  | ((with_reducible show WE _ _ (.Call (.Name "list" _) [_] [] _) _ _ _); refine we_t1 (by assumption) bb_list ?_)
  | ((with_reducible show WE _ _ (.Call (.Name "tuple" _) [_] [] _) _ _ _); refine we_t1 (by assumption) bb_tuple ?_)
  | ((with_reducible show WE _ _ (.Call (.Name "str" _) [_] [] _) _ _ _); refine we_t1 (by assumption) bb_str ?_)
  | ((with_reducible show WE _ _ (.Call (.Name "set" _) [_] [] _) _ _ _); refine we_t1 (by assumption) bb_set ?_)
  | ((with_reducible show WE _ _ (.Call (.Name "sorted" _) [_] [] _) _ _ _); refine we_b1 (by assumption) bb_sorted ?_)
  | ((with_reducible show WE _ _ (.Call (.Name "isinstance" _) [_, _] [] _) _ _ _); refine we_b2 (by assumption) bb_isinstance ?_)
  | ((with_reducible show WE _ _ (.Call (.Name "max" _) [_] [] _) _ _ _); refine we_b1 (by assumption) bb_max ?_)
  | ((with_reducible show WE _ _ (.Call (.Name "min" _) [_] [] _) _ _ _); refine we_b1 (by assumption) bb_min ?_)
  | ((with_reducible show WE _ _ (.Call (.Name "max" _) [_, _] [] _) _ _ _); refine we_b2 (by assumption) bb_max ?_)
  | ((with_reducible show WE _ _ (.Call (.Name "min" _) [_, _] [] _) _ _ _); refine we_b2 (by assumption) bb_min ?_)
  | ((with_reducible show BinG _ _ (binaryOp .Add) (.int _) (.int _) _ _); refine b_add ?_)
  | ((with_reducible show BinG _ _ (binaryOp .Sub) (.int _) (.int _) _ _); refine b_sub ?_)
  | ((with_reducible show BinG _ _ (binaryOp .Mod) (.int _) (.int _) _ _); refine b_mod (by omega) ?_)
  | ((with_reducible show BinG _ _ (binaryOp .FloorDiv) (.int _) (.int _) _ _); refine b_div ⟨by omega, by omega⟩ ?_)
  | ((with_reducible show BinG _ _ (binaryOp .Mult) (.int _) (.int _) _ _); first | refine b_mul (.inr ⟨by omega, by omega⟩) ?_ | refine b_mul (.inl ⟨by omega, by omega⟩) ?_)
  | ((with_reducible show BinG _ _ (compareOp .Lt) (.int _) (.int _) _ _); refine b_lt ?_)
  | ((with_reducible show BinG _ _ (compareOp .LtE) (.int _) (.int _) _ _); refine b_le ?_)
  | ((with_reducible show BinG _ _ (compareOp .Gt) (.int _) (.int _) _ _); refine b_gt ?_)
  | ((with_reducible show BinG _ _ (compareOp .GtE) (.int _) (.int _) _ _); refine b_ge ?_)
  | ((with_reducible show BinG _ _ (compareOp .Eq) (.int _) (.int _) _ _); refine b_eqI (by assumption) ?_)
  | ((with_reducible show BinG _ _ (compareOp .NotEq) (.int _) (.int _) _ _); refine b_neI (by assumption) ?_)
  | ((with_reducible show UnG _ _ (unaryOp .USub) (.int _) _ _); refine b_neg ?_)
  | (with_reducible refine ex_bl ?_)
  | ((with_reducible show CallG _ _ (.type "int") [.int _] _ _); refine c_int ?_)
  | ((with_reducible show CallG _ _ (.type "int") [.bl _] _ _); refine c_intB ?_)
  | ((with_reducible show CallG _ _ (.builtin "abs") _ _ _); refine c_abs ?_)
  | ((with_reducible show CallG _ _ (.builtin "len") [.lst _] _ _); refine c_len ?_)
  | ((with_reducible show CallG _ _ (.builtin "len") [.tup _] _ _); refine c_lenT ?_)
  | ((with_reducible show CallG _ _ (.builtin "len") [.raw _] _ _); refine c_lenM (by first | assumption | exact updM_same) ?_)
  | ((with_reducible show CallG _ _ (.type "list") [.tup _] _ _); refine c_listT ?_)
  | ((with_reducible show CallG _ _ (.type "tuple") [.lst _] _ _); refine c_tuple ?_)
  | ((with_reducible show CallG _ _ (.type "tuple") [.tup _] _ _); refine c_tupleT ?_)
  | ((with_reducible show CallG _ _ (.builtin "max") [.int _, .int _] _ _); refine c_max2 rfl ?_)
  | ((with_reducible show CallG _ _ (.builtin "min") [.int _, .int _] _ _); refine c_min2 rfl ?_)
  | ((with_reducible show IxG _ _ (.tup _) _ _ _); refine ix_tupD rfl ?_)
  | ((with_reducible show IxG _ _ (.raw _) _ _ _); refine ix_mlst (by first | assumption | exact updM_same) rfl ?_)
  | ((with_reducible show WA _ _ (_ :: _) _ _ _); refine wa_cons ?_)
  | ((with_reducible show WA _ _ [] _ _ _); refine wa_nil ?_))
section
variable {P : Program} {w : World} {K : PySem.W.Frag} {mg : Str → Option Value} {base : Heap}
/-! ### the law's own lengths: a pair -/
abbrev lensD (per : Int) (gaps : List Int) : D := .tup [.int per, .lst (gaps.map D.int)]
def oneOf (per : Int) (gaps : List Int) (n : Int) : Bool := decide (0 < n ∧ n % per = 0 ∧ n ∉ gaps)
def spOne : SpD := fun xs M Q => ∃ per gaps n, xs = [lensD per gaps, .int n] ∧ 0 < per ∧ Q (.bl (oneOf per gaps n)) M
theorem sc_one : FnScope ["lens", "n"] ["lens", "n"] d__law_one_of.scope := ⟨rfl, rfl, rfl, by decide +kernel, rfl, by decide +kernel, by decide +kernel⟩
theorem cal_one (m : Md K mg base) : CalD P w K mg base 1 "_law_one_of" spOne [] := by
  refine cal_of (d := d__law_one_of) rfl (fd__law_one_of m.c) (He.glo_ok m.i m.n (glo__law_one_of m.c)) sc_one (fun xs M Q ⟨a, b, c, e, _⟩ => by rw [e]; rfl) (fun _ _ _ _ _ _ us hl => match us, hl with | [_, _], _ => rfl) ?_
  rintro cdv A outer s H E hr xs M Q ⟨per, gaps, n, rfl, hp, hQ⟩
  have fint : mg "int" = none := He.free_ok m.i m.n (free_int m.c)
  refine wss_one (ws_ret (we_andT (we_cmp (we_var 1 rfl rfl (we_int (b_gt (tru_is rfl ⟨fun h1 => ?_, fun h1 => ?_⟩)))))))
  · refine we_andT (we_cmp (we_bin (we_t1 fint bb_int (we_var 1 rfl rfl (c_int (we_ix (we_var 0 rfl rfl (we_int (ix_tupD rfl (b_mod hp (we_int (b_eqI hr (tru_is rfl ⟨fun h2 => ?_, fun h2 => ?_⟩)))))))))))))
    · refine we_one (we_cmp (we_var 1 rfl rfl (we_ix (we_var 0 rfl rfl (we_int (ix_tupD rfl (b_notin ?_)))))))
      have e : oneOf per gaps n = !decide (n ∈ gaps) := by
        unfold oneOf
        simp only [of_decide_eq_true h1, of_decide_eq_true h2, true_and, decide_not]
      rw [← e]; exact hQ
    · have e : oneOf per gaps n = decide (n % per = 0) := by
        unfold oneOf
        simp only [of_decide_eq_false h2, false_and, and_false]
      rw [← e]; exact hQ
  · have e : oneOf per gaps n = decide (0 < n) := by
      unfold oneOf
      simp only [of_decide_eq_false h1, false_and]
    rw [← e]; exact hQ
def lawWithin (p1 : Int) (g1 : List Int) (p2 : Int) (g2 : List Int) : Bool := decide (p1 % p2 = 0) && decide (g2.filter (oneOf p1 g1) = [])
def spLWithin : SpD := fun xs M Q => ∃ p1 g1 p2 g2, xs = [lensD p1 g1, lensD p2 g2] ∧ 0 < p1 ∧ 0 < p2 ∧ Q (.bl (lawWithin p1 g1 p2 g2)) M
theorem sc_lwithin : FnScope ["one", "other", "gap"] ["one", "other"] d__law_within.scope := ⟨rfl, rfl, rfl, by decide +kernel, rfl, by decide +kernel, by decide +kernel⟩
theorem cal_lwithin (m : Md K mg base) : CalD P w K mg base 2 "_law_within" spLWithin [] := by
  refine cal_of (d := d__law_within) rfl (fd__law_within m.c) (He.glo_ok m.i m.n (glo__law_within m.c)) sc_lwithin (fun xs M Q ⟨a, b, c, d, e, _⟩ => by rw [e]; rfl) (fun _ _ _ _ _ _ us hl => match us, hl with | [_, _], _ => rfl) ?_
  rintro cdv A outer s H E hr xs M Q ⟨p1, g1, p2, g2, rfl, h1, h2, hQ⟩
  have nd := sc_lwithin.nd
  have fint : mg "int" = none := He.free_ok m.i m.n (free_int m.c)
  refine wss_one (ws_ret (we_andT (we_cmp (we_bin (we_t1 fint bb_int (we_ix (we_var 0 rfl rfl (we_int (ix_tupD rfl (c_int (we_ix (we_var 1 rfl rfl (we_int (ix_tupD rfl (b_mod h2 (we_int (b_eqI hr (tru_is rfl ⟨fun h3 => ?_, fun h3 => ?_⟩))))))))))))))))))
  · refine we_one (we_cmp (we_lcP (.nm 2) g2 D.int (oneOf p1 g1) D.int rfl nd (own := [("gap", 2)]) (blkOk_by (by kernel_rfl)) (by decide) (fun s0 H0 C cl fp => pg_name nd rfl (Or.inl rfl)) ?_))
    refine wi_list (we_ix (we_var 1 rfl rfl (we_int (ix_tupD rfl ⟨_, rfl, fun hz => ⟨hz, li_map g2 D.int, ?_, ?_⟩⟩))))
    · intro c hc M' hs
      exact ⟨_, rfl, fun s0 H0 C cl fp => wts_one (wt_truth (we_cal (cal_one m) hr (by decide) (wa2 (we_var 0 rfl rfl (we_var 2 rfl rfl ⟨p1, g1, c, rfl, h1, tru_is rfl ⟨rfl, rfl⟩⟩))))), fun _ s0 H0 C cl fp => we_var 2 rfl rfl ⟨rfl, rfl⟩⟩
    · refine we_lst (wa_nil ⟨sz rfl, b_eqE (encL encI) (a := g2.filter (oneOf p1 g1)) (b := []) hr ?_⟩)
      have e : lawWithin p1 g1 p2 g2 = decide (g2.filter (oneOf p1 g1) = []) := by unfold lawWithin; rw [h3, Bool.true_and]
      rw [← e]; exact hQ
  · have e : lawWithin p1 g1 p2 g2 = decide (p1 % p2 = 0) := by unfold lawWithin; rw [h3, Bool.false_and]
    rw [← e]; exact hQ
/-! ### tells -/
def spTells : SpD := fun xs M Q => ∃ C per gaps, C = C ∧ xs = [.obj C (lenF per gaps), lensD per gaps] ∧ Q (.bl true) M
theorem sc_tells : FnScope ["told", "lens", "gap"] ["told", "lens"] d__law_tells.scope := ⟨rfl, rfl, rfl, by decide +kernel, rfl, by decide +kernel, by decide +kernel⟩
theorem cal_tells (m : Md K mg base) : CalD P w K mg base 2 "_law_tells" (fun xs M Q => ∃ per gaps, xs = [.obj (CL K) (lenF per gaps), lensD per gaps] ∧ Q (.bl true) M) [] := by
  refine cal_of (d := d__law_tells) rfl (fd__law_tells m.c) (He.glo_ok m.i m.n (glo__law_tells m.c)) sc_tells (fun xs M Q ⟨a, b, e, _⟩ => by rw [e]; rfl) (fun _ _ _ _ _ _ us hl => match us, hl with | [_, _], _ => rfl) ?_
  rintro cdv A outer s H E hr xs M Q ⟨per, gaps, rfl, hQ⟩
  have nd := sc_tells.nd
  have cl := He.cls_ok (cls_Lengths m.c)
  have n1 := He.noat_ok (noat_Lengths_period m.c)
  have n2 := He.noat_ok (noat_Lengths_gaps m.c)
  have ic := (insB_ok cl (ex_ins_Lengths m.e)).1
  have fi : mg "isinstance" = none := He.free_ok m.i m.n (free_isinstance m.c)
  have ftuple : mg "tuple" = none := He.free_ok m.i m.n (free_tuple m.c)
  have flist : mg "list" = none := He.free_ok m.i m.n (free_list m.c)
  refine wss_cons (ws_if (wt_w (ww_or (wt_not (wt_truth (we_b2 fi bb_isinstance (we_var 0 rfl rfl (we_glob (He.glo_ok m.i m.n (glo_Lengths m.c)) (v := .ref (CL K)) rfl (fun _ => rp_raw) (c_isi (ClsV.own (CL K)) (t := .ref (CL K)) ⟨ic, rfl⟩ ic.me (tru_is rfl ⟨fun h => (by cases h), fun _ => ?_⟩))))))))))
  refine ww_or (wt_not (wt_truth (we_cal (cal_int m) hr (by decide) (wa1 (we_fld (we_var 0 rfl rfl ⟨_, _, _, .inl rfl, cl, n1, rfl, per, rfl, tru_is rfl ⟨fun h => (by cases h), fun _ => ?_⟩⟩))))))
  refine ww_or1 (wt_cmp (we_fld (we_var 0 rfl rfl ⟨_, _, _, .inl rfl, cl, n1, rfl, we_ix (we_var 1 rfl rfl (we_int (ix_tupD rfl (b_neI hr ⟨_, rfl, fun h => ?_, fun _ => wss_nil ?_⟩))))⟩)))
  · simp at h
  refine wss_one (ws_ret (we_andT (we_b2 fi bb_isinstance (we_fld (we_var 0 rfl rfl ⟨_, _, _, .inl rfl, cl, n2, rfl, we_bltn ftuple bb_tuple (v := .ty "tuple") rfl (fun _ => rp_raw) (c_isi (ClsV.ty "tuple") (show TyD K _ _ _ from rfl) rfl (tru_is rfl ⟨fun _ => ?_, fun h => by cases h⟩))⟩)))))
  refine we_andT (we_cmp (we_lcP (.nm 2) gaps D.int (fun _ => false) D.int rfl nd (own := [("gap", 2)]) (blkOk_by (by kernel_rfl)) (by decide) (fun s0 H0 C cl fp => pg_name nd rfl (Or.inl rfl)) ?_))
  refine wi_tup (we_fld (we_var 0 rfl rfl ⟨_, _, _, .inl rfl, cl, n2, rfl, _, rfl, fun hz => ⟨hz, li_map gaps D.int, ?_, ?_⟩⟩))
  · intro c hc M' hs
    exact ⟨_, rfl, fun s0 H0 C cl fp => wts_one (wt_not (wt_truth (we_cal (cal_int m) hr (by decide) (wa1 (we_var 2 rfl rfl ⟨c, rfl, tru_is rfl ⟨rfl, rfl⟩⟩))))), fun h => by cases h⟩
  · have e0 : gaps.filter (fun _ => false) = [] := List.filter_eq_nil_iff.mpr fun _ _ h => by cases h
    rw [e0]
    refine we_lst (wa_nil ⟨sz rfl, b_eqE (encL encI) (a := []) (b := []) hr (tru_is rfl ⟨fun _ => ?_, fun h => by cases h⟩)⟩)
    refine we_one (we_cmp (we_t1 flist bb_list (we_fld (we_var 0 rfl rfl ⟨_, _, _, .inl rfl, cl, n2, rfl, c_listT (we_ix (we_var 1 rfl rfl (we_int (ix_tupD rfl (b_eqE (encL encI) (a := gaps) (b := gaps) hr ?_)))))⟩))))
    rw [decide_eq_true rfl]
    exact hQ
end
end K02

namespace K02
open PySem PySem.Spec L2 DL

local macro_rules | `(tactic| walk_at "dl") => `(tactic| first
  | ((with_reducible show WE _ _ (.Constant _ _ _) _ _ _); first | refine we_int ?_ | refine we_str ?_ | refine we_bl ?_ | refine we_non ?_)
  | ((with_reducible show WE _ _ (.Name _ _) _ _ _); first | refine we_var 0 rfl rfl ?_ | refine we_var 1 rfl rfl ?_ | refine we_var 2 rfl rfl ?_ | refine we_var 3 rfl rfl ?_ | refine we_var 4 rfl rfl ?_ | refine we_var 5 rfl rfl ?_ | refine we_var 6 rfl rfl ?_ | refine we_var 7 rfl rfl ?_ | refine we_var 8 rfl rfl ?_ | refine we_var 9 rfl rfl ?_ | refine we_var 10 rfl rfl ?_ | refine we_var 11 rfl rfl ?_ | refine we_var 12 rfl rfl ?_ | refine we_var 13 rfl rfl ?_ | refine we_var 14 rfl rfl ?_ | refine we_var 15 rfl rfl ?_)
  | ((with_reducible show WE _ _ (.BinOp _ _ _ _) _ _ _); refine we_bin ?_)
  | ((with_reducible show WE _ _ (.Compare _ [_] [_] _) _ _ _); refine we_cmp ?_)
  | ((with_reducible show WT _ _ (.Compare _ [_] [_] _) _ _ _); refine wt_cmp ?_)
  | ((with_reducible show WE _ _ (.UnaryOp .USub _ _) _ _ _); refine we_un ?_)
  | ((with_reducible show WT _ _ (.UnaryOp .Not _ _) _ _ _); refine wt_not ?_)
  | ((with_reducible show WE _ _ (.IfExp _ _ _ _) _ _ _); refine we_ifx ?_)
  | ((with_reducible show WE _ _ (.Subscript _ (.Name _ _) _) _ _ _); refine we_ix ?_)
  | ((with_reducible show WE _ _ (.Subscript _ (.Constant _ _ _) _) _ _ _); refine we_ix ?_)
  | ((with_reducible show WE _ _ (.Subscript _ (.Subscript _ _ _) _) _ _ _); refine we_ix ?_)
  | ((with_reducible show WE _ _ (.Subscript _ (.BinOp _ _ _ _) _) _ _ _); refine we_ix ?_)
  | ((with_reducible show WE _ _ (.Subscript _ (.UnaryOp _ _ _) _) _ _ _); refine we_ix ?_)
  | ((with_reducible show WE _ _ (.Subscript _ (.Call _ _ _ _) _) _ _ _); refine we_ix ?_)
  | ((with_reducible show WE _ _ (.Call (.Name "len" _) [_] [] _) _ _ _); refine we_b1 (by assumption) bb_len ?_)
  | ((with_reducible show WE _ _ (.Call (.Name "abs" _) [_] [] _) _ _ _); refine we_b1 (by assumption) bb_abs ?_)
  | ((with_reducible show WE _ _ (.Call (.Name "int" _) [_] [] _) _ _ _); refine we_t1 (by assumption) bb_int ?_)
  | ((with_reducible show WE _ _ (.Call (.Name "list" _) [_] [] _) _ _ _); refine we_t1 (by assumption) bb_list ?_)
  | ((with_reducible show WE _ _ (.Call (.Name "tuple" _) [_] [] _) _ _ _); refine we_t1 (by assumption) bb_tuple ?_)
  | ((with_reducible show WE _ _ (.Call (.Name "str" _) [_] [] _) _ _ _); refine we_t1 (by assumption) bb_str ?_)
  | ((with_reducible show WE _ _ (.Call (.Name "set" _) [_] [] _) _ _ _); refine we_t1 (by assumption) bb_set ?_)
  | ((with_reducible show WE _ _ (.Call (.Name "sorted" _) [_] [] _) _ _ _); refine we_b1 (by assumption) bb_sorted ?_)
  | ((with_reducible show WE _ _ (.Call (.Name "isinstance" _) [_, _] [] _) _ _ _); refine we_b2 (by assumption) bb_isinstance ?_)
  | ((with_reducible show WE _ _ (.Call (.Name "max" _) [_] [] _) _ _ _); refine we_b1 (by assumption) bb_max ?_)
  | ((with_reducible show WE _ _ (.Call (.Name "min" _) [_] [] _) _ _ _); refine we_b1 (by assumption) bb_min ?_)
  | ((with_reducible show WE _ _ (.Call (.Name "max" _) [_, _] [] _) _ _ _); refine we_b2 (by assumption) bb_max ?_)
  | ((with_reducible show WE _ _ (.Call (.Name "min" _) [_, _] [] _) _ _ _); refine we_b2 (by assumption) bb_min ?_)
  | ((with_reducible show BinG _ _ (binaryOp .Add) (.int _) (.int _) _ _); refine b_add ?_)
  | ((with_reducible show BinG _ _ (binaryOp .Sub) (.int _) (.int _) _ _); refine b_sub ?_)
  | ((with_reducible show BinG _ _ (binaryOp .Mod) (.int _) (.int _) _ _); refine b_mod (by omega) ?_)
  | ((with_reducible show BinG _ _ (binaryOp .FloorDiv) (.int _) (.int _) _ _); refine b_div ⟨by omega, by omega⟩ ?_)
  | ((with_reducible show BinG _ _ (binaryOp .Mult) (.int _) (.int _) _ _); first | refine b_mul (.inr ⟨by omega, by omega⟩) ?_ | refine b_mul (.inl ⟨by omega, by omega⟩) ?_)
  | ((with_reducible show BinG _ _ (compareOp .Lt) (.int _) (.int _) _ _); refine b_lt ?_)
  | ((with_reducible show BinG _ _ (compareOp .LtE) (.int _) (.int _) _ _); refine b_le ?_)
  | ((with_reducible show BinG _ _ (compareOp .Gt) (.int _) (.int _) _ _); refine b_gt ?_)
  | ((with_reducible show BinG _ _ (compareOp .GtE) (.int _) (.int _) _ _); refine b_ge ?_)
  | ((with_reducible show BinG _ _ (compareOp .Eq) (.int _) (.int _) _ _); refine b_eqI (by assumption) ?_)
  | ((with_reducible show BinG _ _ (compareOp .NotEq) (.int _) (.int _) _ _); refine b_neI (by assumption) ?_)
  | ((with_reducible show UnG _ _ (unaryOp .USub) (.int _) _ _); refine b_neg ?_)
  | (with_reducible refine ex_bl ?_)
  | ((with_reducible show CallG _ _ (.type "int") [.int _] _ _); refine c_int ?_)
  | ((with_reducible show CallG _ _ (.type "int") [.bl _] _ _); refine c_intB ?_)
  | ((with_reducible show CallG _ _ (.builtin "abs") _ _ _); refine c_abs ?_)
  | ((with_reducible show CallG _ _ (.builtin "len") [.lst _] _ _); refine c_len ?_)
  | ((with_reducible show CallG _ _ (.builtin "len") [.tup _] _ _); refine c_lenT ?_)
  | ((with_reducible show CallG _ _ (.builtin "len") [.raw _] _ _); refine c_lenM (by first | assumption | exact updM_same) ?_)
  | ((with_reducible show CallG _ _ (.type "list") [.tup _] _ _); refine c_listT ?_)
  | ((with_reducible show CallG _ _ (.type "tuple") [.lst _] _ _); refine c_tuple ?_)
  | ((with_reducible show CallG _ _ (.type "tuple") [.tup _] _ _); refine c_tupleT ?_)
  | ((with_reducible show CallG _ _ (.builtin "max") [.int _, .int _] _ _); refine c_max2 rfl ?_)
  | ((with_reducible show CallG _ _ (.builtin "min") [.int _, .int _] _ _); refine c_min2 rfl ?_)
  | ((with_reducible show IxG _ _ (.tup _) _ _ _); refine ix_tupD rfl ?_)
  | ((with_reducible show IxG _ _ (.raw _) _ _ _); refine ix_mlst (by first | assumption | exact updM_same) rfl ?_)
  | ((with_reducible show WA _ _ (_ :: _) _ _ _); refine wa_cons ?_)
  | ((with_reducible show WA _ _ [] _ _ _); refine wa_nil ?_))
section
variable {P : Program} {w : World} {K : PySem.W.Frag} {mg : Str → Option Value} {base : Heap}
/-- gaps: per times a list of numbers up to B, closed under divisors -/
def Cl (per B : Int) (gaps : List Int) : Prop := ∃ ds : List Int, gaps = ds.map (per * ·) ∧ ds.Pairwise (· < ·) ∧ (∀ d ∈ ds, 1 ≤ d ∧ d ≤ B) ∧ ∀ d ∈ ds, ∀ e, 0 < e → e ∣ d → e ∈ ds
theorem wf_cl {per B : Int} {gaps : List Int} (h : Cl per B gaps) (h1 : 1 ≤ per) (h2 : per ≤ 1000) (hB : B ≤ 1000) : Wf per gaps := by
  obtain ⟨ds, rfl, srt, hd, hc⟩ := h
  have nd : ds.Nodup := srt.imp fun {a b} q => by omega
  refine ⟨by omega, by omega, pw_map (fun a b q => Int.mul_lt_mul_of_pos_left q (by omega)) srt, ?_, fun g hg => ?_, fun g hg d hd0 hdv => ?_⟩
  · rw [List.length_map]
    have := nodup_len nd (m := (List.range 1000).map fun i : Nat => (i : Int) + 1) fun k hk => by
      have := hd k hk
      exact List.mem_map.mpr ⟨(k - 1).toNat, List.mem_range.mpr (by omega), by omega⟩
    simpa using this
  · obtain ⟨d, hd1, rfl⟩ := List.mem_map.mp hg
    have := hd d hd1
    have h3 : 0 < per * d := Int.mul_pos (by omega) (by omega)
    have h4 : per * d ≤ 1000 * 1000 := Int.mul_le_mul (by omega) (by omega) (by omega) (by omega)
    exact ⟨h3, by omega, Int.dvd_mul_right ..⟩
  · obtain ⟨x, hx, rfl⟩ := List.mem_map.mp hg
    have e : per * x / per = x := Int.mul_ediv_cancel_left x (by omega)
    rw [e] at hdv
    exact List.mem_map.mpr ⟨d, hc x hx d hd0 hdv, rfl⟩
/-! ### lengths drawn -/
def spLengths : SpD := fun xs M Q => ∃ p d, xs = [.raw (.ref p)] ∧ M p = some d ∧ BagD d ∧ ∀ per gaps d', 1 ≤ per → per ≤ 12 → Cl per 100 gaps → BagD d' → Q (lensD per gaps) (updM M p d')
theorem sc_lengths : FnScope ["bag", "per", "tops", "k", "d"] ["bag"] d__law_lengths.scope := ⟨rfl, rfl, rfl, by decide +kernel, rfl, by decide +kernel, by decide +kernel⟩
theorem cal_lengths (m : Md K mg base) : CalD P w K mg base 3 "_law_lengths" spLengths [] := by
  refine cal_of (d := d__law_lengths) rfl (fd__law_lengths m.c) (He.glo_ok m.i m.n (glo__law_lengths m.c)) sc_lengths (fun xs M Q ⟨a, b, e, _⟩ => by rw [e]; rfl) (fun _ _ _ _ _ _ us hl => match us, hl with | [_], _ => rfl) ?_
  rintro cdv A outer s H E hr xs M Q ⟨p, d, rfl, hM, hB, hQ⟩
  have nd := sc_lengths.nd
  have frange : mg "range" = none := He.free_ok m.i m.n (free_range m.c)
  have hsz : sizeLine = 16777216 := sizeLine_eq
  refine wss_cons (ws_set 1 nd rfl (we_bin (we_int (we_cal (cal_take m) hr (by decide) (wa2 (we_var 0 rfl rfl (we_int ⟨p, d, 12, rfl, hM, hB, by decide, by decide, fun z d1 hz0 hz1 hB1 => b_add ?_⟩)))))))
  generalize hper : 1 + z = per
  have hp1 : 1 ≤ per := by omega
  have hp2 : per ≤ 12 := by omega
  have hM1 : ∃ d, M p = some d := ⟨d, hM⟩
  refine wss_cut (fun ds1 M1 => ∃ (ns : List Int) (d2 : D), ds1 = [some (.raw (.ref p)), some (.int per), some (.lst (ns.map D.int)), none, none] ∧ ns.length ≤ 3 ∧ (∀ z ∈ ns, 1 ≤ z ∧ z ≤ 100) ∧ BagD d2 ∧ M1 = updM M p d2)
    (ws_lcG 2 (.nm 3) rfl nd rfl (own := [("k", 3)]) (blkOk_by (by kernel_rfl)) (by decide) (fun s0 H0 C cl fp => pg_name nd rfl (Or.inl rfl)) (R := fun n item M1 => n ≤ 3 ∧ item = (fun i => .int (i : Nat)) ∧ ∃ d2, M1 = updM M p d2 ∧ BagD d2) ?_ ?_) ?_
  · refine wi_range1 frange (wa1 (we_cal (cal_pick m) hr (by decide) (wa2 (we_var 0 rfl rfl ?_))))
    refine we_lst ?_
    repeat walk_at "dl"
    refine ⟨sz rfl, p, d1, _, rfl, updM_same, hB1, by decide, by decide, fun x d2 hx hB2 => ?_⟩
    rw [updM_updM]
    have hx2 : ∃ n : Nat, x = .int (n : Int) ∧ n ≤ 3 := by
      simp only [List.mem_cons, List.not_mem_nil, or_false] at hx
      rcases hx with rfl | rfl | rfl | rfl | rfl
      · exact ⟨0, rfl, by omega⟩
      · exact ⟨1, rfl, by omega⟩
      · exact ⟨1, rfl, by omega⟩
      · exact ⟨2, rfl, by omega⟩
      · exact ⟨3, rfl, by omega⟩
    obtain ⟨n, rfl, hn⟩ := hx2
    exact ⟨n, rfl, by omega, by omega, by omega, rfl, d2, rfl, hB2⟩
  · rintro n item M1 ⟨hn, rfl, d2, rfl, hB2⟩
    refine ⟨by omega, _, ⟨[], d2, rfl, rfl, fun z hz => (by cases hz), hB2, rfl⟩, ?_, lct_draw (P := fun z => 1 ≤ z ∧ z ≤ 100) (B := BagD) hM1 ?_⟩
    · rintro acc M2 ⟨ns, d3, rfl, hl, hP, hB3, rfl⟩
      exact ⟨ns, d3, rfl, by omega, hP, hB3, rfl⟩
    · intro i hi M' d3 hM3 hB3
      refine ⟨_, rfl, fun s0 H0 C cl fp => we_bin (we_int (we_cal (cal_take m) hr (by decide) (wa2 (we_var 0 rfl rfl (we_cal (cal_pick m) hr (by decide) (wa2 (we_var 0 rfl rfl ?_)))))))⟩
      refine we_lst ?_
      repeat walk_at "dl"
      refine ⟨sz rfl, p, d3, _, rfl, hM3, hB3, by decide, by decide, fun x d4 hx hB4 => ?_⟩
      have hx2 : ∃ n : Int, x = .int n ∧ 1 ≤ n ∧ n ≤ 100 := by
        simp only [List.mem_cons, List.not_mem_nil, or_false] at hx
        rcases hx with rfl | rfl | rfl
        · exact ⟨6, rfl, by omega, by omega⟩
        · exact ⟨20, rfl, by omega, by omega⟩
        · exact ⟨100, rfl, by omega, by omega⟩
      obtain ⟨n, rfl, hn1, hn2⟩ := hx2
      refine ⟨p, d4, n, rfl, updM_same, hB4, by omega, by omega, fun z d5 h1 h2 hB5 => b_add ⟨1 + z, d5, rfl, ⟨by omega, by omega⟩, hB5, by rw [updM_updM]⟩⟩
  · rintro ds1 M1 ⟨ns, d2, rfl, hl, hP, hB2, rfl⟩
    refine wss_one (ws_ret (we_tup (wa2 (we_var 1 rfl rfl ?_))))
    refine we_lcG (.nm 4) rfl nd (own := [("d", 4)]) (blkOk_by (by kernel_rfl)) (by decide) (fun s0 H0 C cl fp => pg_name nd rfl (Or.inl rfl)) (R := fun n item M1 => ∃ r : List Int, M1 = updM M p d2 ∧ n = r.length ∧ n ≤ sizeLine ∧ LI r D.int n item ∧ r.Pairwise (· < ·) ∧ (∀ d, d ∈ r ↔ 0 < d ∧ ∃ t ∈ ns, t % d = 0)) ?_ ?_
    · refine wi_list (we_cal (cal_closed m) hr (by decide) (wa1 (we_var 2 rfl rfl ⟨ns, rfl, fun t ht => ⟨by have := hP t ht; omega, by have := hP t ht; omega⟩, by omega, fun r h1 h2 => ⟨_, rfl, fun hz => ⟨r, rfl, by simp, hz, li_map r D.int, h1, h2⟩⟩⟩)))
    · rintro n item M1 ⟨r, rfl, _, hz, li, h1, h2⟩
      refine ⟨hz, _, ⟨rfl, rfl⟩, fun acc M2 ⟨e1, e2⟩ => ?_, lct_pure (p := fun _ => true) (f := fun d => .int (per * d)) li (PureM.t fun c hc M' hs => ⟨_, rfl, fun s0 H0 C cl fp => we_bin (we_var 1 rfl rfl (we_var 4 rfl rfl (b_mul (.inl ⟨by omega, by omega⟩) ⟨rfl, rfl⟩)))⟩)⟩
      subst e1
      rw [e2, li.1, List.take_length, filter_all]
      have hle : ∀ d ∈ r, 1 ≤ d ∧ d ≤ 100 := fun d hd => by
        obtain ⟨h3, t, ht, h4⟩ := (h2 d).mp hd
        have h5 := hP t ht
        have := Int.le_of_dvd (show 0 < t by omega) (Int.dvd_of_emod_eq_zero h4)
        omega
      have e3 : r.map (fun d => D.int (per * d)) = (r.map (per * ·)).map D.int := by rw [List.map_map]; rfl
      rw [e3]
      refine ⟨sz rfl, hQ per (r.map (per * ·)) d2 hp1 hp2 ⟨r, rfl, h1, fun d hd => hle d hd, fun d hd e he hde => ?_⟩ hB2⟩
      obtain ⟨h3, t, ht, h4⟩ := (h2 d).mp hd
      exact (h2 e).mpr ⟨he, t, ht, Int.emod_eq_zero_of_dvd (Int.dvd_trans hde (Int.dvd_of_emod_eq_zero h4))⟩
end
end K02

namespace K02
open PySem PySem.Spec L2 DL

local macro_rules | `(tactic| walk_at "dl") => `(tactic| first
  | ((with_reducible show WE _ _ (.Constant _ _ _) _ _ _); first | refine we_int ?_ | refine we_str ?_ | refine we_bl ?_ | refine we_non ?_)
  | ((with_reducible show WE _ _ (.Name _ _) _ _ _); first | refine we_var 0 rfl rfl ?_ | refine we_var 1 rfl rfl ?_ | refine we_var 2 rfl rfl ?_ | refine we_var 3 rfl rfl ?_ | refine we_var 4 rfl rfl ?_ | refine we_var 5 rfl rfl ?_ | refine we_var 6 rfl rfl ?_ | refine we_var 7 rfl rfl ?_ | refine we_var 8 rfl rfl ?_ | refine we_var 9 rfl rfl ?_ | refine we_var 10 rfl rfl ?_ | refine we_var 11 rfl rfl ?_ | refine we_var 12 rfl rfl ?_ | refine we_var 13 rfl rfl ?_ | refine we_var 14 rfl rfl ?_ | refine we_var 15 rfl rfl ?_)
  | ((with_reducible show WE _ _ (.BinOp _ _ _ _) _ _ _); refine we_bin ?_)
  | ((with_reducible show WE _ _ (.Compare _ [_] [_] _) _ _ _); refine we_cmp ?_)
  | ((with_reducible show WT _ _ (.Compare _ [_] [_] _) _ _ _); refine wt_cmp ?_)
  | ((with_reducible show WE _ _ (.UnaryOp .USub _ _) _ _ _); refine we_un ?_)
  | ((with_reducible show WT _ _ (.UnaryOp .Not _ _) _ _ _); refine wt_not ?_)
  | ((with_reducible show WE _ _ (.IfExp _ _ _ _) _ _ _); refine we_ifx ?_)
  | ((with_reducible show WE _ _ (.Subscript _ (.Name _ _) _) _ _ _); refine we_ix ?_)
  | ((with_reducible show WE _ _ (.Subscript _ (.Constant _ _ _) _) _ _ _); refine we_ix ?_)
  | ((with_reducible show WE _ _ (.Subscript _ (.Subscript _ _ _) _) _ _ _); refine we_ix ?_)
  | ((with_reducible show WE _ _ (.Subscript _ (.BinOp _ _ _ _) _) _ _ _); refine we_ix ?_)
  | ((with_reducible show WE _ _ (.Subscript _ (.UnaryOp _ _ _) _) _ _ _); refine we_ix ?_)
  | ((with_reducible show WE _ _ (.Subscript _ (.Call _ _ _ _) _) _ _ _); refine we_ix ?_)
  | ((with_reducible show WE _ _ (.Call (.Name "len" _) [_] [] _) _ _ _); refine we_b1 (by assumption) bb_len ?_)
  | ((with_reducible show WE _ _ (.Call (.Name "abs" _) [_] [] _) _ _ _); refine we_b1 (by assumption) bb_abs ?_)
  | ((with_reducible show WE _ _ (.Call (.Name "int" _) [_] [] _) _ _ _); refine we_t1 (by assumption) bb_int ?_)
  | ((with_reducible show WE _ _ (.Call (.Name "list" _) [_] [] _) _ _ _); refine we_t1 (by assumption) bb_list ?_)
  | ((with_reducible show WE _ _ (.Call (.Name "tuple" _) [_] [] _) _ _ _); refine we_t1 (by assumption) bb_tuple ?_)
  | ((with_reducible show WE _ _ (.Call (.Name "str" _) [_] [] _) _ _ _); refine we_t1 (by assumption) bb_str ?_)
  | ((with_reducible show WE _ _ (.Call (.Name "set" _) [_] [] _) _ _ _); refine we_t1 (by assumption) bb_set ?_)
  | ((with_reducible show WE _ _ (.Call (.Name "sorted" _) [_] [] _) _ _ _); refine we_b1 (by assumption) bb_sorted ?_)
  | ((with_reducible show WE _ _ (.Call (.Name "isinstance" _) [_, _] [] _) _ _ _); refine we_b2 (by assumption) bb_isinstance ?_)
  | ((with_reducible show WE _ _ (.Call (.Name "max" _) [_] [] _) _ _ _); refine we_b1 (by assumption) bb_max ?_)
  | ((with_reducible show WE _ _ (.Call (.Name "min" _) [_] [] _) _ _ _); refine we_b1 (by assumption) bb_min ?_)
  | ((with_reducible show WE _ _ (.Call (.Name "max" _) [_, _] [] _) _ _ _); refine we_b2 (by assumption) bb_max ?_)
  | ((with_reducible show WE _ _ (.Call (.Name "min" _) [_, _] [] _) _ _ _); refine we_b2 (by assumption) bb_min ?_)
  | ((with_reducible show BinG _ _ (binaryOp .Add) (.int _) (.int _) _ _); refine b_add ?_)
  | ((with_reducible show BinG _ _ (binaryOp .Sub) (.int _) (.int _) _ _); refine b_sub ?_)
  | ((with_reducible show BinG _ _ (binaryOp .Mod) (.int _) (.int _) _ _); refine b_mod (by omega) ?_)
  | ((with_reducible show BinG _ _ (binaryOp .FloorDiv) (.int _) (.int _) _ _); refine b_div ⟨by omega, by omega⟩ ?_)
  | ((with_reducible show BinG _ _ (binaryOp .Mult) (.int _) (.int _) _ _); first | refine b_mul (.inr ⟨by omega, by omega⟩) ?_ | refine b_mul (.inl ⟨by omega, by omega⟩) ?_)
  | ((with_reducible show BinG _ _ (compareOp .Lt) (.int _) (.int _) _ _); refine b_lt ?_)
  | ((with_reducible show BinG _ _ (compareOp .LtE) (.int _) (.int _) _ _); refine b_le ?_)
  | ((with_reducible show BinG _ _ (compareOp .Gt) (.int _) (.int _) _ _); refine b_gt ?_)
  | ((with_reducible show BinG _ _ (compareOp .GtE) (.int _) (.int _) _ _); refine b_ge ?_)
  | ((with_reducible show BinG _ _ (compareOp .Eq) (.int _) (.int _) _ _); refine b_eqI (by assumption) ?_)
  | ((with_reducible show BinG _ _ (compareOp .NotEq) (.int _) (.int _) _ _); refine b_neI (by assumption) ?_)
  | ((with_reducible show UnG _ _ (unaryOp .USub) (.int _) _ _); refine b_neg ?_)
  | (with_reducible refine ex_bl ?_)
  | ((with_reducible show CallG _ _ (.type "int") [.int _] _ _); refine c_int ?_)
  | ((with_reducible show CallG _ _ (.type "int") [.bl _] _ _); refine c_intB ?_)
  | ((with_reducible show CallG _ _ (.builtin "abs") _ _ _); refine c_abs ?_)
  | ((with_reducible show CallG _ _ (.builtin "len") [.lst _] _ _); refine c_len ?_)
  | ((with_reducible show CallG _ _ (.builtin "len") [.tup _] _ _); refine c_lenT ?_)
  | ((with_reducible show CallG _ _ (.builtin "len") [.raw _] _ _); refine c_lenM (by first | assumption | exact updM_same) ?_)
  | ((with_reducible show CallG _ _ (.type "list") [.tup _] _ _); refine c_listT ?_)
  | ((with_reducible show CallG _ _ (.type "tuple") [.lst _] _ _); refine c_tuple ?_)
  | ((with_reducible show CallG _ _ (.type "tuple") [.tup _] _ _); refine c_tupleT ?_)
  | ((with_reducible show CallG _ _ (.builtin "max") [.int _, .int _] _ _); refine c_max2 rfl ?_)
  | ((with_reducible show CallG _ _ (.builtin "min") [.int _, .int _] _ _); refine c_min2 rfl ?_)
  | ((with_reducible show IxG _ _ (.tup _) _ _ _); refine ix_tupD rfl ?_)
  | ((with_reducible show IxG _ _ (.raw _) _ _ _); refine ix_mlst (by first | assumption | exact updM_same) rfl ?_)
  | ((with_reducible show WA _ _ (_ :: _) _ _ _); refine wa_cons ?_)
  | ((with_reducible show WA _ _ [] _ _ _); refine wa_nil ?_))
section
variable {P : Program} {w : World} {K : PySem.W.Frag} {mg : Str → Option Value} {base : Heap}
/-! ### an object of drawn items -/
def spObject (K : PySem.W.Frag) : SpD := fun xs M Q => ∃ p d per gaps, xs = [.raw (.ref p), lensD per gaps] ∧ M p = some d ∧ BagD d ∧ Wf per gaps ∧ ∀ d', BagD d' → Q (lenD K per gaps) (updM M p d')
theorem sc_object : FnScope ["bag", "lens", "told"] ["bag", "lens"] d__law_object.scope := ⟨rfl, rfl, rfl, by decide +kernel, rfl, by decide +kernel, by decide +kernel⟩
theorem cal_object (m : Md K mg base) : CalD P w K mg base 6 "_law_object" (spObject K) [] := by
  refine cal_of (d := d__law_object) rfl (fd__law_object m.c) (He.glo_ok m.i m.n (glo__law_object m.c)) sc_object (fun xs M Q ⟨a, b, c, d, e, _⟩ => by rw [e]; rfl) (fun _ _ _ _ _ _ us hl => match us, hl with | [_, _], _ => rfl) ?_
  rintro cdv A outer s H E hr xs M Q ⟨p, d, per, gaps, rfl, hM, hB, wf, hQ⟩
  have nd := sc_object.nd
  have ftuple : mg "tuple" = none := He.free_ok m.i m.n (free_tuple m.c)
  have hsz : sizeLine = 16777216 := sizeLine_eq
  have hgl := wf.len
  refine wss_cut (fun ds1 M1 => ∃ (ts : List Int) (d2 : D), ds1 = [some (.raw (.ref p)), some (lensD per gaps), some (.lst (ts.map D.int))] ∧ BagD d2 ∧ M1 = updM M p d2 ∧ (∀ x, x ∈ ts ↔ x ∈ gaps) ∧ ts.length ≤ 4000) (ws_set 2 nd rfl (we_cal (cal_mixed m) hr (by decide) (wa2 (we_var 0 rfl rfl (we_bin ?_))))) ?_
  · repeat walk_at "dl"
    refine we_slice ?_
    repeat walk_at "dl"
    refine wo_none (wo_some (we_cal (cal_take m) hr (by decide) (wa2 (we_var 0 rfl rfl (we_int ⟨p, d, 3, rfl, hM, hB, by decide, by decide, fun z d1 h1 h2 hB1 => ⟨_, rfl, _, .lst _ _ _, ?_⟩⟩)))))
    obtain ⟨ms, e, hms⟩ := cut_ints (ns := gaps) (lo := none) (hi := some z)
    have hml : ms.length ≤ gaps.length := by
      have : (ms.map D.int).length ≤ (gaps.map D.int).length := by
        rw [← e]; unfold DL.cutD; rw [List.length_take, List.length_drop]; omega
      simpa using this
    rw [e]
    refine b_addLI gaps ms (by omega) ⟨p, d1, _, rfl, updM_same, hB1, by rw [List.length_map, List.length_append]; omega, fun zs d2 hp hB2 => ?_⟩
    rw [updM_updM]
    obtain ⟨ts, rfl, hts⟩ := perm_ints hp
    refine ⟨ts, d2, rfl, hB2, rfl, fun x => ?_, ?_⟩
    · rw [hts.mem_iff, List.mem_append]
      exact ⟨fun h => h.elim id (hms x), .inl⟩
    · rw [hts.length_eq, List.length_append]; omega
  · rintro ds1 M1 ⟨ts, d2, rfl, hB2, rfl, hmem, hl⟩
    refine wss_one (ws_ret (we_ifx (wt_cmp (we_cal (cal_take m) hr (by decide) (wa2 (we_var 0 rfl rfl (we_int ⟨p, d2, 2, rfl, updM_same, hB2, by decide, by decide, fun z d3 h1 h2 hB3 => we_int (b_eqI hr ⟨_, rfl, fun _ => ?_, fun _ => ?_⟩)⟩)))))))
    · rw [updM_updM]
      refine we_makX (ED := fun _ _ _ _ => False) (mak_len m) takes_no hr (by decide) (wa2 ?_)
      repeat walk_at "dl"
      exact fun q hq => init_ok wf (.inl rfl) hmem hl hq (hQ d3 hB3)
    · rw [updM_updM]
      refine we_mak2 (mak_lenK m) hr (by decide) ?_
      repeat walk_at "dl"
      exact fun q hq => init_ok wf (.inr rfl) hmem hl hq (hQ d3 hB3)
end
end K02

namespace K02
open PySem PySem.Spec L2 DL

local macro_rules | `(tactic| walk_at "dl") => `(tactic| first
  | ((with_reducible show WE _ _ (.Constant _ _ _) _ _ _); first | refine we_int ?_ | refine we_str ?_ | refine we_bl ?_ | refine we_non ?_)
  | ((with_reducible show WE _ _ (.Name _ _) _ _ _); first | refine we_var 0 rfl rfl ?_ | refine we_var 1 rfl rfl ?_ | refine we_var 2 rfl rfl ?_ | refine we_var 3 rfl rfl ?_ | refine we_var 4 rfl rfl ?_ | refine we_var 5 rfl rfl ?_ | refine we_var 6 rfl rfl ?_ | refine we_var 7 rfl rfl ?_ | refine we_var 8 rfl rfl ?_ | refine we_var 9 rfl rfl ?_ | refine we_var 10 rfl rfl ?_ | refine we_var 11 rfl rfl ?_ | refine we_var 12 rfl rfl ?_ | refine we_var 13 rfl rfl ?_ | refine we_var 14 rfl rfl ?_ | refine we_var 15 rfl rfl ?_)
  | ((with_reducible show WE _ _ (.BinOp _ _ _ _) _ _ _); refine we_bin ?_)
  | ((with_reducible show WE _ _ (.Compare _ [_] [_] _) _ _ _); refine we_cmp ?_)
  | ((with_reducible show WT _ _ (.Compare _ [_] [_] _) _ _ _); refine wt_cmp ?_)
  | ((with_reducible show WE _ _ (.UnaryOp .USub _ _) _ _ _); refine we_un ?_)
  | ((with_reducible show WT _ _ (.UnaryOp .Not _ _) _ _ _); refine wt_not ?_)
  | ((with_reducible show WE _ _ (.IfExp _ _ _ _) _ _ _); refine we_ifx ?_)
  | ((with_reducible show WE _ _ (.Subscript _ (.Name _ _) _) _ _ _); refine we_ix ?_)
  | ((with_reducible show WE _ _ (.Subscript _ (.Constant _ _ _) _) _ _ _); refine we_ix ?_)
  | ((with_reducible show WE _ _ (.Subscript _ (.Subscript _ _ _) _) _ _ _); refine we_ix ?_)
  | ((with_reducible show WE _ _ (.Subscript _ (.BinOp _ _ _ _) _) _ _ _); refine we_ix ?_)
  | ((with_reducible show WE _ _ (.Subscript _ (.UnaryOp _ _ _) _) _ _ _); refine we_ix ?_)
  | ((with_reducible show WE _ _ (.Subscript _ (.Call _ _ _ _) _) _ _ _); refine we_ix ?_)
  | ((with_reducible show WE _ _ (.Call (.Name "len" _) [_] [] _) _ _ _); refine we_b1 (by assumption) bb_len ?_)
  | ((with_reducible show WE _ _ (.Call (.Name "abs" _) [_] [] _) _ _ _); refine we_b1 (by assumption) bb_abs ?_)
  | ((with_reducible show WE _ _ (.Call (.Name "int" _) [_] [] _) _ _ _); refine we_t1 (by assumption) bb_int ?_)
  | ((with_reducible show WE _ _ (.Call (.Name "list" _) [_] [] _) _ _ _); refine we_t1 (by assumption) bb_list ?_)
  | ((with_reducible show WE _ _ (.Call (.Name "tuple" _) [_] [] _) _ _ _); refine we_t1 (by assumption) bb_tuple ?_)
  | ((with_reducible show WE _ _ (.Call (.Name "str" _) [_] [] _) _ _ _); refine we_t1 (by assumption) bb_str ?_)
  | ((with_reducible show WE _ _ (.Call (.Name "set" _) [_] [] _) _ _ _); refine we_t1 (by assumption) bb_set ?_)
  | ((with_reducible show WE _ _ (.Call (.Name "sorted" _) [_] [] _) _ _ _); refine we_b1 (by assumption) bb_sorted ?_)
  | ((with_reducible show WE _ _ (.Call (.Name "isinstance" _) [_, _] [] _) _ _ _); refine we_b2 (by assumption) bb_isinstance ?_)
  | ((with_reducible show WE _ _ (.Call (.Name "max" _) [_] [] _) _ _ _); refine we_b1 (by assumption) bb_max ?_)
  | ((with_reducible show WE _ _ (.Call (.Name "min" _) [_] [] _) _ _ _); refine we_b1 (by assumption) bb_min ?_)
  | ((with_reducible show WE _ _ (.Call (.Name "max" _) [_, _] [] _) _ _ _); refine we_b2 (by assumption) bb_max ?_)
  | ((with_reducible show WE _ _ (.Call (.Name "min" _) [_, _] [] _) _ _ _); refine we_b2 (by assumption) bb_min ?_)
  | ((with_reducible show BinG _ _ (binaryOp .Add) (.int _) (.int _) _ _); refine b_add ?_)
  | ((with_reducible show BinG _ _ (binaryOp .Sub) (.int _) (.int _) _ _); refine b_sub ?_)
  | ((with_reducible show BinG _ _ (binaryOp .Mod) (.int _) (.int _) _ _); refine b_mod (by omega) ?_)
  | ((with_reducible show BinG _ _ (binaryOp .FloorDiv) (.int _) (.int _) _ _); refine b_div ⟨by omega, by omega⟩ ?_)
  | ((with_reducible show BinG _ _ (binaryOp .Mult) (.int _) (.int _) _ _); first | refine b_mul (.inr ⟨by omega, by omega⟩) ?_ | refine b_mul (.inl ⟨by omega, by omega⟩) ?_)
  | ((with_reducible show BinG _ _ (compareOp .Lt) (.int _) (.int _) _ _); refine b_lt ?_)
  | ((with_reducible show BinG _ _ (compareOp .LtE) (.int _) (.int _) _ _); refine b_le ?_)
  | ((with_reducible show BinG _ _ (compareOp .Gt) (.int _) (.int _) _ _); refine b_gt ?_)
  | ((with_reducible show BinG _ _ (compareOp .GtE) (.int _) (.int _) _ _); refine b_ge ?_)
  | ((with_reducible show BinG _ _ (compareOp .Eq) (.int _) (.int _) _ _); refine b_eqI (by assumption) ?_)
  | ((with_reducible show BinG _ _ (compareOp .NotEq) (.int _) (.int _) _ _); refine b_neI (by assumption) ?_)
  | ((with_reducible show UnG _ _ (unaryOp .USub) (.int _) _ _); refine b_neg ?_)
  | (with_reducible refine ex_bl ?_)
  | ((with_reducible show CallG _ _ (.type "int") [.int _] _ _); refine c_int ?_)
  | ((with_reducible show CallG _ _ (.type "int") [.bl _] _ _); refine c_intB ?_)
  | ((with_reducible show CallG _ _ (.builtin "abs") _ _ _); refine c_abs ?_)
  | ((with_reducible show CallG _ _ (.builtin "len") [.lst _] _ _); refine c_len ?_)
  | ((with_reducible show CallG _ _ (.builtin "len") [.tup _] _ _); refine c_lenT ?_)
  | ((with_reducible show CallG _ _ (.builtin "len") [.raw _] _ _); refine c_lenM (by first | assumption | exact updM_same) ?_)
  | ((with_reducible show CallG _ _ (.type "list") [.tup _] _ _); refine c_listT ?_)
  | ((with_reducible show CallG _ _ (.type "tuple") [.lst _] _ _); refine c_tuple ?_)
  | ((with_reducible show CallG _ _ (.type "tuple") [.tup _] _ _); refine c_tupleT ?_)
  | ((with_reducible show CallG _ _ (.builtin "max") [.int _, .int _] _ _); refine c_max2 rfl ?_)
  | ((with_reducible show CallG _ _ (.builtin "min") [.int _, .int _] _ _); refine c_min2 rfl ?_)
  | ((with_reducible show IxG _ _ (.tup _) _ _ _); refine ix_tupD rfl ?_)
  | ((with_reducible show IxG _ _ (.raw _) _ _ _); refine ix_mlst (by first | assumption | exact updM_same) rfl ?_)
  | ((with_reducible show WA _ _ (_ :: _) _ _ _); refine wa_cons ?_)
  | ((with_reducible show WA _ _ [] _ _ _); refine wa_nil ?_))
section
variable {P : Program} {w : World} {K : PySem.W.Frag} {mg : Str → Option Value} {base : Heap}
abbrev lcmI (a b : Int) : Int := ((Int.lcm a b : Nat) : Int)
theorem lcm_pos {a b : Int} (h1 : 0 < a) (h2 : 0 < b) : 0 < lcmI a b := by
  have e : Int.lcm a b = Nat.lcm a.natAbs b.natAbs := rfl
  have := Nat.lcm_pos (m := a.natAbs) (n := b.natAbs) (by omega) (by omega)
  show (0 : Int) < ((Int.lcm a b : Nat) : Int)
  omega
theorem lcm_eq {a b : Int} (h1 : 0 < a) (h2 : 0 < b) : a * b / ((Int.gcd a b : Nat) : Int) = lcmI a b := by
  obtain ⟨x, rfl⟩ := Int.eq_ofNat_of_zero_le (show 0 ≤ a by omega)
  obtain ⟨y, rfl⟩ := Int.eq_ofNat_of_zero_le (show 0 ≤ b by omega)
  show ((x : Int) * (y : Int)) / ((Nat.gcd x y : Nat) : Int) = ((x * y / Nat.gcd x y : Nat) : Int)
  rw [Int.natCast_ediv, Int.natCast_mul]
theorem clo_side {p L : Int} {g : List Int} (wf : Wf p g) (hL : 0 < L) (hp : p ∣ L) {x d : Int} (hx : x ∈ g) (hxL : L ∣ x) (h0 : 0 < d) (hd : d ∣ x / L) : L * d ∈ g := by
  obtain ⟨z, rfl⟩ := hxL
  rw [Int.mul_ediv_cancel_left z (by omega)] at hd
  obtain ⟨c, rfl⟩ := hp
  have hpp := wf.pos
  have hc : 0 < c := pos_r hpp hL
  have e : p * c * z / p = c * z := by rw [Int.mul_assoc]; exact Int.mul_ediv_cancel_left _ (by omega)
  have := wf.clo _ hx (c * d) (Int.mul_pos hc h0) (by rw [e]; exact Int.mul_dvd_mul_left c hd)
  rwa [← Int.mul_assoc] at this
theorem wf_both {p1 p2 : Int} {g1 g2 R : List Int} (w1 : Wf p1 g1) (w2 : Wf p2 g2) (hL : lcmI p1 p2 ≤ 100000) (hl : g1.length + g2.length ≤ 1000) (srt : R.Pairwise (· < ·)) (hR : ∀ x, x ∈ R ↔ (x ∈ g1 ∨ x ∈ g2) ∧ x % lcmI p1 p2 = 0) : Wf (lcmI p1 p2) R := by
  have h0 := lcm_pos w1.pos w2.pos
  have nd : R.Nodup := srt.imp fun {a b} q => by omega
  refine ⟨h0, hL, srt, ?_, fun g hg => ?_, fun g hg d hd1 hd2 => ?_⟩
  · have := nodup_len nd (m := g1 ++ g2) fun k hk => List.mem_append.mpr ((hR k).mp hk).1
    rw [List.length_append] at this
    omega
  · obtain ⟨h1, h2⟩ := (hR g).mp hg
    have hb : 0 < g ∧ g ≤ 100000000 := by
      rcases h1 with h | h
      · exact ⟨(w1.mul g h).1, (w1.mul g h).2.1⟩
      · exact ⟨(w2.mul g h).1, (w2.mul g h).2.1⟩
    exact ⟨hb.1, hb.2, Int.dvd_of_emod_eq_zero h2⟩
  · obtain ⟨h1, h2⟩ := (hR g).mp hg
    have h3 := Int.dvd_of_emod_eq_zero h2
    refine (hR _).mpr ⟨h1.imp (fun h => ?_) (fun h => ?_), Int.mul_emod_right ..⟩
    · exact clo_side w1 h0 (Int.dvd_lcm_left ..) h h3 hd1 hd2
    · exact clo_side w2 h0 (Int.dvd_lcm_right ..) h h3 hd1 hd2
def spLBoth : SpD := fun xs M Q => ∃ p1 g1 p2 g2, xs = [lensD p1 g1, lensD p2 g2] ∧ Wf p1 g1 ∧ Wf p2 g2 ∧ lcmI p1 p2 ≤ 100000 ∧ g1.length + g2.length ≤ 1000 ∧ (∀ g ∈ g1, g ≤ 1000000) ∧ (∀ g ∈ g2, g ≤ 1000000) ∧
  ∀ R, Wf (lcmI p1 p2) R → (∀ x, x ∈ R ↔ (x ∈ g1 ∨ x ∈ g2) ∧ x % lcmI p1 p2 = 0) → Q (lensD (lcmI p1 p2) R) M
theorem sc_lboth : FnScope ["one", "other", "per", "last", "n"] ["one", "other"] d__law_both.scope := ⟨rfl, rfl, rfl, by decide +kernel, rfl, by decide +kernel, by decide +kernel⟩
theorem cal_lboth (m : Md K mg base) : CalD P w K mg base 2 "_law_both" spLBoth [] := by
  refine cal_of (d := d__law_both) rfl (fd__law_both m.c) (He.glo_ok m.i m.n (glo__law_both m.c)) sc_lboth (fun xs M Q ⟨a, b, c, d, e, _⟩ => by rw [e]; rfl) (fun _ _ _ _ _ _ us hl => match us, hl with | [_, _], _ => rfl) ?_
  rintro cdv A outer s H E hr xs M Q ⟨p1, g1, p2, g2, rfl, w1, w2, hLB, hlen, hg1, hg2, hQ⟩
  have nd := sc_lboth.nd
  have fmax : mg "max" = none := He.free_ok m.i m.n (free_max m.c)
  have frange : mg "range" = none := He.free_ok m.i m.n (free_range m.c)
  have hsz : sizeLine = 16777216 := sizeLine_eq
  have h1 := w1.pos
  have h1B := w1.perB
  have h2 := w2.pos
  have h2B := w2.perB
  have hL := lcm_pos h1 h2
  have hgp : 0 < Int.gcd p1 p2 := Int.gcd_pos_of_ne_zero_left _ (by omega)
  have hgle : ((Int.gcd p1 p2 : Nat) : Int) ≤ p1 := Int.le_of_dvd h1 (Int.gcd_dvd_left ..)
  refine wss_cut (fun ds1 M1 => ds1 = [some (lensD p1 g1), some (lensD p2 g2), some (.int (lcmI p1 p2)), none, none] ∧ M1 = M) (ws_set 2 nd rfl (we_bin (we_bin ?_))) ?_
  · repeat walk_at "dl"
    refine we_cal (cal_gcd m) hr (by decide) (wa2 ?_)
    repeat walk_at "dl"
    refine ⟨p1.toNat, p2.toNat, by rw [Int.toNat_of_nonneg (by omega), Int.toNat_of_nonneg (by omega)]; rfl, ?_⟩
    have e1 : Nat.gcd p1.toNat p2.toNat = Int.gcd p1 p2 := by
      have : Int.gcd p1 p2 = Nat.gcd p1.natAbs p2.natAbs := rfl
      rw [this]
      congr 1 <;> omega
    rw [e1]
    refine b_div ⟨by omega, by omega⟩ ?_
    rw [lcm_eq h1 h2]
    exact ⟨rfl, rfl⟩
  rintro ds1 M1 ⟨rfl, rfl⟩
  refine wss_cut (fun ds1 M2 => ∃ last : Int, ds1 = [some (lensD p1 g1), some (lensD p2 g2), some (.int (lcmI p1 p2)), some (.int last), none] ∧ M2 = M1 ∧ (∀ g, g ∈ g1 ∨ g ∈ g2 → g ≤ last) ∧ 0 ≤ last ∧ last ≤ 1000000) (ws_set 3 nd rfl (we_b1 fmax bb_max (we_bin (we_bin ?_)))) ?_
  · repeat walk_at "dl"
    refine b_addLI g1 g2 (by omega) ?_
    refine we_lst ?_
    repeat walk_at "dl"
    refine ⟨sz rfl, b_addLI (g1 ++ g2) [0] (by simp; omega) (c_maxL rfl (by simp; omega) fun mx hmx hmy => ?_)⟩
    refine ⟨mx, rfl, rfl, fun g hg => hmy g (List.mem_append_left _ (List.mem_append.mpr hg)), hmy 0 (by simp), ?_⟩
    rcases List.mem_append.mp hmx with h | h
    · exact (List.mem_append.mp h).elim (hg1 _) (hg2 _)
    · simp at h; omega
  rintro ds1 M2 ⟨last, rfl, rfl, hlast, hl0, hl1⟩
  refine wss_one (ws_ret (we_tup (wa2 (we_var 2 rfl rfl ?_))))
  generalize hLL : lcmI p1 p2 = L at *
  have hrg := rgc_pos (i := L) (j := last + 1) (c := L) hL (by omega) (by omega) (by omega) (by omega) (by omega)
  have hnle : (if L < last + 1 then ((last + 1 - L - 1) / L + 1).toNat else 0) ≤ 1000001 := by
    split
    · have := Int.ediv_le_self L (show 0 ≤ last + 1 - L - 1 by omega)
      omega
    · omega
  have hnin : ∀ e : Int, 1 ≤ e → L * e ≤ last → (e - 1).toNat < (if L < last + 1 then ((last + 1 - L - 1) / L + 1).toNat else 0) := fun e he h => by
    have h5 : L * 1 ≤ L * e := Int.mul_le_mul_of_nonneg_left he (by omega)
    rw [if_pos (by omega)]
    have : e - 1 ≤ (last + 1 - L - 1) / L := by
      refine Int.le_ediv_of_mul_le hL ?_
      rw [Int.sub_mul, Int.mul_comm e]
      omega
    omega
  generalize hN : (if L < last + 1 then ((last + 1 - L - 1) / L + 1).toNat else 0) = N at hrg hnle hnin
  refine we_lcP (.nm 4) (List.range N) (fun l : Nat => .int (L + (l : Nat) * L)) (fun l => decide (L + (l : Nat) * L ∈ g1 ∨ L + (l : Nat) * L ∈ g2)) (fun l => .int (L + (l : Nat) * L)) rfl nd (own := [("n", 4)]) (blkOk_by (by kernel_rfl)) (by decide) (fun s0 H0 C cl fp => pg_name nd rfl (Or.inl rfl)) (wi_range3 frange (wa3 ?_))
  repeat walk_at "dl"
  refine ⟨_, _, _, N, rfl, hrg, by omega, li_range _ _, ?_, sz rfl, ?_⟩
  · intro c hc M' hs
    refine ⟨_, rfl, fun s0 H0 C cl fp => wts_one (wt_w (ww_or (wt_cmp ?_))), fun _ s0 H0 C cl fp => we_var 4 rfl rfl ⟨rfl, rfl⟩⟩
    repeat walk_at "dl"
    refine b_in ⟨_, rfl, fun h => ⟨?_, rfl⟩, fun h => ww_or1 (wt_cmp ?_)⟩
    · exact (decide_eq_true (.inl (of_decide_eq_true h))).symm
    · repeat walk_at "dl"
      refine b_in ⟨_, rfl, ?_, rfl⟩
      have := of_decide_eq_false h
      simp only [this, false_or]
  · have e3 : ((List.range N).filter fun l => decide (L + (l : Nat) * L ∈ g1 ∨ L + (l : Nat) * L ∈ g2)).map (fun l => D.int (L + (l : Nat) * L)) = (((List.range N).filter fun l => decide (L + (l : Nat) * L ∈ g1 ∨ L + (l : Nat) * L ∈ g2)).map fun l : Nat => L + (l : Int) * L).map D.int := by rw [List.map_map]; rfl
    rw [e3]
    have srt : (((List.range N).filter fun l => decide (L + (l : Nat) * L ∈ g1 ∨ L + (l : Nat) * L ∈ g2)).map fun l : Nat => L + (l : Int) * L).Pairwise (· < ·) := by
      rw [List.pairwise_map]
      refine (List.pairwise_lt_range.filter _).imp fun {a b} h => ?_
      have := Int.mul_lt_mul_of_pos_right (show (a : Int) < b by omega) hL
      omega
    have hmem : ∀ x, x ∈ (((List.range N).filter fun l => decide (L + (l : Nat) * L ∈ g1 ∨ L + (l : Nat) * L ∈ g2)).map fun l : Nat => L + (l : Int) * L) ↔ (x ∈ g1 ∨ x ∈ g2) ∧ x % L = 0 := fun x => by
      simp only [List.mem_map, List.mem_filter, List.mem_range, decide_eq_true_eq]
      constructor
      · rintro ⟨l, ⟨_, h⟩, rfl⟩
        refine ⟨h, ?_⟩
        rw [show L + (l : Int) * L = L * (1 + l) by rw [Int.mul_add, Int.mul_one, Int.mul_comm]]
        exact Int.mul_emod_right ..
      · rintro ⟨h, h6⟩
        obtain ⟨e, he⟩ := Int.dvd_of_emod_eq_zero h6
        have hx0 : 0 < x := h.elim (fun h => (w1.mul x h).1) (fun h => (w2.mul x h).1)
        have he0 : 0 < e := pos_r hL (by rw [← he]; exact hx0)
        have e5 : L + ((e - 1).toNat : Nat) * L = x := by
          rw [show (((e - 1).toNat : Nat) : Int) = e - 1 by omega, Int.sub_mul, he, Int.mul_comm e]
          omega
        exact ⟨(e - 1).toNat, ⟨hnin e (by omega) (by rw [← he]; exact hlast x h), by rw [e5]; exact h⟩, e5⟩
    subst hLL
    exact hQ _ (wf_both w1 w2 hLB hlen srt hmem) hmem
end
end K02

namespace K02
open PySem PySem.Spec L2 DL

local macro_rules | `(tactic| walk_at "dl") => `(tactic| first
  | ((with_reducible show WE _ _ (.Constant _ _ _) _ _ _); first | refine we_int ?_ | refine we_str ?_ | refine we_bl ?_ | refine we_non ?_)
  | ((with_reducible show WE _ _ (.Name _ _) _ _ _); first | refine we_var 0 rfl rfl ?_ | refine we_var 1 rfl rfl ?_ | refine we_var 2 rfl rfl ?_ | refine we_var 3 rfl rfl ?_ | refine we_var 4 rfl rfl ?_ | refine we_var 5 rfl rfl ?_ | refine we_var 6 rfl rfl ?_ | refine we_var 7 rfl rfl ?_ | refine we_var 8 rfl rfl ?_ | refine we_var 9 rfl rfl ?_ | refine we_var 10 rfl rfl ?_ | refine we_var 11 rfl rfl ?_ | refine we_var 12 rfl rfl ?_ | refine we_var 13 rfl rfl ?_ | refine we_var 14 rfl rfl ?_ | refine we_var 15 rfl rfl ?_)
  | ((with_reducible show WE _ _ (.BinOp _ _ _ _) _ _ _); refine we_bin ?_)
  | ((with_reducible show WE _ _ (.Compare _ [_] [_] _) _ _ _); refine we_cmp ?_)
  | ((with_reducible show WT _ _ (.Compare _ [_] [_] _) _ _ _); refine wt_cmp ?_)
  | ((with_reducible show WE _ _ (.UnaryOp .USub _ _) _ _ _); refine we_un ?_)
  | ((with_reducible show WT _ _ (.UnaryOp .Not _ _) _ _ _); refine wt_not ?_)
  | ((with_reducible show WE _ _ (.IfExp _ _ _ _) _ _ _); refine we_ifx ?_)
  | ((with_reducible show WE _ _ (.Subscript _ (.Name _ _) _) _ _ _); refine we_ix ?_)
  | ((with_reducible show WE _ _ (.Subscript _ (.Constant _ _ _) _) _ _ _); refine we_ix ?_)
  | ((with_reducible show WE _ _ (.Subscript _ (.Subscript _ _ _) _) _ _ _); refine we_ix ?_)
  | ((with_reducible show WE _ _ (.Subscript _ (.BinOp _ _ _ _) _) _ _ _); refine we_ix ?_)
  | ((with_reducible show WE _ _ (.Subscript _ (.UnaryOp _ _ _) _) _ _ _); refine we_ix ?_)
  | ((with_reducible show WE _ _ (.Subscript _ (.Call _ _ _ _) _) _ _ _); refine we_ix ?_)
  | ((with_reducible show WE _ _ (.Call (.Name "len" _) [_] [] _) _ _ _); refine we_b1 (by assumption) bb_len ?_)
  | ((with_reducible show WE _ _ (.Call (.Name "abs" _) [_] [] _) _ _ _); refine we_b1 (by assumption) bb_abs ?_)
  | ((with_reducible show WE _ _ (.Call (.Name "int" _) [_] [] _) _ _ _); refine we_t1 (by assumption) bb_int ?_)
  | ((with_reducible show WE _ _ (.Call (.Name "list" _) [_] [] _) _ _ _); refine we_t1 (by assumption) bb_list ?_)
  | ((with_reducible show WE _ _ (.Call (.Name "tuple" _) [_] [] _) _ _ _); refine we_t1 (by assumption) bb_tuple ?_)
  | ((with_reducible show WE _ _ (.Call (.Name "str" _) [_] [] _) _ _ _); refine we_t1 (by assumption) bb_str ?_)
  | ((with_reducible show WE _ _ (.Call (.Name "set" _) [_] [] _) _ _ _); refine we_t1 (by assumption) bb_set ?_)
  | ((with_reducible show WE _ _ (.Call (.Name "sorted" _) [_] [] _) _ _ _); refine we_b1 (by assumption) bb_sorted ?_)
  | ((with_reducible show WE _ _ (.Call (.Name "isinstance" _) [_, _] [] _) _ _ _); refine we_b2 (by assumption) bb_isinstance ?_)
  | ((with_reducible show WE _ _ (.Call (.Name "max" _) [_] [] _) _ _ _); refine we_b1 (by assumption) bb_max ?_)
  | ((with_reducible show WE _ _ (.Call (.Name "min" _) [_] [] _) _ _ _); refine we_b1 (by assumption) bb_min ?_)
  | ((with_reducible show WE _ _ (.Call (.Name "max" _) [_, _] [] _) _ _ _); refine we_b2 (by assumption) bb_max ?_)
  | ((with_reducible show WE _ _ (.Call (.Name "min" _) [_, _] [] _) _ _ _); refine we_b2 (by assumption) bb_min ?_)
  | ((with_reducible show BinG _ _ (binaryOp .Add) (.int _) (.int _) _ _); refine b_add ?_)
  | ((with_reducible show BinG _ _ (binaryOp .Sub) (.int _) (.int _) _ _); refine b_sub ?_)
  | ((with_reducible show BinG _ _ (binaryOp .Mod) (.int _) (.int _) _ _); refine b_mod (by omega) ?_)
  | ((with_reducible show BinG _ _ (binaryOp .FloorDiv) (.int _) (.int _) _ _); refine b_div ⟨by omega, by omega⟩ ?_)
  | ((with_reducible show BinG _ _ (binaryOp .Mult) (.int _) (.int _) _ _); first | refine b_mul (.inr ⟨by omega, by omega⟩) ?_ | refine b_mul (.inl ⟨by omega, by omega⟩) ?_)
  | ((with_reducible show BinG _ _ (compareOp .Lt) (.int _) (.int _) _ _); refine b_lt ?_)
  | ((with_reducible show BinG _ _ (compareOp .LtE) (.int _) (.int _) _ _); refine b_le ?_)
  | ((with_reducible show BinG _ _ (compareOp .Gt) (.int _) (.int _) _ _); refine b_gt ?_)
  | ((with_reducible show BinG _ _ (compareOp .GtE) (.int _) (.int _) _ _); refine b_ge ?_)
  | ((with_reducible show BinG _ _ (compareOp .Eq) (.int _) (.int _) _ _); refine b_eqI (by assumption) ?_)
  | ((with_reducible show BinG _ _ (compareOp .NotEq) (.int _) (.int _) _ _); refine b_neI (by assumption) ?_)
  | ((with_reducible show UnG _ _ (unaryOp .USub) (.int _) _ _); refine b_neg ?_)
  | (with_reducible refine ex_bl ?_)
  | ((with_reducible show CallG _ _ (.type "int") [.int _] _ _); refine c_int ?_)
  | ((with_reducible show CallG _ _ (.type "int") [.bl _] _ _); refine c_intB ?_)
  | ((with_reducible show CallG _ _ (.builtin "abs") _ _ _); refine c_abs ?_)
  | ((with_reducible show CallG _ _ (.builtin "len") [.lst _] _ _); refine c_len ?_)
  | ((with_reducible show CallG _ _ (.builtin "len") [.tup _] _ _); refine c_lenT ?_)
  | ((with_reducible show CallG _ _ (.builtin "len") [.raw _] _ _); refine c_lenM (by first | assumption | exact updM_same) ?_)
  | ((with_reducible show CallG _ _ (.type "list") [.tup _] _ _); refine c_listT ?_)
  | ((with_reducible show CallG _ _ (.type "tuple") [.lst _] _ _); refine c_tuple ?_)
  | ((with_reducible show CallG _ _ (.type "tuple") [.tup _] _ _); refine c_tupleT ?_)
  | ((with_reducible show CallG _ _ (.builtin "max") [.int _, .int _] _ _); refine c_max2 rfl ?_)
  | ((with_reducible show CallG _ _ (.builtin "min") [.int _, .int _] _ _); refine c_min2 rfl ?_)
  | ((with_reducible show IxG _ _ (.tup _) _ _ _); refine ix_tupD rfl ?_)
  | ((with_reducible show IxG _ _ (.raw _) _ _ _); refine ix_mlst (by first | assumption | exact updM_same) rfl ?_)
  | ((with_reducible show WA _ _ (_ :: _) _ _ _); refine wa_cons ?_)
  | ((with_reducible show WA _ _ [] _ _ _); refine wa_nil ?_))
section
variable {P : Program} {w : World} {K : PySem.W.Frag} {mg : Str → Option Value} {base : Heap}
theorem in_one {p : Int} {g : List Int} (hp : 0 < p) (n : Int) : inL p g n = oneOf p g n := by
  unfold inL oneOf
  rw [Bool.eq_iff_iff]
  simp only [decide_eq_true_eq]
  constructor
  · rintro ⟨h1, h2, h3⟩
    exact ⟨by omega, h2, h3⟩
  · rintro ⟨h1, h2, h3⟩
    exact ⟨Int.le_of_dvd h1 (Int.dvd_of_emod_eq_zero h2), h2, h3⟩
theorem within_law {p1 p2 : Int} {g1 g2 : List Int} (hp : 0 < p1) : withinL p1 g1 p2 g2 = lawWithin p1 g1 p2 g2 := by
  unfold withinL lawWithin
  congr 1
  rw [Bool.eq_iff_iff]
  simp only [List.all_eq_true, decide_eq_true_eq, List.filter_eq_nil_iff, in_one hp]
  exact ⟨fun h g hg ho => (by have := h g hg; rw [ho] at this; cases this), fun h g hg => by
    cases q : oneOf p1 g1 g with
    | false => rfl
    | true => exact absurd q (h g hg)⟩
theorem law_self (p : Int) (g : List Int) : lawWithin p g p g = true := by
  unfold lawWithin
  have e2 : g.filter (oneOf p g) = [] := List.filter_eq_nil_iff.mpr fun x hx ho => by
    unfold oneOf at ho
    exact (of_decide_eq_true ho).2.2 hx
  rw [e2, Int.emod_self]
  rfl
def spAmong (K : PySem.W.Frag) : SpD := fun xs M Q => ∃ p d per gaps, xs = [.raw (.ref p), lensD per gaps, lenD K per gaps] ∧ M p = some d ∧ BagD d ∧ Wf per gaps ∧ per ≤ 100000 ∧ (∀ g ∈ gaps, g ≤ 1000000) ∧ ∀ d', BagD d' → Q (.bl true) (updM M p d')
theorem sc_among : FnScope ["bag", "lens", "told", "spots", "gap", "great", "k", "n"] ["bag", "lens", "told"] d__law_among.scope := ⟨rfl, rfl, rfl, by decide +kernel, rfl, by decide +kernel, by decide +kernel⟩
theorem cal_among (m : Md K mg base) : CalD P w K mg base 3 "_law_among" (spAmong K) [] := by
  refine cal_of (d := d__law_among) rfl (fd__law_among m.c) (He.glo_ok m.i m.n (glo__law_among m.c)) sc_among (fun xs M Q ⟨a, b, c, d, e, _⟩ => by rw [e]; rfl) (fun _ _ _ _ _ _ us hl => match us, hl with | [_, _, _], _ => rfl) ?_
  rintro cdv A outer s H E hr xs M Q ⟨p, d, per, gaps, rfl, hM, hB, wf, hpB, hgB, hQ⟩
  have nd := sc_among.nd
  have fmax : mg "max" = none := He.free_ok m.i m.n (free_max m.c)
  have frange : mg "range" = none := He.free_ok m.i m.n (free_range m.c)
  have hsz : sizeLine = 16777216 := sizeLine_eq
  have hp := wf.pos
  have hgl := wf.len
  refine wss_cut (fun ds1 M1 => ∃ ns : List Int, ds1 = [some (.raw (.ref p)), some (lensD per gaps), some (lenD K per gaps), some (.lst (ns.map D.int)), none, none, none, none] ∧ M1 = M ∧ ns.length ≤ 100) (ws_set 3 nd rfl (we_bin (we_bin (we_lst ?_)))) ?_
  · repeat walk_at "dl"
    refine ⟨sz rfl, we_slice ?_⟩
    repeat walk_at "dl"
    refine wo_none (wo_some (we_int ⟨6, rfl, _, .lst _ _ _, ?_⟩))
    generalize hys : (gaps.drop (HT.sIx gaps.length 0 none)).take (HT.sIx gaps.length gaps.length (some 6) - HT.sIx gaps.length 0 none) = ys
    have e : DL.cutD (gaps.map D.int) none (some 6) = ys.map D.int := by
      rw [← hys]
      unfold DL.cutD
      rw [List.length_map, List.map_take, List.map_drop]
    have hyl : ys.length ≤ 6 := by
      rw [← hys, List.length_take, List.length_drop]
      have h6 : HT.sIx gaps.length gaps.length (some 6) ≤ 6 := by
        unfold HT.sIx
        first | omega | (simp; omega) | (dsimp only; split <;> omega)
      omega
    rw [e]
    refine b_addLI [-per, 0, per, 999999999] ys (by simp; omega) ?_
    refine we_lcM (.nm 4) ys D.int (fun g => .int (g + per)) rfl nd (own := [("gap", 4)]) (by kernel_rfl) (by decide) (fun s0 H0 C cl fp => pg_name nd rfl (Or.inl rfl)) (wi_list (we_slice ?_))
    repeat walk_at "dl"
    refine wo_none (wo_some (we_int ⟨6, rfl, _, .lst _ _ _, _, rfl, fun hz => ⟨hz, ?_, ?_, ?_⟩⟩))
    · rw [e]; exact li_map _ D.int
    · intro c hc M' hs
      refine ⟨_, rfl, fun s0 H0 C cl fp => we_bin (we_var 4 rfl rfl ?_)⟩
      repeat walk_at "dl"
      exact ⟨rfl, rfl⟩
    · have e3 : ys.map (fun g => D.int (g + per)) = (ys.map (· + per)).map D.int := by rw [List.map_map]; rfl
      rw [e3]
      exact b_addLI _ (ys.map (· + per)) (by simp; omega) ⟨_, rfl, rfl, by simp; omega⟩
  rintro ds1 M1 ⟨ns, rfl, rfl, hnl⟩
  refine wss_cut (fun ds1 M2 => ∃ (z : Int) (d2 : D), ds1 = [some (.raw (.ref p)), some (lensD per gaps), some (lenD K per gaps), some (.lst (ns.map D.int)), none, some (.int z), none, none] ∧ M2 = updM M1 p d2 ∧ BagD d2 ∧ 0 ≤ z ∧ z < 1000000000) (ws_set 5 nd rfl (we_cal (cal_take m) hr (by decide) (wa2 (we_var 0 rfl rfl (we_bin (we_bin (we_bin ?_))))))) ?_
  · repeat walk_at "dl"
    refine b_pow ⟨by decide, by decide, by decide⟩ ?_
    rw [show (10 : Int) ^ (9 : Int).toNat = 1000000000 from by decide]
    repeat walk_at "dl"
    have hq1 : 10000 ≤ 1000000000 / per := Int.le_ediv_of_mul_le hp (by omega)
    have hq2 : 1000000000 / per ≤ 1000000000 := Int.ediv_le_self _ (by omega)
    exact ⟨p, d, _, rfl, hM, hB, by omega, by omega, fun z d2 h1 h2 hB2 => ⟨z, d2, rfl, rfl, hB2, h1, by omega⟩⟩
  rintro ds1 M2 ⟨z, d2, rfl, rfl, hB2, hz0, hz1⟩
  have hM2 : ∃ d, updM M1 p d2 p = some d := ⟨d2, updM_same⟩
  refine wss_cut (fun ds1 M3 => ∃ (n2 : List Int) (d3 : D), ds1 = [some (.raw (.ref p)), some (lensD per gaps), some (lenD K per gaps), some (.lst (n2.map D.int)), none, some (.int z), none, none] ∧ M3 = updM M1 p d3 ∧ BagD d3 ∧ n2.length ≤ 1000) (ws_set 3 nd rfl (we_bin (we_bin (we_var 3 rfl rfl (we_lst ?_))))) ?_
  · repeat walk_at "dl"
    refine we_cal (cal_take m) hr (by decide) (wa2 (we_var 0 rfl rfl (we_bin ?_)))
    repeat walk_at "dl"
    refine b_pow ⟨by decide, by decide, by decide⟩ ?_
    rw [show (10 : Int) ^ (9 : Int).toNat = 1000000000 from by decide]
    refine ⟨p, d2, _, rfl, updM_same, hB2, by omega, by omega, fun y d3 h1 h2 hB3 => ?_⟩
    rw [updM_updM]
    repeat walk_at "dl"
    refine ⟨sz rfl, b_addLI ns [z * per, z * per + 1, y] (by simp; omega) ?_⟩
    refine we_lcG (.nm 6) rfl nd (own := [("k", 6)]) (blkOk_by (by kernel_rfl)) (by decide) (fun s0 H0 C cl fp => pg_name nd rfl (Or.inl rfl)) (R := fun n item M3 => n = 6 ∧ item = (fun i => .int (i : Nat)) ∧ M3 = updM M1 p d3) ?_ ?_
    · refine wi_range1 frange (wa1 (we_int ⟨6, rfl, by decide, by decide, rfl, rfl, rfl⟩))
    · rintro n item M3 ⟨rfl, rfl, rfl⟩
      refine ⟨sz rfl, _, ⟨[], d3, rfl, rfl, fun z hz => (by cases hz), hB3, (updM_self updM_same).symm⟩, ?_, lct_draw (P := fun _ => True) (B := BagD) ⟨d3, updM_same⟩ ?_⟩
      · rintro acc M4 ⟨ms, d4, rfl, hl, _, hB4, rfl⟩
        rw [updM_updM]
        exact b_addLI (ns ++ [z * per, z * per + 1, y]) ms (by simp; omega) ⟨_, d4, rfl, rfl, hB4, by simp; omega⟩
      · intro i hi M' d4 hM4 hB4
        refine ⟨_, rfl, fun s0 H0 C cl fp => we_bin (we_int (we_cal (cal_take m) hr (by decide) (wa2 (we_var 0 rfl rfl (we_b1 fmax bb_max (we_bin ?_))))))⟩
        repeat walk_at "dl"
        refine we_lst ?_
        repeat walk_at "dl"
        refine ⟨sz rfl, b_addLI gaps [30] (by simp; omega) (c_maxL rfl (by simp) fun mx hmx hmy => ?_)⟩
        have g0 : 30 ≤ mx := hmy 30 (by simp)
        have g1 : mx ≤ 1000000 := by
          rcases List.mem_append.mp hmx with h | h
          · exact hgB _ h
          · simp at h; omega
        exact ⟨p, d4, _, rfl, hM4, hB4, by omega, by omega, fun z d5 h1 h2 hB5 => b_add ⟨1 + z, d5, rfl, trivial, hB5, rfl⟩⟩
  rintro ds1 M3 ⟨n2, d3, rfl, rfl, hB3, hn2⟩
  refine wss_one (ws_ret (we_cmp (we_lcP (.nm 7) n2 D.int (fun _ => false) D.int rfl nd (own := [("n", 7)]) (blkOk_by (by kernel_rfl)) (by decide) (fun s0 H0 C cl fp => pg_name nd rfl (Or.inl rfl)) ?_)))
  refine wi_list (we_var 3 rfl rfl ⟨_, rfl, fun hz => ⟨hz, li_map n2 D.int, ?_, ?_⟩⟩)
  · intro c hc M' hs
    refine ⟨_, rfl, fun s0 H0 C cl fp => ?_, fun _ s0 H0 C cl fp => we_var 7 rfl rfl ⟨rfl, rfl⟩⟩
    refine wts_one (wt_not (wt_truth (we_cal (cal_truth m) hr (by decide) ?_)))
    refine wa2 (we_cmp (we_var 7 rfl rfl (we_var 2 rfl rfl ?_)))
    refine b_inM (j := 2) (k := 1) (C := CL K) (sp := spCont (CL K)) ?_ ?_ (by decide) (.inl rfl) ⟨per, gaps, _, c, rfl, .inl rfl, hp, _, rfl, ?_⟩
    · exact met_cont m
    · exact hr
    refine we_cal (cal_one m) hr (by decide) (wa2 (we_var 1 rfl rfl (we_var 7 rfl rfl ⟨per, gaps, c, rfl, hp, _, _, rfl, tru_is rfl ?_⟩)))
    rw [decide_eq_true (in_one hp c)]
    exact ⟨rfl, rfl⟩
  · rw [show n2.filter (fun _ => false) = [] from List.filter_eq_nil_iff.mpr fun _ _ h => (by cases h)]
    exact we_lst (wa_nil ⟨sz rfl, b_eqE (encL encI) (a := []) (b := []) hr (hQ d3 hB3)⟩)
end
end K02

namespace K02
/-! the plain law: within is a matter of the numbers among them -/
theorem one_iff {p : Int} {g : List Int} {n : Int} : oneOf p g n = true ↔ 0 < n ∧ p ∣ n ∧ n ∉ g := by
  unfold oneOf
  rw [decide_eq_true_eq]
  exact ⟨fun ⟨a, b, c⟩ => ⟨a, Int.dvd_of_emod_eq_zero b, c⟩, fun ⟨a, b, c⟩ => ⟨a, Int.emod_eq_zero_of_dvd b, c⟩⟩
theorem far_one {p : Int} {g : List Int} (hp : 0 < p) : ∃ N : Int, 0 < N ∧ ∀ m, N ≤ m → oneOf p g (p * m) = true := by
  obtain ⟨B, hB⟩ : ∃ B : Int, ∀ x ∈ g, x ≤ B := by
    induction g with
    | nil => exact ⟨0, fun x h => (by cases h)⟩
    | cons y r ih =>
      obtain ⟨B, hB⟩ := ih
      refine ⟨max y B, fun x h => ?_⟩
      rcases List.mem_cons.mp h with rfl | h
      · omega
      · have := hB x h; omega
  refine ⟨max 1 (B + 1), by omega, fun m hm => one_iff.mpr ⟨Int.mul_pos hp (by omega), Int.dvd_mul_right .., fun h => ?_⟩⟩
  have h1 := hB _ h
  have h2 : 1 * m ≤ p * m := Int.mul_le_mul_of_nonneg_right (by omega) (by omega)
  omega
theorem within_iff {p1 p2 : Int} {g1 g2 : List Int} (h1 : 0 < p1) (hg : ∀ x ∈ g2, 0 < x) : lawWithin p1 g1 p2 g2 = true ↔ ∀ n, oneOf p1 g1 n = true → oneOf p2 g2 n = true := by
  unfold lawWithin
  rw [Bool.and_eq_true, decide_eq_true_eq, decide_eq_true_eq]
  constructor
  · rintro ⟨a, b⟩ n hn
    obtain ⟨n0, n1, n2⟩ := one_iff.mp hn
    refine one_iff.mpr ⟨n0, Int.dvd_trans (Int.dvd_of_emod_eq_zero a) n1, fun h => ?_⟩
    have := List.filter_eq_nil_iff.mp b n h
    exact this hn
  · intro h
    refine ⟨?_, List.filter_eq_nil_iff.mpr fun x hx hn => (one_iff.mp (h x hn)).2.2 hx⟩
    obtain ⟨N, hN0, hN⟩ := far_one (g := g1) h1
    have a := (one_iff.mp (h _ (hN N (Int.le_refl _)))).2.1
    have b := (one_iff.mp (h _ (hN (N + 1) (by omega)))).2.1
    have c := Int.dvd_sub b a
    rw [show p1 * (N + 1) - p1 * N = p1 by rw [Int.mul_add, Int.mul_one]; omega] at c
    exact Int.emod_eq_zero_of_dvd c
theorem one_both {p1 p2 : Int} {g1 g2 R : List Int} (hR : ∀ x, x ∈ R ↔ (x ∈ g1 ∨ x ∈ g2) ∧ x % lcmI p1 p2 = 0) (n : Int) : oneOf (lcmI p1 p2) R n = (oneOf p1 g1 n && oneOf p2 g2 n) := by
  rw [Bool.eq_iff_iff, Bool.and_eq_true, one_iff, one_iff, one_iff, hR]
  constructor
  · rintro ⟨a, b, c⟩
    have e := Int.emod_eq_zero_of_dvd b
    exact ⟨⟨a, Int.dvd_trans (Int.dvd_lcm_left ..) b, fun h => c ⟨.inl h, e⟩⟩, a, Int.dvd_trans (Int.dvd_lcm_right ..) b, fun h => c ⟨.inr h, e⟩⟩
  · rintro ⟨⟨a, b, c⟩, _, d, e⟩
    exact ⟨a, Int.coe_lcm_dvd b d, fun h => h.1.elim c e⟩
end K02

namespace K02
open PySem PySem.Spec L2 DL

local macro_rules | `(tactic| walk_at "dl") => `(tactic| first
  | ((with_reducible show WE _ _ (.Constant _ _ _) _ _ _); first | refine we_int ?_ | refine we_str ?_ | refine we_bl ?_ | refine we_non ?_)
  | ((with_reducible show WE _ _ (.Name _ _) _ _ _); first | refine we_var 0 rfl rfl ?_ | refine we_var 1 rfl rfl ?_ | refine we_var 2 rfl rfl ?_ | refine we_var 3 rfl rfl ?_ | refine we_var 4 rfl rfl ?_ | refine we_var 5 rfl rfl ?_ | refine we_var 6 rfl rfl ?_ | refine we_var 7 rfl rfl ?_ | refine we_var 8 rfl rfl ?_ | refine we_var 9 rfl rfl ?_ | refine we_var 10 rfl rfl ?_ | refine we_var 11 rfl rfl ?_ | refine we_var 12 rfl rfl ?_ | refine we_var 13 rfl rfl ?_ | refine we_var 14 rfl rfl ?_ | refine we_var 15 rfl rfl ?_)
  | ((with_reducible show WE _ _ (.BinOp _ _ _ _) _ _ _); refine we_bin ?_)
  | ((with_reducible show WE _ _ (.Compare _ [_] [_] _) _ _ _); refine we_cmp ?_)
  | ((with_reducible show WT _ _ (.Compare _ [_] [_] _) _ _ _); refine wt_cmp ?_)
  | ((with_reducible show WE _ _ (.UnaryOp .USub _ _) _ _ _); refine we_un ?_)
  | ((with_reducible show WT _ _ (.UnaryOp .Not _ _) _ _ _); refine wt_not ?_)
  | ((with_reducible show WE _ _ (.IfExp _ _ _ _) _ _ _); refine we_ifx ?_)
  | ((with_reducible show WE _ _ (.Subscript _ (.Name _ _) _) _ _ _); refine we_ix ?_)
  | ((with_reducible show WE _ _ (.Subscript _ (.Constant _ _ _) _) _ _ _); refine we_ix ?_)
  | ((with_reducible show WE _ _ (.Subscript _ (.Subscript _ _ _) _) _ _ _); refine we_ix ?_)
  | ((with_reducible show WE _ _ (.Subscript _ (.BinOp _ _ _ _) _) _ _ _); refine we_ix ?_)
  | ((with_reducible show WE _ _ (.Subscript _ (.UnaryOp _ _ _) _) _ _ _); refine we_ix ?_)
  | ((with_reducible show WE _ _ (.Subscript _ (.Call _ _ _ _) _) _ _ _); refine we_ix ?_)
  | ((with_reducible show WE _ _ (.Call (.Name "len" _) [_] [] _) _ _ _); refine we_b1 (by assumption) bb_len ?_)
  | ((with_reducible show WE _ _ (.Call (.Name "abs" _) [_] [] _) _ _ _); refine we_b1 (by assumption) bb_abs ?_)
  | ((with_reducible show WE _ _ (.Call (.Name "int" _) [_] [] _) _ _ _); refine we_t1 (by assumption) bb_int ?_)
  | ((with_reducible show WE _ _ (.Call (.Name "list" _) [_] [] _) _ _ _); refine we_t1 (by assumption) bb_list ?_)
  | ((with_reducible show WE _ _ (.Call (.Name "tuple" _) [_] [] _) _ _ _); refine we_t1 (by assumption) bb_tuple ?_)
  | ((with_reducible show WE _ _ (.Call (.Name "str" _) [_] [] _) _ _ _); refine we_t1 (by assumption) bb_str ?_)
  | ((with_reducible show WE _ _ (.Call (.Name "set" _) [_] [] _) _ _ _); refine we_t1 (by assumption) bb_set ?_)
  | ((with_reducible show WE _ _ (.Call (.Name "sorted" _) [_] [] _) _ _ _); refine we_b1 (by assumption) bb_sorted ?_)
  | ((with_reducible show WE _ _ (.Call (.Name "isinstance" _) [_, _] [] _) _ _ _); refine we_b2 (by assumption) bb_isinstance ?_)
  | ((with_reducible show WE _ _ (.Call (.Name "max" _) [_] [] _) _ _ _); refine we_b1 (by assumption) bb_max ?_)
  | ((with_reducible show WE _ _ (.Call (.Name "min" _) [_] [] _) _ _ _); refine we_b1 (by assumption) bb_min ?_)
  | ((with_reducible show WE _ _ (.Call (.Name "max" _) [_, _] [] _) _ _ _); refine we_b2 (by assumption) bb_max ?_)
  | ((with_reducible show WE _ _ (.Call (.Name "min" _) [_, _] [] _) _ _ _); refine we_b2 (by assumption) bb_min ?_)
  | ((with_reducible show BinG _ _ (binaryOp .Add) (.int _) (.int _) _ _); refine b_add ?_)
  | ((with_reducible show BinG _ _ (binaryOp .Sub) (.int _) (.int _) _ _); refine b_sub ?_)
  | ((with_reducible show BinG _ _ (binaryOp .Mod) (.int _) (.int _) _ _); refine b_mod (by omega) ?_)
  | ((with_reducible show BinG _ _ (binaryOp .FloorDiv) (.int _) (.int _) _ _); refine b_div ⟨by omega, by omega⟩ ?_)
  | ((with_reducible show BinG _ _ (binaryOp .Mult) (.int _) (.int _) _ _); first | refine b_mul (.inr ⟨by omega, by omega⟩) ?_ | refine b_mul (.inl ⟨by omega, by omega⟩) ?_)
  | ((with_reducible show BinG _ _ (compareOp .Lt) (.int _) (.int _) _ _); refine b_lt ?_)
  | ((with_reducible show BinG _ _ (compareOp .LtE) (.int _) (.int _) _ _); refine b_le ?_)
  | ((with_reducible show BinG _ _ (compareOp .Gt) (.int _) (.int _) _ _); refine b_gt ?_)
  | ((with_reducible show BinG _ _ (compareOp .GtE) (.int _) (.int _) _ _); refine b_ge ?_)
  | ((with_reducible show BinG _ _ (compareOp .Eq) (.int _) (.int _) _ _); refine b_eqI (by assumption) ?_)
  | ((with_reducible show BinG _ _ (compareOp .NotEq) (.int _) (.int _) _ _); refine b_neI (by assumption) ?_)
  | ((with_reducible show UnG _ _ (unaryOp .USub) (.int _) _ _); refine b_neg ?_)
  | (with_reducible refine ex_bl ?_)
  | ((with_reducible show CallG _ _ (.type "int") [.int _] _ _); refine c_int ?_)
  | ((with_reducible show CallG _ _ (.type "int") [.bl _] _ _); refine c_intB ?_)
  | ((with_reducible show CallG _ _ (.builtin "abs") _ _ _); refine c_abs ?_)
  | ((with_reducible show CallG _ _ (.builtin "len") [.lst _] _ _); refine c_len ?_)
  | ((with_reducible show CallG _ _ (.builtin "len") [.tup _] _ _); refine c_lenT ?_)
  | ((with_reducible show CallG _ _ (.builtin "len") [.raw _] _ _); refine c_lenM (by first | assumption | exact updM_same) ?_)
  | ((with_reducible show CallG _ _ (.type "list") [.tup _] _ _); refine c_listT ?_)
  | ((with_reducible show CallG _ _ (.type "tuple") [.lst _] _ _); refine c_tuple ?_)
  | ((with_reducible show CallG _ _ (.type "tuple") [.tup _] _ _); refine c_tupleT ?_)
  | ((with_reducible show CallG _ _ (.builtin "max") [.int _, .int _] _ _); refine c_max2 rfl ?_)
  | ((with_reducible show CallG _ _ (.builtin "min") [.int _, .int _] _ _); refine c_min2 rfl ?_)
  | ((with_reducible show IxG _ _ (.tup _) _ _ _); refine ix_tupD rfl ?_)
  | ((with_reducible show IxG _ _ (.raw _) _ _ _); refine ix_mlst (by first | assumption | exact updM_same) rfl ?_)
  | ((with_reducible show WA _ _ (_ :: _) _ _ _); refine wa_cons ?_)
  | ((with_reducible show WA _ _ [] _ _ _); refine wa_nil ?_))
section
variable {P : Program} {w : World} {K : PySem.W.Frag} {mg : Str → Option Value} {base : Heap}
/-- what two books' lengths must keep for their both -/
structure Pair (p1 : Int) (g1 : List Int) (p2 : Int) (g2 : List Int) : Prop where
  w1 : Wf p1 g1
  w2 : Wf p2 g2
  lcm : lcmI p1 p2 ≤ 100000
  len : g1.length + g2.length ≤ 1000
  b1 : ∀ g ∈ g1, g ≤ 1000000
  b2 : ∀ g ∈ g2, g ≤ 1000000
theorem both_ex {p1 p2 : Int} {g1 g2 : List Int} (pr : Pair p1 g1 p2 g2) : ∃ R, Wf (lcmI p1 p2) R ∧ ∀ x, x ∈ R ↔ (x ∈ g1 ∨ x ∈ g2) ∧ x % lcmI p1 p2 = 0 := by
  have hm : ∀ x, x ∈ ((List.range 1000001).map fun i : Nat => (i : Int)).filter (fun x => decide ((x ∈ g1 ∨ x ∈ g2) ∧ x % lcmI p1 p2 = 0)) ↔ (x ∈ g1 ∨ x ∈ g2) ∧ x % lcmI p1 p2 = 0 := fun x => by
    rw [List.mem_filter, decide_eq_true_eq]
    refine ⟨fun h => h.2, fun h => ⟨?_, h⟩⟩
    have hb : 0 < x ∧ x ≤ 1000000 := by
      rcases h.1 with q | q
      · exact ⟨(pr.w1.mul x q).1, pr.b1 x q⟩
      · exact ⟨(pr.w2.mul x q).1, pr.b2 x q⟩
    exact List.mem_map.mpr ⟨x.toNat, List.mem_range.mpr (by omega), by omega⟩
  refine ⟨_, wf_both pr.w1 pr.w2 pr.lcm pr.len ?_ hm, hm⟩
  refine List.Pairwise.filter _ ?_
  rw [List.pairwise_map]
  exact List.pairwise_lt_range.imp fun {a b} h => by omega
def spAsked : SpD := fun xs M Q => ∃ p d po go pb gb pc gc, xs = [.raw (.ref p), lensD po go, lensD pb gb, lensD pc gc] ∧ M p = some d ∧ BagD d ∧ Wf po go ∧ Pair pb gb pc gc ∧ ∀ d', BagD d' → Q (.tup [.bl true, .bl (lawWithin po go pb gb && lawWithin po go pc gc)]) (updM M p d')
theorem sc_asked : FnScope ["bag", "one", "b", "c", "told", "left", "right", "due", "seen", "k"] ["bag", "one", "b", "c"] d__law_asked.scope := ⟨rfl, rfl, rfl, by decide +kernel, rfl, by decide +kernel, by decide +kernel⟩
theorem cal_asked (m : Md K mg base) : CalD P w K mg base 7 "_law_asked" spAsked [] := by
  refine cal_of (d := d__law_asked) rfl (fd__law_asked m.c) (He.glo_ok m.i m.n (glo__law_asked m.c)) sc_asked (fun xs M Q ⟨a, b, c, d, e, f, g, h, i, _⟩ => by rw [i]; rfl) (fun _ _ _ _ _ _ us hl => match us, hl with | [_, _, _, _], _ => rfl) ?_
  rintro cdv A outer s H E hr xs M Q ⟨p, d, po, go, pb, gb, pc, gc, rfl, hM, hB, wo, pr, hQ⟩
  have nd := sc_asked.nd
  have frange : mg "range" = none := He.free_ok m.i m.n (free_range m.c)
  have hsz : sizeLine = 16777216 := sizeLine_eq
  have h1 := wo.pos
  have h2 := pr.w1.pos
  have h3 := pr.w2.pos
  have hL := lcm_pos h2 h3
  have key : ∀ R, (∀ x, x ∈ R ↔ (x ∈ gb ∨ x ∈ gc) ∧ x % lcmI pb pc = 0) → lawWithin po go (lcmI pb pc) R = (lawWithin po go pb gb && lawWithin po go pc gc) := fun R hR => by
    rw [Bool.eq_iff_iff, Bool.and_eq_true, within_iff h1 (fun x h => ?_), within_iff h1 (fun x h => (pr.w1.mul x h).1), within_iff h1 (fun x h => (pr.w2.mul x h).1)]
    · constructor
      · intro h
        refine ⟨fun n hn => ?_, fun n hn => ?_⟩ <;> have := h n hn <;> rw [one_both hR, Bool.and_eq_true] at this
        · exact this.1
        · exact this.2
      · rintro ⟨ha, hb⟩ n hn
        rw [one_both hR, ha n hn, hb n hn]
        rfl
    · rcases ((hR x).mp h).1 with h | h
      · exact (pr.w1.mul x h).1
      · exact (pr.w2.mul x h).1
  refine wss_cut (fun ds1 M1 => ∃ d2, ds1 = [some (.raw (.ref p)), some (lensD po go), some (lensD pb gb), some (lensD pc gc), some (lenD K po go), some (lenD K pb gb), some (lenD K pc gc), none, none, none] ∧ M1 = updM M p d2 ∧ BagD d2) (ws_par3 4 5 6 rfl nd rfl rfl rfl (wa3 ?_)) ?_
  · refine we_cal (cal_object m) hr (by decide) (wa2 (we_var 0 rfl rfl (we_var 1 rfl rfl ⟨p, d, po, go, rfl, hM, hB, wo, fun d1 hB1 => ?_⟩)))
    refine we_cal (cal_object m) hr (by decide) (wa2 (we_var 0 rfl rfl (we_var 2 rfl rfl ⟨p, d1, pb, gb, rfl, updM_same, hB1, pr.w1, fun d2 hB2 => ?_⟩)))
    rw [updM_updM]
    refine we_cal (cal_object m) hr (by decide) (wa2 (we_var 0 rfl rfl (we_var 3 rfl rfl ⟨p, d2, pc, gc, rfl, updM_same, hB2, pr.w2, fun d3 hB3 => ?_⟩)))
    rw [updM_updM]
    exact ⟨_, _, _, rfl, d3, rfl, rfl, hB3⟩
  rintro ds1 M1 ⟨d2, rfl, rfl, hB2⟩
  generalize hA : lawWithin po go pb gb = A at key hQ
  generalize hC : lawWithin po go pc gc = B at key hQ
  refine wss_cut (fun ds1 M2 => ds1 = [some (.raw (.ref p)), some (lensD po go), some (lensD pb gb), some (lensD pc gc), some (lenD K po go), some (lenD K pb gb), some (lenD K pc gc), some (.lst [.bl A, .bl B, .bl (A && B)]), none, none] ∧ M2 = updM M p d2) (ws_set 7 nd rfl (we_lst (wa3 ?_))) ?_
  · refine we_cal (cal_lwithin m) hr (by decide) (wa2 (we_var 1 rfl rfl (we_var 2 rfl rfl ⟨po, go, pb, gb, rfl, h1, h2, ?_⟩)))
    refine we_cal (cal_lwithin m) hr (by decide) (wa2 (we_var 1 rfl rfl (we_var 3 rfl rfl ⟨po, go, pc, gc, rfl, h1, h3, ?_⟩)))
    refine we_cal (cal_lwithin m) hr (by decide) (wa2 (we_var 1 rfl rfl (we_cal (cal_lboth m) hr (by decide) (wa2 (we_var 2 rfl rfl (we_var 3 rfl rfl ⟨pb, gb, pc, gc, rfl, pr.w1, pr.w2, pr.lcm, pr.len, pr.b1, pr.b2, fun R wR hR => ⟨po, go, _, R, rfl, h1, hL, ?_⟩⟩))))))
    rw [key R hR, hA, hC]
    exact ⟨sz rfl, rfl, rfl⟩
  rintro ds1 M2 ⟨rfl, rfl⟩
  obtain ⟨R, wR, hR⟩ := both_ex pr
  have b1 := pr.w1.perB
  have b2 := pr.w2.perB
  have l1 := pr.w1.len
  have l2 := pr.w2.len
  refine wss_cut (fun ds1 M3 => ds1 = [some (.raw (.ref p)), some (lensD po go), some (lensD pb gb), some (lensD pc gc), some (lenD K po go), some (lenD K pb gb), some (lenD K pc gc), some (.lst [.bl A, .bl B, .bl (A && B)]), some (.lst [.bl A, .bl B, .bl (A && B)]), none] ∧ M3 = updM M p d2) (ws_set 8 nd rfl (we_lst (wa3 ?_))) ?_
  · refine we_met (met_within m) hr (by decide) (we_var 4 rfl rfl ⟨_, .inl rfl, rfl, wa1 (we_var 5 rfl rfl ⟨po, go, pb, gb, rfl, h1, h2, ?_⟩)⟩)
    refine we_met (met_within m) hr (by decide) (we_var 4 rfl rfl ⟨_, .inl rfl, rfl, wa1 (we_var 6 rfl rfl ⟨po, go, pc, gc, rfl, h1, h3, ?_⟩)⟩)
    refine we_met (met_within m) hr (by decide) (we_var 4 rfl rfl ⟨_, .inl rfl, rfl, wa1 (we_met (met_both m) hr (by decide) (we_var 5 rfl rfl ⟨_, .inl rfl, rfl, wa1 (we_var 6 rfl rfl ⟨pb, gb, pc, gc, R, rfl, h2, by omega, h3, by omega, l1, l2, wR, hR, po, go, _, R, rfl, h1, hL, ?_⟩)⟩))⟩)
    rw [within_law h1, within_law h1, within_law h1, key R hR, hA, hC]
    exact ⟨sz rfl, rfl, rfl⟩
  rintro ds1 M3 ⟨rfl, rfl⟩
  refine wss_one (ws_ret (we_tup (wa2 ?_)))
  refine we_andT (we_cmp (we_lcP (.nm 9) (List.range 3) (fun l : Nat => .int (l : Nat)) (fun _ => false) (fun l : Nat => .int (l : Nat)) rfl nd (own := [("k", 9)]) (blkOk_by (by kernel_rfl)) (by decide) (fun s0 H0 C cl fp => pg_name nd rfl (Or.inl rfl)) (wi_range1 frange (wa1 (we_int ?_)))))
  refine ⟨3, rfl, by decide, by decide, by decide, li_range _ _, ?_, ?_⟩
  · intro c hc M' hs
    refine ⟨_, rfl, fun s0 H0 C cl fp => ?_, fun _ s0 H0 C cl fp => we_var 9 rfl rfl ⟨rfl, rfl⟩⟩
    refine wts_one (wt_not (wt_truth (we_cal (cal_truth m) hr (by decide) ?_)))
    have hc3 : c < 3 := List.mem_range.mp hc
    obtain rfl | rfl | rfl : c = 0 ∨ c = 1 ∨ c = 2 := by omega
    · refine wa2 (we_ix (we_var 8 rfl rfl (we_var 9 rfl rfl (ix_lst rfl (we_ix (we_var 7 rfl rfl (we_var 9 rfl rfl (ix_lst rfl ⟨_, _, rfl, tru_is rfl ?_⟩))))))))
      simp
    · refine wa2 (we_ix (we_var 8 rfl rfl (we_var 9 rfl rfl (ix_lst rfl (we_ix (we_var 7 rfl rfl (we_var 9 rfl rfl (ix_lst rfl ⟨_, _, rfl, tru_is rfl ?_⟩))))))))
      simp
    · refine wa2 (we_ix (we_var 8 rfl rfl (we_var 9 rfl rfl (ix_lst rfl (we_ix (we_var 7 rfl rfl (we_var 9 rfl rfl (ix_lst rfl ⟨_, _, rfl, tru_is rfl ?_⟩))))))))
      simp
  · rw [show (List.range 3).filter (fun _ => false) = [] from List.filter_eq_nil_iff.mpr fun _ _ h => (by cases h)]
    refine we_lst (wa_nil ⟨sz rfl, b_eqE (encL encI) (a := []) (b := []) hr (tru_is rfl ⟨fun _ => ?_, fun h => (by cases h)⟩)⟩)
    refine we_one (we_cmp (we_ix (we_var 7 rfl rfl (we_int (ix_lst rfl (we_andT (we_ix (we_var 7 rfl rfl (we_int (ix_lst rfl (tru_is rfl ⟨fun h => ?_, fun h => ?_⟩)))))))))))
    · subst h
      refine we_one (we_ix (we_var 7 rfl rfl (we_int (ix_lst rfl (b_eqB hr ?_)))))
      refine we_ix (we_var 7 rfl rfl (we_int (ix_lst rfl ?_)))
      exact ⟨sz rfl, by simpa using hQ d2 hB2⟩
    · subst h
      refine b_eqB hr ?_
      refine we_ix (we_var 7 rfl rfl (we_int (ix_lst rfl ?_)))
      exact ⟨sz rfl, by simpa using hQ d2 hB2⟩
end
end K02

namespace K02
open PySem PySem.Spec L2 DL

local macro_rules | `(tactic| walk_at "dl") => `(tactic| first
  | ((with_reducible show WE _ _ (.Constant _ _ _) _ _ _); first | refine we_int ?_ | refine we_str ?_ | refine we_bl ?_ | refine we_non ?_)
  | ((with_reducible show WE _ _ (.Name _ _) _ _ _); first | refine we_var 0 rfl rfl ?_ | refine we_var 1 rfl rfl ?_ | refine we_var 2 rfl rfl ?_ | refine we_var 3 rfl rfl ?_ | refine we_var 4 rfl rfl ?_ | refine we_var 5 rfl rfl ?_ | refine we_var 6 rfl rfl ?_ | refine we_var 7 rfl rfl ?_ | refine we_var 8 rfl rfl ?_ | refine we_var 9 rfl rfl ?_ | refine we_var 10 rfl rfl ?_ | refine we_var 11 rfl rfl ?_ | refine we_var 12 rfl rfl ?_ | refine we_var 13 rfl rfl ?_ | refine we_var 14 rfl rfl ?_ | refine we_var 15 rfl rfl ?_)
  | ((with_reducible show WE _ _ (.BinOp _ _ _ _) _ _ _); refine we_bin ?_)
  | ((with_reducible show WE _ _ (.Compare _ [_] [_] _) _ _ _); refine we_cmp ?_)
  | ((with_reducible show WT _ _ (.Compare _ [_] [_] _) _ _ _); refine wt_cmp ?_)
  | ((with_reducible show WE _ _ (.UnaryOp .USub _ _) _ _ _); refine we_un ?_)
  | ((with_reducible show WT _ _ (.UnaryOp .Not _ _) _ _ _); refine wt_not ?_)
  | ((with_reducible show WE _ _ (.IfExp _ _ _ _) _ _ _); refine we_ifx ?_)
  | ((with_reducible show WE _ _ (.Subscript _ (.Name _ _) _) _ _ _); refine we_ix ?_)
  | ((with_reducible show WE _ _ (.Subscript _ (.Constant _ _ _) _) _ _ _); refine we_ix ?_)
  | ((with_reducible show WE _ _ (.Subscript _ (.Subscript _ _ _) _) _ _ _); refine we_ix ?_)
  | ((with_reducible show WE _ _ (.Subscript _ (.BinOp _ _ _ _) _) _ _ _); refine we_ix ?_)
  | ((with_reducible show WE _ _ (.Subscript _ (.UnaryOp _ _ _) _) _ _ _); refine we_ix ?_)
  | ((with_reducible show WE _ _ (.Subscript _ (.Call _ _ _ _) _) _ _ _); refine we_ix ?_)
  | ((with_reducible show WE _ _ (.Call (.Name "len" _) [_] [] _) _ _ _); refine we_b1 (by assumption) bb_len ?_)
  | ((with_reducible show WE _ _ (.Call (.Name "abs" _) [_] [] _) _ _ _); refine we_b1 (by assumption) bb_abs ?_)
  | ((with_reducible show WE _ _ (.Call (.Name "int" _) [_] [] _) _ _ _); refine we_t1 (by assumption) bb_int ?_)
  | ((with_reducible show WE _ _ (.Call (.Name "list" _) [_] [] _) _ _ _); refine we_t1 (by assumption) bb_list ?_)
  | ((with_reducible show WE _ _ (.Call (.Name "tuple" _) [_] [] _) _ _ _); refine we_t1 (by assumption) bb_tuple ?_)
  | ((with_reducible show WE _ _ (.Call (.Name "str" _) [_] [] _) _ _ _); refine we_t1 (by assumption) bb_str ?_)
  | ((with_reducible show WE _ _ (.Call (.Name "set" _) [_] [] _) _ _ _); refine we_t1 (by assumption) bb_set ?_)
  | ((with_reducible show WE _ _ (.Call (.Name "sorted" _) [_] [] _) _ _ _); refine we_b1 (by assumption) bb_sorted ?_)
  | ((with_reducible show WE _ _ (.Call (.Name "isinstance" _) [_, _] [] _) _ _ _); refine we_b2 (by assumption) bb_isinstance ?_)
  | ((with_reducible show WE _ _ (.Call (.Name "max" _) [_] [] _) _ _ _); refine we_b1 (by assumption) bb_max ?_)
  | ((with_reducible show WE _ _ (.Call (.Name "min" _) [_] [] _) _ _ _); refine we_b1 (by assumption) bb_min ?_)
  | ((with_reducible show WE _ _ (.Call (.Name "max" _) [_, _] [] _) _ _ _); refine we_b2 (by assumption) bb_max ?_)
  | ((with_reducible show WE _ _ (.Call (.Name "min" _) [_, _] [] _) _ _ _); refine we_b2 (by assumption) bb_min ?_)
  | ((with_reducible show BinG _ _ (binaryOp .Add) (.int _) (.int _) _ _); refine b_add ?_)
  | ((with_reducible show BinG _ _ (binaryOp .Sub) (.int _) (.int _) _ _); refine b_sub ?_)
  | ((with_reducible show BinG _ _ (binaryOp .Mod) (.int _) (.int _) _ _); refine b_mod (by omega) ?_)
  | ((with_reducible show BinG _ _ (binaryOp .FloorDiv) (.int _) (.int _) _ _); refine b_div ⟨by omega, by omega⟩ ?_)
  | ((with_reducible show BinG _ _ (binaryOp .Mult) (.int _) (.int _) _ _); first | refine b_mul (.inr ⟨by omega, by omega⟩) ?_ | refine b_mul (.inl ⟨by omega, by omega⟩) ?_)
  | ((with_reducible show BinG _ _ (compareOp .Lt) (.int _) (.int _) _ _); refine b_lt ?_)
  | ((with_reducible show BinG _ _ (compareOp .LtE) (.int _) (.int _) _ _); refine b_le ?_)
  | ((with_reducible show BinG _ _ (compareOp .Gt) (.int _) (.int _) _ _); refine b_gt ?_)
  | ((with_reducible show BinG _ _ (compareOp .GtE) (.int _) (.int _) _ _); refine b_ge ?_)
  | ((with_reducible show BinG _ _ (compareOp .Eq) (.int _) (.int _) _ _); refine b_eqI (by assumption) ?_)
  | ((with_reducible show BinG _ _ (compareOp .NotEq) (.int _) (.int _) _ _); refine b_neI (by assumption) ?_)
  | ((with_reducible show UnG _ _ (unaryOp .USub) (.int _) _ _); refine b_neg ?_)
  | (with_reducible refine ex_bl ?_)
  | ((with_reducible show CallG _ _ (.type "int") [.int _] _ _); refine c_int ?_)
  | ((with_reducible show CallG _ _ (.type "int") [.bl _] _ _); refine c_intB ?_)
  | ((with_reducible show CallG _ _ (.builtin "abs") _ _ _); refine c_abs ?_)
  | ((with_reducible show CallG _ _ (.builtin "len") [.lst _] _ _); refine c_len ?_)
  | ((with_reducible show CallG _ _ (.builtin "len") [.tup _] _ _); refine c_lenT ?_)
  | ((with_reducible show CallG _ _ (.builtin "len") [.raw _] _ _); refine c_lenM (by first | assumption | exact updM_same) ?_)
  | ((with_reducible show CallG _ _ (.type "list") [.tup _] _ _); refine c_listT ?_)
  | ((with_reducible show CallG _ _ (.type "tuple") [.lst _] _ _); refine c_tuple ?_)
  | ((with_reducible show CallG _ _ (.type "tuple") [.tup _] _ _); refine c_tupleT ?_)
  | ((with_reducible show CallG _ _ (.builtin "max") [.int _, .int _] _ _); refine c_max2 rfl ?_)
  | ((with_reducible show CallG _ _ (.builtin "min") [.int _, .int _] _ _); refine c_min2 rfl ?_)
  | ((with_reducible show IxG _ _ (.tup _) _ _ _); refine ix_tupD rfl ?_)
  | ((with_reducible show IxG _ _ (.raw _) _ _ _); refine ix_mlst (by first | assumption | exact updM_same) rfl ?_)
  | ((with_reducible show WA _ _ (_ :: _) _ _ _); refine wa_cons ?_)
  | ((with_reducible show WA _ _ [] _ _ _); refine wa_nil ?_))
section
variable {P : Program} {w : World} {K : PySem.W.Frag} {mg : Str → Option Value} {base : Heap}
def spAlike (K : PySem.W.Frag) : SpD := fun xs M Q => ∃ p1 g1 p2 g2 due, xs = [lenD K p1 g1, lenD K p2 g2, .bl due] ∧ decide (p1 = p2 ∧ g1 = g2) = due ∧ Q (.bl true) M
theorem sc_alike : FnScope ["one", "other", "due"] ["one", "other", "due"] d__law_alike.scope := ⟨rfl, rfl, rfl, by decide +kernel, rfl, by decide +kernel, by decide +kernel⟩
theorem cal_alike (m : Md K mg base) : CalD P w K mg base 3 "_law_alike" (spAlike K) [] := by
  refine cal_of (d := d__law_alike) rfl (fd__law_alike m.c) (He.glo_ok m.i m.n (glo__law_alike m.c)) sc_alike (fun xs M Q ⟨a, b, c, d, e, f, _⟩ => by rw [f]; rfl) (fun _ _ _ _ _ _ us hl => match us, hl with | [_, _, _], _ => rfl) ?_
  rintro cdv A outer s H E hr xs M Q ⟨p1, g1, p2, g2, due, rfl, hd, hQ⟩
  have nd := sc_alike.nd
  have nf : PySem.W.notFirst K (CL K) (.ref (CL K)) = true := (insB_ok (He.cls_ok (cls_Lengths m.c)) (ex_ins_Lengths m.e)).2
  have e2 : decide (p2 = p1 ∧ g2 = g1) = due := by
    rw [← hd]
    exact decide_eq_decide.mpr ⟨fun ⟨a, b⟩ => ⟨a.symm, b.symm⟩, fun ⟨a, b⟩ => ⟨a.symm, b.symm⟩⟩
  refine wss_one (ws_ret (we_cmp (we_lst (wa_cons ?_))))
  refine we_cmp (we_var 0 rfl rfl (we_var 1 rfl rfl (b_eqM (met_eq m) nf hr (by decide) (.inl rfl) (.inl rfl) ⟨p1, g1, p2, g2, rfl, ?_⟩)))
  refine wa3 ?_
  refine we_cmp (we_var 1 rfl rfl (we_var 0 rfl rfl (b_eqM (met_eq m) nf hr (by decide) (.inl rfl) (.inl rfl) ⟨p2, g2, p1, g1, rfl, ?_⟩)))
  refine we_cmp (we_var 0 rfl rfl (we_var 1 rfl rfl (b_neM m (met_eq m) hr (by decide) (.inl rfl) (.inl rfl) ⟨p1, g1, p2, g2, rfl, _, rfl, ?_⟩)))
  refine we_cmp (we_var 1 rfl rfl (we_var 0 rfl rfl (b_neM m (met_eq m) hr (by decide) (.inl rfl) (.inl rfl) ⟨p2, g2, p1, g1, rfl, _, rfl, ?_⟩)))
  rw [hd, e2]
  refine ⟨sz rfl, we_lst (wa_cons (we_var 2 rfl rfl (wa3 (we_var 2 rfl rfl (we_notT (we_var 2 rfl rfl (tru_is rfl (we_notT (we_var 2 rfl rfl (tru_is rfl ⟨sz rfl, ?_⟩))))))))))⟩
  exact b_eqE (encL encB) (a := [due, due, !due, !due]) (b := [due, due, !due, !due]) hr (by simpa using hQ)
end
end K02

namespace K02
open PySem PySem.Spec L2 DL

local macro_rules | `(tactic| walk_at "dl") => `(tactic| first
  | ((with_reducible show WE _ _ (.Constant _ _ _) _ _ _); first | refine we_int ?_ | refine we_str ?_ | refine we_bl ?_ | refine we_non ?_)
  | ((with_reducible show WE _ _ (.Name _ _) _ _ _); first | refine we_var 0 rfl rfl ?_ | refine we_var 1 rfl rfl ?_ | refine we_var 2 rfl rfl ?_ | refine we_var 3 rfl rfl ?_ | refine we_var 4 rfl rfl ?_ | refine we_var 5 rfl rfl ?_ | refine we_var 6 rfl rfl ?_ | refine we_var 7 rfl rfl ?_ | refine we_var 8 rfl rfl ?_ | refine we_var 9 rfl rfl ?_ | refine we_var 10 rfl rfl ?_ | refine we_var 11 rfl rfl ?_ | refine we_var 12 rfl rfl ?_ | refine we_var 13 rfl rfl ?_ | refine we_var 14 rfl rfl ?_ | refine we_var 15 rfl rfl ?_)
  | ((with_reducible show WE _ _ (.BinOp _ _ _ _) _ _ _); refine we_bin ?_)
  | ((with_reducible show WE _ _ (.Compare _ [_] [_] _) _ _ _); refine we_cmp ?_)
  | ((with_reducible show WT _ _ (.Compare _ [_] [_] _) _ _ _); refine wt_cmp ?_)
  | ((with_reducible show WE _ _ (.UnaryOp .USub _ _) _ _ _); refine we_un ?_)
  | ((with_reducible show WT _ _ (.UnaryOp .Not _ _) _ _ _); refine wt_not ?_)
  | ((with_reducible show WE _ _ (.IfExp _ _ _ _) _ _ _); refine we_ifx ?_)
  | ((with_reducible show WE _ _ (.Subscript _ (.Name _ _) _) _ _ _); refine we_ix ?_)
  | ((with_reducible show WE _ _ (.Subscript _ (.Constant _ _ _) _) _ _ _); refine we_ix ?_)
  | ((with_reducible show WE _ _ (.Subscript _ (.Subscript _ _ _) _) _ _ _); refine we_ix ?_)
  | ((with_reducible show WE _ _ (.Subscript _ (.BinOp _ _ _ _) _) _ _ _); refine we_ix ?_)
  | ((with_reducible show WE _ _ (.Subscript _ (.UnaryOp _ _ _) _) _ _ _); refine we_ix ?_)
  | ((with_reducible show WE _ _ (.Subscript _ (.Call _ _ _ _) _) _ _ _); refine we_ix ?_)
  | ((with_reducible show WE _ _ (.Call (.Name "len" _) [_] [] _) _ _ _); refine we_b1 (by assumption) bb_len ?_)
  | ((with_reducible show WE _ _ (.Call (.Name "abs" _) [_] [] _) _ _ _); refine we_b1 (by assumption) bb_abs ?_)
  | ((with_reducible show WE _ _ (.Call (.Name "int" _) [_] [] _) _ _ _); refine we_t1 (by assumption) bb_int ?_)
  | ((with_reducible show WE _ _ (.Call (.Name "list" _) [_] [] _) _ _ _); refine we_t1 (by assumption) bb_list ?_)
  | ((with_reducible show WE _ _ (.Call (.Name "tuple" _) [_] [] _) _ _ _); refine we_t1 (by assumption) bb_tuple ?_)
  | ((with_reducible show WE _ _ (.Call (.Name "str" _) [_] [] _) _ _ _); refine we_t1 (by assumption) bb_str ?_)
  | ((with_reducible show WE _ _ (.Call (.Name "set" _) [_] [] _) _ _ _); refine we_t1 (by assumption) bb_set ?_)
  | ((with_reducible show WE _ _ (.Call (.Name "sorted" _) [_] [] _) _ _ _); refine we_b1 (by assumption) bb_sorted ?_)
  | ((with_reducible show WE _ _ (.Call (.Name "isinstance" _) [_, _] [] _) _ _ _); refine we_b2 (by assumption) bb_isinstance ?_)
  | ((with_reducible show WE _ _ (.Call (.Name "max" _) [_] [] _) _ _ _); refine we_b1 (by assumption) bb_max ?_)
  | ((with_reducible show WE _ _ (.Call (.Name "min" _) [_] [] _) _ _ _); refine we_b1 (by assumption) bb_min ?_)
  | ((with_reducible show WE _ _ (.Call (.Name "max" _) [_, _] [] _) _ _ _); refine we_b2 (by assumption) bb_max ?_)
  | ((with_reducible show WE _ _ (.Call (.Name "min" _) [_, _] [] _) _ _ _); refine we_b2 (by assumption) bb_min ?_)
  | ((with_reducible show BinG _ _ (binaryOp .Add) (.int _) (.int _) _ _); refine b_add ?_)
  | ((with_reducible show BinG _ _ (binaryOp .Sub) (.int _) (.int _) _ _); refine b_sub ?_)
  | ((with_reducible show BinG _ _ (binaryOp .Mod) (.int _) (.int _) _ _); refine b_mod (by omega) ?_)
  | ((with_reducible show BinG _ _ (binaryOp .FloorDiv) (.int _) (.int _) _ _); refine b_div ⟨by omega, by omega⟩ ?_)
  | ((with_reducible show BinG _ _ (binaryOp .Mult) (.int _) (.int _) _ _); first | refine b_mul (.inr ⟨by omega, by omega⟩) ?_ | refine b_mul (.inl ⟨by omega, by omega⟩) ?_)
  | ((with_reducible show BinG _ _ (compareOp .Lt) (.int _) (.int _) _ _); refine b_lt ?_)
  | ((with_reducible show BinG _ _ (compareOp .LtE) (.int _) (.int _) _ _); refine b_le ?_)
  | ((with_reducible show BinG _ _ (compareOp .Gt) (.int _) (.int _) _ _); refine b_gt ?_)
  | ((with_reducible show BinG _ _ (compareOp .GtE) (.int _) (.int _) _ _); refine b_ge ?_)
  | ((with_reducible show BinG _ _ (compareOp .Eq) (.int _) (.int _) _ _); refine b_eqI (by assumption) ?_)
  | ((with_reducible show BinG _ _ (compareOp .NotEq) (.int _) (.int _) _ _); refine b_neI (by assumption) ?_)
  | ((with_reducible show UnG _ _ (unaryOp .USub) (.int _) _ _); refine b_neg ?_)
  | (with_reducible refine ex_bl ?_)
  | ((with_reducible show CallG _ _ (.type "int") [.int _] _ _); refine c_int ?_)
  | ((with_reducible show CallG _ _ (.type "int") [.bl _] _ _); refine c_intB ?_)
  | ((with_reducible show CallG _ _ (.builtin "abs") _ _ _); refine c_abs ?_)
  | ((with_reducible show CallG _ _ (.builtin "len") [.lst _] _ _); refine c_len ?_)
  | ((with_reducible show CallG _ _ (.builtin "len") [.tup _] _ _); refine c_lenT ?_)
  | ((with_reducible show CallG _ _ (.builtin "len") [.raw _] _ _); refine c_lenM (by first | assumption | exact updM_same) ?_)
  | ((with_reducible show CallG _ _ (.type "list") [.tup _] _ _); refine c_listT ?_)
  | ((with_reducible show CallG _ _ (.type "tuple") [.lst _] _ _); refine c_tuple ?_)
  | ((with_reducible show CallG _ _ (.type "tuple") [.tup _] _ _); refine c_tupleT ?_)
  | ((with_reducible show CallG _ _ (.builtin "max") [.int _, .int _] _ _); refine c_max2 rfl ?_)
  | ((with_reducible show CallG _ _ (.builtin "min") [.int _, .int _] _ _); refine c_min2 rfl ?_)
  | ((with_reducible show IxG _ _ (.tup _) _ _ _); refine ix_tupD rfl ?_)
  | ((with_reducible show IxG _ _ (.raw _) _ _ _); refine ix_mlst (by first | assumption | exact updM_same) rfl ?_)
  | ((with_reducible show WA _ _ (_ :: _) _ _ _); refine wa_cons ?_)
  | ((with_reducible show WA _ _ [] _ _ _); refine wa_nil ?_))
section
variable {P : Program} {w : World} {K : PySem.W.Frag} {mg : Str → Option Value} {base : Heap}
def spMore : SpD := fun xs M Q => ∃ p d per gaps, xs = [.raw (.ref p), lensD per gaps] ∧ M p = some d ∧ BagD d ∧ 1 ≤ per ∧ per ≤ 12 ∧ Cl per 100 gaps ∧
  ∀ more x d', Cl per 300 more → x ∈ more → x ∉ gaps → BagD d' → Q (lensD per more) (updM M p d')
theorem sc_more : FnScope ["bag", "lens", "far", "k", "d", "gap"] ["bag", "lens"] d__law_more.scope := ⟨rfl, rfl, rfl, by decide +kernel, rfl, by decide +kernel, by decide +kernel⟩
theorem cal_more (m : Md K mg base) : CalD P w K mg base 2 "_law_more" spMore [] := by
  refine cal_of (d := d__law_more) rfl (fd__law_more m.c) (He.glo_ok m.i m.n (glo__law_more m.c)) sc_more (fun xs M Q ⟨a, b, c, d, e, _⟩ => by rw [e]; rfl) (fun _ _ _ _ _ _ us hl => match us, hl with | [_, _], _ => rfl) ?_
  rintro cdv A outer s H E hr xs M Q ⟨p, d, per, gaps, rfl, hM, hB, hp1, hp2, cl, hQ⟩
  have nd := sc_more.nd
  have frange : mg "range" = none := He.free_ok m.i m.n (free_range m.c)
  have hsz : sizeLine = 16777216 := sizeLine_eq
  refine wss_cons (ws_set 2 nd rfl (we_bin (we_int (we_cal (cal_take m) hr (by decide) (wa2 (we_var 0 rfl rfl (we_int ⟨p, d, 40, rfl, hM, hB, by decide, by decide, fun z d1 hz0 hz1 hB1 => b_add ?_⟩)))))))
  generalize hfar : 13 + z = far
  have hf1 : 13 ≤ far := by omega
  have hf2 : far ≤ 53 := by omega
  have wf := wf_cl cl hp1 (by omega) (by omega)
  obtain ⟨ds, hgd, srt, hd, hc⟩ := cl
  have hdl : ds.length ≤ 100 := by
    have := nodup_len (l := ds) (srt.imp fun {a b} q => by omega) (m := (List.range 100).map fun i : Nat => (i : Int) + 1) fun k hk => by
      have := hd k hk
      exact List.mem_map.mpr ⟨(k - 1).toNat, List.mem_range.mpr (by omega), by omega⟩
    simpa using this
  have hin : ∀ x : Int, per * x ∈ gaps → x ∈ ds := fun x hx => by
    rw [hgd] at hx
    obtain ⟨y, hy, e⟩ := List.mem_map.mp hx
    have : y = x := Int.eq_of_mul_eq_mul_left (by omega) e
    rw [← this]; exact hy
  refine wss_cons (ws_forL (.nm 3) (List.range 200) (fun l : Nat => .int (l : Nat)) (fun rem ds1 M1 => (∃ o, ds1 = [some (.raw (.ref p)), some (lensD per gaps), some (.int far), o, none, none]) ∧ M1 = updM M p d1 ∧ (∀ i ∈ rem, i < 200) ∧ ∀ i : Nat, i < 200 → i ∉ rem → per * (far + (i : Int)) ∈ gaps) PassesOwn.never rfl (pg_name nd rfl (Or.inl rfl)) ?_ ?_ ?_)
  · exact wi_range1 frange (wa1 (we_int ⟨200, rfl, by decide, by decide, li_range _ _, ⟨none, rfl⟩, rfl, fun i hi => List.mem_range.mp hi, fun i hi hn => absurd (List.mem_range.mpr hi) hn⟩))
  · rintro ds1 M1 ⟨_, _, _, hall⟩
    have h1 := hd _ (hin _ (hall 199 (by decide) (by simp)))
    omega
  rintro k r ds1 M1 ⟨⟨o, rfl⟩, rfl, hlt, hall⟩
  have hk200 : k < 200 := hlt k List.mem_cons_self
  refine ⟨_, rfl, wss_one (ws_if (wt_cmp (we_bin (we_ix (we_var 1 rfl rfl (we_int (ix_tupD rfl (we_bin (we_var 2 rfl rfl (we_var 3 rfl rfl (b_add (b_mul (.inl ⟨by omega, by omega⟩) (we_ix (we_var 1 rfl rfl (we_int (ix_tupD rfl (b_notin ⟨_, rfl, fun hk => ?_, fun hk => wss_nil ?_⟩)))))))))))))))))⟩
  rotate_left
  · refine ⟨⟨_, rfl⟩, rfl, fun i hi => hlt i (List.mem_cons_of_mem _ hi), fun i hi hn => ?_⟩
    by_cases e : i = k
    · subst e
      simpa using hk
    · exact hall i hi fun h => (List.mem_cons.mp h).elim e hn
  have hk' : per * (far + (k : Int)) ∉ gaps := by simpa using hk
  refine wss_one (ws_ret (we_tup (wa2 (we_ix (we_var 1 rfl rfl (we_int (ix_tupD rfl ?_)))))))
  refine we_lcG (.nm 4) rfl nd (own := [("d", 4)]) (blkOk_by (by kernel_rfl)) (by decide) (fun s0 H0 C cl fp => pg_name nd rfl (Or.inl rfl)) (R := fun n item M1 => ∃ r : List Int, M1 = updM M p d1 ∧ n = r.length ∧ n ≤ sizeLine ∧ LI r D.int n item ∧ r.Pairwise (· < ·) ∧ (∀ d, d ∈ r ↔ 0 < d ∧ ∃ t ∈ ds ++ [far + (k : Int)], t % d = 0)) ?_ ?_
  · refine wi_list (we_cal (cal_closed m) hr (by decide) (wa1 (we_bin ?_)))
    refine we_lcM (.nm 5) gaps D.int (fun g => .int (g / per)) rfl nd (own := [("gap", 5)]) (by kernel_rfl) (by decide) (fun s0 H0 C cl fp => pg_name nd rfl (Or.inl rfl)) (wi_list (we_ix (we_var 1 rfl rfl (we_int (ix_tupD rfl ⟨_, rfl, fun hz => ⟨hz, li_map gaps D.int, ?_, ?_⟩⟩)))))
    · intro c hc M' hs
      have := wf.mul c hc
      exact ⟨_, rfl, fun s0 H0 C cl fp => we_bin (we_var 5 rfl rfl (we_ix (we_var 1 rfl rfl (we_int (ix_tupD rfl (b_div ⟨by omega, by omega⟩ ⟨rfl, rfl⟩))))))⟩
    · have e1 : gaps.map (fun g => D.int (g / per)) = ds.map D.int := by
        rw [hgd, List.map_map]
        refine List.map_congr_left fun x hx => ?_
        simp only [Function.comp]
        rw [Int.mul_ediv_cancel_left _ (by omega)]
      rw [e1]
      refine we_lst (wa1 (we_bin (we_var 2 rfl rfl (we_var 3 rfl rfl (b_add ⟨sz rfl, b_addLI ds [far + (k : Int)] (by simp; omega) ⟨ds ++ [far + (k : Int)], rfl, ?_, by simp; omega, fun r h1 h2 => ⟨_, rfl, fun hz => ⟨r, rfl, by simp, hz, li_map r D.int, h1, h2⟩⟩⟩⟩)))))
      intro t ht
      rcases List.mem_append.mp ht with h | h
      · have := hd t h; omega
      · simp at h; omega
  · rintro n item M1 ⟨r, rfl, _, hz, li, h1, h2⟩
    have hle : ∀ d ∈ r, 1 ≤ d ∧ d ≤ 300 := fun d hd1 => by
      obtain ⟨h3, t, ht, h4⟩ := (h2 d).mp hd1
      have h5 : 1 ≤ t ∧ t ≤ 300 := by
        rcases List.mem_append.mp ht with h | h
        · have := hd t h; omega
        · simp at h; omega
      have := Int.le_of_dvd (show 0 < t by omega) (Int.dvd_of_emod_eq_zero h4)
      omega
    refine ⟨hz, _, ⟨rfl, rfl⟩, fun acc M2 ⟨e1, e2⟩ => ?_, lct_pure (p := fun _ => true) (f := fun d => .int (per * d)) li (PureM.t fun c hc M' hs => ⟨_, rfl, fun s0 H0 C cl fp => we_bin (we_ix (we_var 1 rfl rfl (we_int (ix_tupD rfl (we_var 4 rfl rfl (b_mul (.inl ⟨by omega, by omega⟩) ⟨rfl, rfl⟩))))))⟩)⟩
    subst e1
    rw [e2, li.1, List.take_length, filter_all]
    have e3 : r.map (fun d => D.int (per * d)) = (r.map (per * ·)).map D.int := by rw [List.map_map]; rfl
    rw [e3]
    refine ⟨sz rfl, hQ (r.map (per * ·)) (per * (far + (k : Int))) d1 ⟨r, rfl, h1, hle, fun d hd e he hde => ?_⟩ (List.mem_map.mpr ⟨far + (k : Int), (h2 _).mpr ⟨by omega, _, List.mem_append_right _ (by simp), Int.emod_self⟩, rfl⟩) hk' hB1⟩
    obtain ⟨h3, t, ht, h4⟩ := (h2 d).mp hd
    exact (h2 e).mpr ⟨he, t, ht, Int.emod_eq_zero_of_dvd (Int.dvd_trans hde (Int.dvd_of_emod_eq_zero h4))⟩
end
end K02

namespace K02
open DL
/-! the plain law: both, in any order and grouping -/
structure Bd (p : Int) (g : List Int) (P : Int) (L : Nat) : Prop where
  wf : Wf p g
  per : p ≤ P
  len : g.length ≤ L
  b : ∀ x ∈ g, x ≤ 3600
theorem lcm_le {a b : Int} (h1 : 0 < a) (h2 : 0 < b) : lcmI a b ≤ a * b := by
  obtain ⟨x, rfl⟩ := Int.eq_ofNat_of_zero_le (show 0 ≤ a by omega)
  obtain ⟨y, rfl⟩ := Int.eq_ofNat_of_zero_le (show 0 ≤ b by omega)
  show ((Nat.lcm x y : Nat) : Int) ≤ (x : Int) * (y : Int)
  have : Nat.lcm x y ≤ x * y := Nat.div_le_self _ _
  rw [← Int.natCast_mul]
  omega
theorem Bd.pair {p1 p2 P1 P2 : Int} {g1 g2 : List Int} {L1 L2 : Nat} (a : Bd p1 g1 P1 L1) (b : Bd p2 g2 P2 L2) (hP : P1 * P2 ≤ 100000) (hL : L1 + L2 ≤ 1000) : Pair p1 g1 p2 g2 := by
  have h1 := a.wf.pos
  have h2 := b.wf.pos
  have e1 := lcm_le h1 h2
  have e2 : p1 * p2 ≤ P1 * P2 := Int.mul_le_mul a.per b.per (by omega) (by have := a.per; omega)
  exact ⟨a.wf, b.wf, by omega, by have := a.len; have := b.len; omega, fun g hg => by have := a.b g hg; omega, fun g hg => by have := b.b g hg; omega⟩
theorem Bd.both {p1 p2 P1 P2 : Int} {g1 g2 R : List Int} {L1 L2 : Nat} (a : Bd p1 g1 P1 L1) (b : Bd p2 g2 P2 L2) (wR : Wf (lcmI p1 p2) R) (hR : ∀ x, x ∈ R ↔ (x ∈ g1 ∨ x ∈ g2) ∧ x % lcmI p1 p2 = 0) : Bd (lcmI p1 p2) R (P1 * P2) (L1 + L2) := by
  have h1 := a.wf.pos
  have h2 := b.wf.pos
  have e1 := lcm_le h1 h2
  have e2 : p1 * p2 ≤ P1 * P2 := Int.mul_le_mul a.per b.per (by omega) (by have := a.per; omega)
  refine ⟨wR, by omega, ?_, fun x hx => (((hR x).mp hx).1).elim (a.b x) (b.b x)⟩
  have := nodup_len (l := R) (wR.srt.imp fun {a b} q => by omega) (m := g1 ++ g2) fun k hk => List.mem_append.mpr ((hR k).mp hk).1
  rw [List.length_append] at this
  have := a.len
  have := b.len
  omega
theorem lcm_cast {a b : Int} : (lcmI a b).natAbs = Nat.lcm a.natAbs b.natAbs := rfl
theorem lcm_eqN {a b : Int} : lcmI a b = ((Nat.lcm a.natAbs b.natAbs : Nat) : Int) := rfl
theorem lcm_comm (a b : Int) : lcmI a b = lcmI b a := by rw [lcm_eqN, lcm_eqN, Nat.lcm_comm]
theorem lcm_assoc (a b c : Int) : lcmI (lcmI a b) c = lcmI a (lcmI b c) := by
  show ((Nat.lcm (Nat.lcm a.natAbs b.natAbs) c.natAbs : Nat) : Int) = ((Nat.lcm a.natAbs (Nat.lcm b.natAbs c.natAbs) : Nat) : Int)
  rw [Nat.lcm_assoc]
theorem lcm_self {a : Int} (h : 0 < a) : lcmI a a = a := by rw [lcm_eqN, Nat.lcm_self]; omega
theorem mem3 {p1 p2 p3 x : Int} {g1 g2 g3 A : List Int} (hA : ∀ x, x ∈ A ↔ (x ∈ g1 ∨ x ∈ g2) ∧ x % lcmI p1 p2 = 0) : ((x ∈ A ∨ x ∈ g3) ∧ x % lcmI (lcmI p1 p2) p3 = 0) ↔ ((x ∈ g1 ∨ x ∈ g2 ∨ x ∈ g3) ∧ x % lcmI (lcmI p1 p2) p3 = 0) := by
  have key : x % lcmI (lcmI p1 p2) p3 = 0 → x % lcmI p1 p2 = 0 := fun h =>
    Int.emod_eq_zero_of_dvd (Int.dvd_trans (Int.dvd_lcm_left ..) (Int.dvd_of_emod_eq_zero h))
  constructor
  · rintro ⟨h | h, e⟩
    · exact ⟨((hA x).mp h).1.elim .inl (fun h => .inr (.inl h)), e⟩
    · exact ⟨.inr (.inr h), e⟩
  · rintro ⟨h | h | h, e⟩
    · exact ⟨.inl ((hA x).mpr ⟨.inl h, key e⟩), e⟩
    · exact ⟨.inl ((hA x).mpr ⟨.inr h, key e⟩), e⟩
    · exact ⟨.inr h, e⟩
theorem within_part {L p : Int} {R g : List Int} (hp : p ∣ L) (hR : ∀ x ∈ g, x % L = 0 → x ∈ R) : withinL L R p g = true := by
  unfold withinL
  rw [Bool.and_eq_true, decide_eq_true_eq, List.all_eq_true]
  refine ⟨Int.emod_eq_zero_of_dvd hp, fun x hx => ?_⟩
  have : inL L R x = false := by
    unfold inL
    refine decide_eq_false fun h => h.2.2 (hR x hx h.2.1)
  rw [this]; rfl
section
open PySem PySem.Spec L2
theorem sp_both {C : Addr} {M : Mst} {Q : QD} {p1 p2 L : Int} {g1 g2 R : List Int} (pr : Pair p1 g1 p2 g2) (hL : lcmI p1 p2 = L) (wR : Wf L R) (hR : ∀ x, x ∈ R ↔ (x ∈ g1 ∨ x ∈ g2) ∧ x % L = 0) (q : Q (.obj C (lenF L R)) M) : spBoth C (.obj C (lenF p1 g1) :: ([.obj C (lenF p2 g2)] ++ [])) M Q := by
  subst hL
  exact ⟨p1, g1, p2, g2, R, rfl, pr.w1.pos, by have := pr.w1.perB; omega, pr.w2.pos, by have := pr.w2.perB; omega, pr.w1.len, pr.w2.len, wR, hR, q⟩
theorem sp_lboth {M : Mst} {Q : QD} {p1 p2 L : Int} {g1 g2 R : List Int} (pr : Pair p1 g1 p2 g2) (hL : lcmI p1 p2 = L) (wR : Wf L R) (hR : ∀ x, x ∈ R ↔ (x ∈ g1 ∨ x ∈ g2) ∧ x % L = 0) (q : Q (lensD L R) M) : spLBoth ([lensD p1 g1, lensD p2 g2] ++ []) M Q := by
  subst hL
  refine ⟨p1, g1, p2, g2, rfl, pr.w1, pr.w2, pr.lcm, pr.len, pr.b1, pr.b2, fun R' w' h' => ?_⟩
  have e : R' = R := sorted_ext w'.srt wR.srt fun x => by rw [h', hR]
  rw [e]
  exact q
end
end K02

namespace K02
open PySem PySem.Spec L2 DL

local macro_rules | `(tactic| walk_at "dl") => `(tactic| first
  | ((with_reducible show WE _ _ (.Constant _ _ _) _ _ _); first | refine we_int ?_ | refine we_str ?_ | refine we_bl ?_ | refine we_non ?_)
  | ((with_reducible show WE _ _ (.Name _ _) _ _ _); first | refine we_var 0 rfl rfl ?_ | refine we_var 1 rfl rfl ?_ | refine we_var 2 rfl rfl ?_ | refine we_var 3 rfl rfl ?_ | refine we_var 4 rfl rfl ?_ | refine we_var 5 rfl rfl ?_ | refine we_var 6 rfl rfl ?_ | refine we_var 7 rfl rfl ?_ | refine we_var 8 rfl rfl ?_ | refine we_var 9 rfl rfl ?_ | refine we_var 10 rfl rfl ?_ | refine we_var 11 rfl rfl ?_ | refine we_var 12 rfl rfl ?_ | refine we_var 13 rfl rfl ?_ | refine we_var 14 rfl rfl ?_ | refine we_var 15 rfl rfl ?_)
  | ((with_reducible show WE _ _ (.BinOp _ _ _ _) _ _ _); refine we_bin ?_)
  | ((with_reducible show WE _ _ (.Compare _ [_] [_] _) _ _ _); refine we_cmp ?_)
  | ((with_reducible show WT _ _ (.Compare _ [_] [_] _) _ _ _); refine wt_cmp ?_)
  | ((with_reducible show WE _ _ (.UnaryOp .USub _ _) _ _ _); refine we_un ?_)
  | ((with_reducible show WT _ _ (.UnaryOp .Not _ _) _ _ _); refine wt_not ?_)
  | ((with_reducible show WE _ _ (.IfExp _ _ _ _) _ _ _); refine we_ifx ?_)
  | ((with_reducible show WE _ _ (.Subscript _ (.Name _ _) _) _ _ _); refine we_ix ?_)
  | ((with_reducible show WE _ _ (.Subscript _ (.Constant _ _ _) _) _ _ _); refine we_ix ?_)
  | ((with_reducible show WE _ _ (.Subscript _ (.Subscript _ _ _) _) _ _ _); refine we_ix ?_)
  | ((with_reducible show WE _ _ (.Subscript _ (.BinOp _ _ _ _) _) _ _ _); refine we_ix ?_)
  | ((with_reducible show WE _ _ (.Subscript _ (.UnaryOp _ _ _) _) _ _ _); refine we_ix ?_)
  | ((with_reducible show WE _ _ (.Subscript _ (.Call _ _ _ _) _) _ _ _); refine we_ix ?_)
  | ((with_reducible show WE _ _ (.Call (.Name "len" _) [_] [] _) _ _ _); refine we_b1 (by assumption) bb_len ?_)
  | ((with_reducible show WE _ _ (.Call (.Name "abs" _) [_] [] _) _ _ _); refine we_b1 (by assumption) bb_abs ?_)
  | ((with_reducible show WE _ _ (.Call (.Name "int" _) [_] [] _) _ _ _); refine we_t1 (by assumption) bb_int ?_)
  | ((with_reducible show WE _ _ (.Call (.Name "list" _) [_] [] _) _ _ _); refine we_t1 (by assumption) bb_list ?_)
  | ((with_reducible show WE _ _ (.Call (.Name "tuple" _) [_] [] _) _ _ _); refine we_t1 (by assumption) bb_tuple ?_)
  | ((with_reducible show WE _ _ (.Call (.Name "str" _) [_] [] _) _ _ _); refine we_t1 (by assumption) bb_str ?_)
  | ((with_reducible show WE _ _ (.Call (.Name "set" _) [_] [] _) _ _ _); refine we_t1 (by assumption) bb_set ?_)
  | ((with_reducible show WE _ _ (.Call (.Name "sorted" _) [_] [] _) _ _ _); refine we_b1 (by assumption) bb_sorted ?_)
  | ((with_reducible show WE _ _ (.Call (.Name "isinstance" _) [_, _] [] _) _ _ _); refine we_b2 (by assumption) bb_isinstance ?_)
  | ((with_reducible show WE _ _ (.Call (.Name "max" _) [_] [] _) _ _ _); refine we_b1 (by assumption) bb_max ?_)
  | ((with_reducible show WE _ _ (.Call (.Name "min" _) [_] [] _) _ _ _); refine we_b1 (by assumption) bb_min ?_)
  | ((with_reducible show WE _ _ (.Call (.Name "max" _) [_, _] [] _) _ _ _); refine we_b2 (by assumption) bb_max ?_)
  | ((with_reducible show WE _ _ (.Call (.Name "min" _) [_, _] [] _) _ _ _); refine we_b2 (by assumption) bb_min ?_)
  | ((with_reducible show BinG _ _ (binaryOp .Add) (.int _) (.int _) _ _); refine b_add ?_)
  | ((with_reducible show BinG _ _ (binaryOp .Sub) (.int _) (.int _) _ _); refine b_sub ?_)
  | ((with_reducible show BinG _ _ (binaryOp .Mod) (.int _) (.int _) _ _); refine b_mod (by omega) ?_)
  | ((with_reducible show BinG _ _ (binaryOp .FloorDiv) (.int _) (.int _) _ _); refine b_div ⟨by omega, by omega⟩ ?_)
  | ((with_reducible show BinG _ _ (binaryOp .Mult) (.int _) (.int _) _ _); first | refine b_mul (.inr ⟨by omega, by omega⟩) ?_ | refine b_mul (.inl ⟨by omega, by omega⟩) ?_)
  | ((with_reducible show BinG _ _ (compareOp .Lt) (.int _) (.int _) _ _); refine b_lt ?_)
  | ((with_reducible show BinG _ _ (compareOp .LtE) (.int _) (.int _) _ _); refine b_le ?_)
  | ((with_reducible show BinG _ _ (compareOp .Gt) (.int _) (.int _) _ _); refine b_gt ?_)
  | ((with_reducible show BinG _ _ (compareOp .GtE) (.int _) (.int _) _ _); refine b_ge ?_)
  | ((with_reducible show BinG _ _ (compareOp .Eq) (.int _) (.int _) _ _); refine b_eqI (by assumption) ?_)
  | ((with_reducible show BinG _ _ (compareOp .NotEq) (.int _) (.int _) _ _); refine b_neI (by assumption) ?_)
  | ((with_reducible show UnG _ _ (unaryOp .USub) (.int _) _ _); refine b_neg ?_)
  | (with_reducible refine ex_bl ?_)
  | ((with_reducible show CallG _ _ (.type "int") [.int _] _ _); refine c_int ?_)
  | ((with_reducible show CallG _ _ (.type "int") [.bl _] _ _); refine c_intB ?_)
  | ((with_reducible show CallG _ _ (.builtin "abs") _ _ _); refine c_abs ?_)
  | ((with_reducible show CallG _ _ (.builtin "len") [.lst _] _ _); refine c_len ?_)
  | ((with_reducible show CallG _ _ (.builtin "len") [.tup _] _ _); refine c_lenT ?_)
  | ((with_reducible show CallG _ _ (.builtin "len") [.raw _] _ _); refine c_lenM (by first | assumption | exact updM_same) ?_)
  | ((with_reducible show CallG _ _ (.type "list") [.tup _] _ _); refine c_listT ?_)
  | ((with_reducible show CallG _ _ (.type "tuple") [.lst _] _ _); refine c_tuple ?_)
  | ((with_reducible show CallG _ _ (.type "tuple") [.tup _] _ _); refine c_tupleT ?_)
  | ((with_reducible show CallG _ _ (.builtin "max") [.int _, .int _] _ _); refine c_max2 rfl ?_)
  | ((with_reducible show CallG _ _ (.builtin "min") [.int _, .int _] _ _); refine c_min2 rfl ?_)
  | ((with_reducible show IxG _ _ (.tup _) _ _ _); refine ix_tupD rfl ?_)
  | ((with_reducible show IxG _ _ (.raw _) _ _ _); refine ix_mlst (by first | assumption | exact updM_same) rfl ?_)
  | ((with_reducible show WA _ _ (_ :: _) _ _ _); refine wa_cons ?_)
  | ((with_reducible show WA _ _ [] _ _ _); refine wa_nil ?_))
section
variable {P : Program} {w : World} {K : PySem.W.Frag} {mg : Str → Option Value} {base : Heap}
def spWays : SpD := fun xs M Q => ∃ p d p1 g1 p2 g2 p3 g3, xs = [.raw (.ref p), .lst [lensD p1 g1, lensD p2 g2, lensD p3 g3]] ∧ M p = some d ∧ BagD d ∧ Bd p1 g1 12 300 ∧ Bd p2 g2 12 300 ∧ Bd p3 g3 12 300 ∧ ∀ d', BagD d' → Q (.bl true) (updM M p d')
theorem sc_ways : FnScope ["bag", "owns", "a", "b", "c", "one", "two", "three", "pair", "whole", "ways", "told", "part"] ["bag", "owns"] d__law_ways.scope := ⟨rfl, rfl, rfl, by decide +kernel, rfl, by decide +kernel, by decide +kernel⟩
theorem cal_ways (m : Md K mg base) : CalD P w K mg base 7 "_law_ways" spWays [] := by
  refine cal_of (d := d__law_ways) rfl (fd__law_ways m.c) (He.glo_ok m.i m.n (glo__law_ways m.c)) sc_ways (fun xs M Q ⟨a, b, c, d, e, f, g, h, i, _⟩ => by rw [i]; rfl) (fun _ _ _ _ _ _ us hl => match us, hl with | [_, _], _ => rfl) ?_
  rintro cdv A outer s H E hr xs M Q ⟨p, d, p1, g1, p2, g2, p3, g3, rfl, hM, hB, b1, b2, b3, hQ⟩
  have nd := sc_ways.nd
  have hsz : sizeLine = 16777216 := sizeLine_eq
  have cl := He.cls_ok (cls_Lengths m.c)
  have hn := (insB_ok cl (ex_ins_Lengths m.e)).2
  have q1 := b1.wf.pos
  have q2 := b2.wf.pos
  have q3 := b3.wf.pos
  have pr12 := b1.pair b2 (by decide) (by decide)
  have pr32 := b3.pair b2 (by decide) (by decide)
  have pr13 := b1.pair b3 (by decide) (by decide)
  obtain ⟨R12, w12, h12⟩ := both_ex pr12
  obtain ⟨R32, w32, h32⟩ := both_ex pr32
  obtain ⟨R13, w13, h13⟩ := both_ex pr13
  have B12 := b1.both b2 w12 h12
  have B32 := b3.both b2 w32 h32
  have B13 := b1.both b3 w13 h13
  have prW := B12.pair b3 (by decide) (by decide)
  obtain ⟨R, wR, hR0⟩ := both_ex prW
  have BW := B12.both b3 wR hR0
  generalize hL : lcmI (lcmI p1 p2) p3 = L at wR hR0 BW
  have hR : ∀ x, x ∈ R ↔ (x ∈ g1 ∨ x ∈ g2 ∨ x ∈ g3) ∧ x % L = 0 := fun x => by rw [hR0, ← hL, mem3 h12]
  have eL0 : lcmI p3 (lcmI p1 p2) = L := by rw [← hL, lcm_comm]
  have eL1 : lcmI (lcmI p3 p2) p1 = L := by rw [← hL, lcm_assoc, lcm_comm p3, lcm_comm p2 p1]
  have eL2 : lcmI (lcmI p1 p3) p2 = L := by rw [← hL, lcm_assoc, lcm_assoc, lcm_comm p3]
  have hRa : ∀ x, x ∈ R ↔ (x ∈ g3 ∨ x ∈ R12) ∧ x % L = 0 := fun x => by rw [hR0, or_comm]
  have hRb : ∀ x, x ∈ R ↔ (x ∈ R32 ∨ x ∈ g1) ∧ x % L = 0 := fun x => by
    rw [hR, ← eL1, mem3 h32]
    exact ⟨fun ⟨a, b⟩ => ⟨a.elim (fun a => .inr (.inr a)) fun a => a.elim (fun a => .inr (.inl a)) .inl, b⟩, fun ⟨a, b⟩ => ⟨a.elim (fun a => .inr (.inr a)) fun a => a.elim (fun a => .inr (.inl a)) .inl, b⟩⟩
  have hRc : ∀ x, x ∈ R ↔ (x ∈ R13 ∨ x ∈ g2) ∧ x % L = 0 := fun x => by
    rw [hR, ← eL2, mem3 h13]
    exact ⟨fun ⟨a, b⟩ => ⟨a.elim .inl fun a => a.elim (fun a => .inr (.inr a)) fun a => .inr (.inl a), b⟩, fun ⟨a, b⟩ => ⟨a.elim .inl fun a => a.elim (fun a => .inr (.inr a)) fun a => .inr (.inl a), b⟩⟩
  have pr3W := b3.pair B12 (by decide) (by decide)
  have prb := B32.pair b1 (by decide) (by decide)
  have prc := B13.pair b2 (by decide) (by decide)
  have w1 : withinL L R p1 g1 = true := within_part (by rw [← hL]; exact Int.dvd_trans (Int.dvd_lcm_left ..) (Int.dvd_lcm_left ..)) fun x hx h => (hR x).mpr ⟨.inl hx, h⟩
  have w2 : withinL L R p2 g2 = true := within_part (by rw [← hL]; exact Int.dvd_trans (Int.dvd_lcm_right ..) (Int.dvd_lcm_left ..)) fun x hx h => (hR x).mpr ⟨.inr (.inl hx), h⟩
  have w3 : withinL L R p3 g3 = true := within_part (by rw [← hL]; exact Int.dvd_lcm_right ..) fun x hx h => (hR x).mpr ⟨.inr (.inr hx), h⟩
  have h21 : ∀ x, x ∈ R12 ↔ (x ∈ g2 ∨ x ∈ g1) ∧ x % lcmI p1 p2 = 0 := fun x => by rw [h12, or_comm]
  have pr21 := b2.pair b1 (by decide) (by decide)
  have pr11 := b1.pair b1 (by decide) (by decide)
  have h11 : ∀ x, x ∈ g1 ↔ (x ∈ g1 ∨ x ∈ g1) ∧ x % p1 = 0 := fun x => ⟨fun h => ⟨.inl h, Int.emod_eq_zero_of_dvd (b1.wf.mul x h).2.2⟩, fun h => h.1.elim id id⟩
  -- a, b, c = owns
  refine wss_cons (ws_asg (.ls [2, 3, 4]) (pg_unl rfl (pgs_cons (pg_name nd rfl (Or.inl rfl)) (pgs_cons (pg_name nd rfl (Or.inl rfl)) (pgs_cons (pg_name nd rfl (Or.inl rfl)) pgs_nil)))) (we_var 1 rfl rfl ⟨_, rfl, ?_⟩))
  refine wss_cut (fun ds1 M1 => ∃ d2, ds1 = [some (.raw (.ref p)), some (.lst [lensD p1 g1, lensD p2 g2, lensD p3 g3]), some (lensD p1 g1), some (lensD p2 g2), some (lensD p3 g3), some (lenD K p1 g1), some (lenD K p2 g2), some (lenD K p3 g3), none, none, none, none, none] ∧ M1 = updM M p d2 ∧ BagD d2) (ws_par3 5 6 7 rfl nd rfl rfl rfl (wa3 ?_)) ?_
  · refine we_cal (cal_object m) hr (by decide) (wa2 (we_var 0 rfl rfl (we_var 2 rfl rfl ⟨p, d, p1, g1, rfl, hM, hB, b1.wf, fun d1 hB1 => ?_⟩)))
    refine we_cal (cal_object m) hr (by decide) (wa2 (we_var 0 rfl rfl (we_var 3 rfl rfl ⟨p, d1, p2, g2, rfl, updM_same, hB1, b2.wf, fun d2 hB2 => ?_⟩)))
    rw [updM_updM]
    refine we_cal (cal_object m) hr (by decide) (wa2 (we_var 0 rfl rfl (we_var 4 rfl rfl ⟨p, d2, p3, g3, rfl, updM_same, hB2, b3.wf, fun d3 hB3 => ?_⟩)))
    rw [updM_updM]
    exact ⟨_, _, _, rfl, d3, rfl, rfl, hB3⟩
  rintro ds1 M1 ⟨d2, rfl, rfl, hB2⟩
  -- pair, whole
  refine wss_cons (ws_asg (.tp [8, 9]) (pg_tup rfl (pgs_cons (pg_name nd rfl (Or.inl rfl)) (pgs_cons (pg_name nd rfl (Or.inr rfl) (.inl rfl)) pgs_nil))) (we_tup (wa2 (we_cal (cal_lboth m) hr (by decide) (wa2 (we_var 2 rfl rfl (we_var 3 rfl rfl (sp_lboth pr12 rfl w12 h12 ?_))))))))
  refine we_cal (cal_lboth m) hr (by decide) (wa2 (we_cal (cal_lboth m) hr (by decide) (wa2 (we_var 2 rfl rfl (we_var 3 rfl rfl (sp_lboth pr12 rfl w12 h12 (we_var 4 rfl rfl (sp_lboth prW hL wR hR0 ⟨sz rfl, _, rfl, ?_⟩))))))))
  -- the pair
  refine wss_cut (fun ds1 M1 => ∃ d3, ds1 = [some (.raw (.ref p)), some (.lst [lensD p1 g1, lensD p2 g2, lensD p3 g3]), some (lensD p1 g1), some (lensD p2 g2), some (lensD p3 g3), some (lenD K p1 g1), some (lenD K p2 g2), some (lenD K p3 g3), some (lensD (lcmI p1 p2) R12), some (lensD L R), none, none, none] ∧ M1 = updM M p d3 ∧ BagD d3)
    (ws_if (wt_w (ww_or (wt_not (wt_truth (we_cal (cal_tells m) hr (by decide) (wa2 (we_met (met_both m) hr (by decide) (we_var 5 rfl rfl ⟨_, .inl rfl, rfl, wa1 (we_var 6 rfl rfl (sp_both pr12 rfl w12 h12 (we_var 8 rfl rfl ⟨_, _, rfl, tru_is rfl ⟨fun h => (by cases h), fun _ => ?_⟩⟩)))⟩))))))))) ?_
  · refine ww_or (wt_not (wt_truth (we_cal (cal_tells m) hr (by decide) (wa2 (we_met (met_both m) hr (by decide) (we_var 6 rfl rfl ⟨_, .inl rfl, rfl, wa1 (we_var 5 rfl rfl (sp_both pr21 (lcm_comm p2 p1) w12 h21 (we_var 8 rfl rfl ⟨_, _, rfl, tru_is rfl ⟨fun h => (by cases h), fun _ => ?_⟩⟩)))⟩))))))
    refine ww_or1 (wt_not (wt_truth (we_cal (cal_among m) hr (by decide) (wa3 (we_var 0 rfl rfl (we_var 8 rfl rfl (we_met (met_both m) hr (by decide) (we_var 5 rfl rfl ⟨_, .inl rfl, rfl, wa1 (we_var 6 rfl rfl (sp_both pr12 rfl w12 h12 ⟨p, d2, _, _, rfl, updM_same, hB2, w12, w12.perB, fun x hx => by have := B12.b x hx; omega, fun d3 hB3 => tru_is rfl ⟨fun h => (by cases h), fun _ => wss_nil ?_⟩⟩))⟩))))))))
    rw [updM_updM]
    exact ⟨d3, rfl, rfl, hB3⟩
  rintro ds1 M1 ⟨d3, rfl, rfl, hB3⟩
  -- ways
  refine wss_cons (ws_set 10 nd rfl (we_lst (wa_cons ?_)))
  refine we_met (met_both m) hr (by decide) (we_met (met_both m) hr (by decide) (we_var 5 rfl rfl ⟨_, .inl rfl, rfl, wa1 (we_var 6 rfl rfl (sp_both pr12 rfl w12 h12 ⟨_, .inl rfl, rfl, wa1 (we_var 7 rfl rfl (sp_both prW hL wR hR0 (wa3 ?_)))⟩))⟩))
  refine we_met (met_both m) hr (by decide) (we_var 7 rfl rfl ⟨_, .inl rfl, rfl, wa1 (we_met (met_both m) hr (by decide) (we_var 5 rfl rfl ⟨_, .inl rfl, rfl, wa1 (we_var 6 rfl rfl (sp_both pr12 rfl w12 h12 (sp_both pr3W eL0 wR hRa ?_)))⟩))⟩)
  refine we_met (met_both m) hr (by decide) (we_met (met_both m) hr (by decide) (we_var 7 rfl rfl ⟨_, .inl rfl, rfl, wa1 (we_var 6 rfl rfl (sp_both pr32 rfl w32 h32 ⟨_, .inl rfl, rfl, wa1 (we_var 5 rfl rfl (sp_both prb eL1 wR hRb ?_))⟩))⟩))
  refine we_met (met_both m) hr (by decide) (we_met (met_both m) hr (by decide) (we_var 5 rfl rfl ⟨_, .inl rfl, rfl, wa1 (we_var 7 rfl rfl (sp_both pr13 rfl w13 h13 ⟨_, .inl rfl, rfl, wa1 (we_var 6 rfl rfl (sp_both prc eL2 wR hRc ⟨sz rfl, ?_⟩))⟩))⟩))
  -- each of them
  refine wss_cons (ws_if (wt_cmp (we_lcP (.nm 11) (List.replicate 4 (lenD K L R)) id (fun _ => false) id rfl nd (own := [("told", 11)]) (blkOk_by (by kernel_rfl)) (by decide) (fun s0 H0 C cl fp => pg_name nd rfl (Or.inl rfl)) (wi_list (we_var 10 rfl rfl ⟨_, rfl, fun hz => ⟨hz, li_self _, ?_, ?_⟩⟩)))))
  · intro c hc M' hs
    obtain rfl : c = lenD K L R := List.eq_of_mem_replicate hc
    refine ⟨_, rfl, fun s0 H0 C cl fp => wts_one (wt_w (ww_or (wt_not (wt_truth (we_cal (cal_tells m) hr (by decide) (wa2 (we_var 11 rfl rfl (we_var 9 rfl rfl ⟨_, _, rfl, tru_is rfl ⟨fun h => (by cases h), fun _ => ?_⟩⟩)))))))), fun h => by cases h⟩
    refine ww_or1 (wt_cmp (we_cmp (we_var 11 rfl rfl (we_ix (we_var 10 rfl rfl (we_int (ix_lst rfl ?_)))))))
    refine b_eqM (j := 6) (k := 1) (C := CL K) (sp := spEq (CL K)) ?_ ?_ ?_ (by decide) (.inl rfl) (.inl rfl) ⟨_, _, _, _, rfl, we_bl ?_⟩
    · exact met_eq m
    · exact hn
    · exact hr
    rw [decide_eq_true ⟨rfl, rfl⟩]
    exact b_notB ⟨_, rfl, rfl, rfl⟩
  rw [show (List.replicate 4 (lenD K L R)).filter (fun _ => false) = [] from List.filter_eq_nil_iff.mpr fun _ _ h => (by cases h)]
  refine we_lst (wa_nil ⟨sz rfl, b_neE (encL encI) (a := []) (b := []) hr ⟨_, rfl, fun h => (by cases h), fun _ => wss_nil ?_⟩⟩)
  -- among the whole, within
  refine wss_cut (fun ds1 M1 => ∃ d4, ds1 = [some (.raw (.ref p)), some (.lst [lensD p1 g1, lensD p2 g2, lensD p3 g3]), some (lensD p1 g1), some (lensD p2 g2), some (lensD p3 g3), some (lenD K p1 g1), some (lenD K p2 g2), some (lenD K p3 g3), some (lensD (lcmI p1 p2) R12), some (lensD L R), some (.lst [lenD K L R, lenD K L R, lenD K L R, lenD K L R]), none, none] ∧ M1 = updM M p d4 ∧ BagD d4)
    (ws_if (wt_w (ww_or (wt_not (wt_truth (we_cal (cal_among m) hr (by decide) (wa3 (we_var 0 rfl rfl (we_var 9 rfl rfl (we_ix (we_var 10 rfl rfl (we_int (ix_lst rfl ⟨p, d3, _, _, rfl, updM_same, hB3, wR, wR.perB, fun x hx => by have := BW.b x hx; omega, fun d4 hB4 => tru_is rfl ⟨fun h => (by cases h), fun _ => ?_⟩⟩))))))))))))) ?_
  · rw [updM_updM]
    refine ww_or1 (wt_cmp (we_lcP (.nm 12) [(p1, g1), (p2, g2), (p3, g3)] (fun z => lenD K z.1 z.2) (fun _ => false) (fun z => lenD K z.1 z.2) rfl nd (own := [("part", 12)]) (blkOk_by (by kernel_rfl)) (by decide) (fun s0 H0 C cl fp => pg_name nd rfl (Or.inl rfl)) (wi_list (we_lst (wa3 (we_var 5 rfl rfl (we_var 6 rfl rfl (we_var 7 rfl rfl ⟨sz rfl, _, rfl, fun hz => ⟨hz, li_map [(p1, g1), (p2, g2), (p3, g3)] (fun z => lenD K z.1 z.2), ?_, ?_⟩⟩))))))))
    · intro c hc M' hs
      have hc2 : 0 < c.1 ∧ withinL L R c.1 c.2 = true := by
        simp only [List.mem_cons, List.not_mem_nil, or_false] at hc
        rcases hc with rfl | rfl | rfl
        · exact ⟨q1, w1⟩
        · exact ⟨q2, w2⟩
        · exact ⟨q3, w3⟩
      refine ⟨_, rfl, fun s0 H0 C cl fp => wts_one (wt_cmp (we_met (met_within m) hr (by decide) (we_ix (we_var 10 rfl rfl (we_int (ix_lst rfl ⟨_, .inl rfl, rfl, wa1 (we_var 12 rfl rfl ⟨_, _, _, _, rfl, wR.pos, hc2.1, we_bl ?_⟩)⟩)))))), fun h => by cases h⟩
      rw [hc2.2]
      exact b_notB ⟨_, rfl, rfl, rfl⟩
    rw [show [(p1, g1), (p2, g2), (p3, g3)].filter (fun _ => false) = [] from List.filter_eq_nil_iff.mpr fun _ _ h => (by cases h)]
    refine we_lst (wa_nil ⟨sz rfl, b_neE (encL encI) (a := []) (b := []) hr ⟨_, rfl, fun h => (by cases h), fun _ => wss_nil ⟨d4, rfl, rfl, hB4⟩⟩⟩)
  rintro ds1 M1 ⟨d4, rfl, rfl, hB4⟩
  refine wss_one (ws_ret (we_andT (we_cal (cal_tells m) hr (by decide) (wa2 (we_var 5 rfl rfl (we_var 2 rfl rfl ⟨_, _, rfl, tru_is rfl ⟨fun _ => ?_, fun h => (by cases h)⟩⟩))))))
  refine we_andT (we_cal (cal_tells m) hr (by decide) (wa2 (we_var 6 rfl rfl (we_var 3 rfl rfl ⟨_, _, rfl, tru_is rfl ⟨fun _ => ?_, fun h => (by cases h)⟩⟩))))
  refine we_one (we_cmp (we_cmp (we_met (met_both m) hr (by decide) (we_var 5 rfl rfl ⟨_, .inl rfl, rfl, wa1 (we_var 5 rfl rfl (sp_both pr11 (lcm_self q1) b1.wf h11 (we_var 5 rfl rfl (b_eqM (met_eq m) hn hr (by decide) (.inl rfl) (.inl rfl) ⟨_, _, _, _, rfl, we_bl ?_⟩))))⟩))))
  rw [decide_eq_true ⟨rfl, rfl⟩]
  exact b_isB (hQ d4 hB4)
end
end K02

namespace K02
open DL
/-! the plain law: the least wrong gap -/
theorem okg_congr {per : Int} {b gaps : List Int} (h : ∀ x, x ∈ b ↔ x ∈ gaps) {g : Int} : OkG per b g ↔ OkG per gaps g := by
  unfold OkG
  exact ⟨fun ⟨a, c⟩ => ⟨a, fun d h1 h2 h3 => (h _).mp (c d h1 h2 h3)⟩, fun ⟨a, c⟩ => ⟨a, fun d h1 h2 h3 => (h _).mpr (c d h1 h2 h3)⟩⟩
noncomputable def badB (per : Int) (b : List Int) (y : Int) : Bool := @decide (¬ OkG per b y) (Classical.propDecidable _)
theorem bad_iff {per : Int} {b : List Int} {y : Int} : badB per b y = true ↔ ¬ OkG per b y := @decide_eq_true_iff (¬ OkG per b y) (Classical.propDecidable _)
theorem bad_niff {per : Int} {b : List Int} {y : Int} : badB per b y = false ↔ OkG per b y := by
  cases h : badB per b y with
  | true => exact ⟨fun q => (by cases q), fun q => absurd q (bad_iff.mp h)⟩
  | false => exact ⟨fun _ => Classical.byContradiction fun q => (by rw [bad_iff.mpr q] at h; cases h), fun _ => rfl⟩
theorem bad_nd {per : Int} {b : List Int} {y : Int} (h : y % per ≠ 0) : badB per b y = true := bad_iff.mpr fun q => h (Int.emod_eq_zero_of_dvd q.1)
def cnt (per y : Int) : Nat := if per < y then ((y - per - 1) / per + 1).toNat else 0
theorem cnt_iff {per y : Int} (hp : 0 < per) {l : Nat} : l < cnt per y ↔ per + (l : Int) * per < y := by
  unfold cnt
  split
  · rename_i h
    have h0 := Int.ediv_nonneg (show 0 ≤ y - per - 1 by omega) (show 0 ≤ per by omega)
    constructor
    · intro q
      have h1 : (l : Int) ≤ (y - per - 1) / per := by omega
      have h2 := Int.mul_le_of_le_ediv hp h1
      omega
    · intro q
      have h1 : (l : Int) ≤ (y - per - 1) / per := Int.le_ediv_of_mul_le hp (by omega)
      omega
  · rename_i h
    constructor
    · intro q; omega
    · intro q
      have := Int.mul_nonneg (show (0 : Int) ≤ l by omega) (show 0 ≤ per by omega)
      omega
theorem bad_in {per : Int} {b : List Int} {y : Int} (hp : 0 < per) (hy : y % per = 0) :
    badB per b y = !decide ((((List.range (cnt per y)).filter fun l : Nat => decide (y % (per + (l : Int) * per) = 0) && !decide (per + (l : Int) * per ∈ b)).map fun l : Nat => per + (l : Int) * per) = []) := by
  obtain ⟨z, rfl⟩ := Int.dvd_of_emod_eq_zero hy
  rw [Bool.eq_iff_iff, bad_iff, Bool.not_eq_true', decide_eq_false_iff_not, not_congr]
  rw [List.map_eq_nil_iff, List.filter_eq_nil_iff]
  have e : per * z / per = z := Int.mul_ediv_cancel_left _ (by omega)
  have el : ∀ l : Nat, per + (l : Int) * per = per * ((l : Int) + 1) := fun l => by rw [Int.mul_add, Int.mul_one, Int.mul_comm per, Int.add_comm]
  have ed : ∀ d : Int, (per * z) % (per * d) = 0 ↔ d ∣ z := fun d => ⟨fun h => (Int.mul_dvd_mul_iff_left (by omega)).mp (Int.dvd_of_emod_eq_zero h), fun h => Int.emod_eq_zero_of_dvd (Int.mul_dvd_mul_left _ h)⟩
  constructor
  · rintro ⟨_, h⟩ l hl q
    rw [List.mem_range, cnt_iff hp, el] at hl
    rw [Bool.and_eq_true, decide_eq_true_eq, el, ed, Bool.not_eq_true', decide_eq_false_iff_not] at q
    rw [e] at h
    exact q.2 (h ((l : Int) + 1) (by omega) q.1 (Int.lt_of_mul_lt_mul_left hl (by omega)))
  · intro h
    refine ⟨Int.dvd_mul_right .., fun d h0 h1 h2 => Classical.byContradiction fun q => ?_⟩
    rw [e] at h1 h2
    have hd : ((d - 1).toNat : Int) + 1 = d := by omega
    refine h (d - 1).toNat ?_ ?_
    · rw [List.mem_range, cnt_iff hp, el, hd]
      exact Int.mul_lt_mul_of_pos_left h2 hp
    · rw [Bool.and_eq_true, decide_eq_true_eq, el, hd, ed, Bool.not_eq_true', decide_eq_false_iff_not]
      exact ⟨h1, q⟩
theorem head_bad {p : Int → Bool} {sb gaps a b : List Int} {g : Int} (srt : sb.Pairwise (· ≤ ·)) (hm : ∀ x, x ∈ sb ↔ x ∈ gaps) (hs : gaps.Pairwise (· < ·)) (e : gaps = a ++ g :: b) (ha : ∀ x ∈ a, p x = false) (hg : p g = true) : ∃ r, sb.filter p = g :: r := by
  have gin : g ∈ sb.filter p := List.mem_filter.mpr ⟨(hm g).mpr (by rw [e]; simp), hg⟩
  cases h : sb.filter p with
  | nil => rw [h] at gin; cases gin
  | cons y r =>
    have hy : y ∈ sb.filter p := by rw [h]; exact List.mem_cons_self
    obtain ⟨h1, h2⟩ := List.mem_filter.mp hy
    rw [hm, e] at h1
    have hyg : y ≤ g := by
      have q := srt.filter p
      rw [h] at q gin
      rcases List.mem_cons.mp gin with z | z
      · omega
      · exact (List.pairwise_cons.mp q).1 g z
    have hgy : g ≤ y := by
      rcases List.mem_append.mp h1 with z | z
      · rw [ha y z] at h2; cases h2
      · rcases List.mem_cons.mp z with z | z
        · omega
        · rw [e] at hs
          have := (List.pairwise_cons.mp (List.pairwise_append.mp hs).2.1).1 y z
          omega
    exact ⟨r, by rw [show y = g by omega]⟩
theorem no_bad {p : Int → Bool} {sb gaps : List Int} (hm : ∀ x, x ∈ sb ↔ x ∈ gaps) (h : ∀ x ∈ gaps, p x = false) : sb.filter p = [] :=
  List.filter_eq_nil_iff.mpr fun x hx => by rw [h x ((hm x).mp hx)]; exact Bool.false_ne_true
theorem dedup_ex {b : List Int} (hb : ∀ x ∈ b, 0 < x ∧ x ≤ 100000) : ∃ gaps : List Int, gaps.Pairwise (· < ·) ∧ (∀ x, x ∈ b ↔ x ∈ gaps) ∧ gaps.length ≤ b.length := by
  have srt : (((List.range 100001).map fun i : Nat => (i : Int)).filter (fun x => decide (x ∈ b))).Pairwise (· < ·) := by
    refine List.Pairwise.filter _ ?_
    rw [List.pairwise_map]
    exact List.pairwise_lt_range.imp fun {a b} h => by omega
  have hm : ∀ x, x ∈ b ↔ x ∈ ((List.range 100001).map fun i : Nat => (i : Int)).filter (fun x => decide (x ∈ b)) := fun x => by
    rw [List.mem_filter, decide_eq_true_eq]
    exact ⟨fun h => ⟨List.mem_map.mpr ⟨x.toNat, List.mem_range.mpr (by have := hb x h; omega), by have := hb x h; omega⟩, h⟩, fun h => h.2⟩
  exact ⟨_, srt, hm, nodup_len (srt.imp fun {a b} q => by omega) fun k hk => (hm k).mpr hk⟩
end K02

namespace K02
open PySem PySem.Spec L2 DL

local macro_rules | `(tactic| walk_at "dl") => `(tactic| first
  | ((with_reducible show WE _ _ (.Constant _ _ _) _ _ _); first | refine we_int ?_ | refine we_str ?_ | refine we_bl ?_ | refine we_non ?_)
  | ((with_reducible show WE _ _ (.Name _ _) _ _ _); first | refine we_var 0 rfl rfl ?_ | refine we_var 1 rfl rfl ?_ | refine we_var 2 rfl rfl ?_ | refine we_var 3 rfl rfl ?_ | refine we_var 4 rfl rfl ?_ | refine we_var 5 rfl rfl ?_ | refine we_var 6 rfl rfl ?_ | refine we_var 7 rfl rfl ?_ | refine we_var 8 rfl rfl ?_ | refine we_var 9 rfl rfl ?_ | refine we_var 10 rfl rfl ?_ | refine we_var 11 rfl rfl ?_ | refine we_var 12 rfl rfl ?_ | refine we_var 13 rfl rfl ?_ | refine we_var 14 rfl rfl ?_ | refine we_var 15 rfl rfl ?_)
  | ((with_reducible show WE _ _ (.BinOp _ _ _ _) _ _ _); refine we_bin ?_)
  | ((with_reducible show WE _ _ (.Compare _ [_] [_] _) _ _ _); refine we_cmp ?_)
  | ((with_reducible show WT _ _ (.Compare _ [_] [_] _) _ _ _); refine wt_cmp ?_)
  | ((with_reducible show WE _ _ (.UnaryOp .USub _ _) _ _ _); refine we_un ?_)
  | ((with_reducible show WT _ _ (.UnaryOp .Not _ _) _ _ _); refine wt_not ?_)
  | ((with_reducible show WE _ _ (.IfExp _ _ _ _) _ _ _); refine we_ifx ?_)
  | ((with_reducible show WE _ _ (.Subscript _ (.Name _ _) _) _ _ _); refine we_ix ?_)
  | ((with_reducible show WE _ _ (.Subscript _ (.Constant _ _ _) _) _ _ _); refine we_ix ?_)
  | ((with_reducible show WE _ _ (.Subscript _ (.Subscript _ _ _) _) _ _ _); refine we_ix ?_)
  | ((with_reducible show WE _ _ (.Subscript _ (.BinOp _ _ _ _) _) _ _ _); refine we_ix ?_)
  | ((with_reducible show WE _ _ (.Subscript _ (.UnaryOp _ _ _) _) _ _ _); refine we_ix ?_)
  | ((with_reducible show WE _ _ (.Subscript _ (.Call _ _ _ _) _) _ _ _); refine we_ix ?_)
  | ((with_reducible show WE _ _ (.Call (.Name "len" _) [_] [] _) _ _ _); refine we_b1 (by assumption) bb_len ?_)
  | ((with_reducible show WE _ _ (.Call (.Name "abs" _) [_] [] _) _ _ _); refine we_b1 (by assumption) bb_abs ?_)
  | ((with_reducible show WE _ _ (.Call (.Name "int" _) [_] [] _) _ _ _); refine we_t1 (by assumption) bb_int ?_)
  | ((with_reducible show WE _ _ (.Call (.Name "list" _) [_] [] _) _ _ _); refine we_t1 (by assumption) bb_list ?_)
  | ((with_reducible show WE _ _ (.Call (.Name "tuple" _) [_] [] _) _ _ _); refine we_t1 (by assumption) bb_tuple ?_)
  | ((with_reducible show WE _ _ (.Call (.Name "str" _) [_] [] _) _ _ _); refine we_t1 (by assumption) bb_str ?_)
  | ((with_reducible show WE _ _ (.Call (.Name "set" _) [_] [] _) _ _ _); refine we_t1 (by assumption) bb_set ?_)
  | ((with_reducible show WE _ _ (.Call (.Name "sorted" _) [_] [] _) _ _ _); refine we_b1 (by assumption) bb_sorted ?_)
  | ((with_reducible show WE _ _ (.Call (.Name "isinstance" _) [_, _] [] _) _ _ _); refine we_b2 (by assumption) bb_isinstance ?_)
  | ((with_reducible show WE _ _ (.Call (.Name "max" _) [_] [] _) _ _ _); refine we_b1 (by assumption) bb_max ?_)
  | ((with_reducible show WE _ _ (.Call (.Name "min" _) [_] [] _) _ _ _); refine we_b1 (by assumption) bb_min ?_)
  | ((with_reducible show WE _ _ (.Call (.Name "max" _) [_, _] [] _) _ _ _); refine we_b2 (by assumption) bb_max ?_)
  | ((with_reducible show WE _ _ (.Call (.Name "min" _) [_, _] [] _) _ _ _); refine we_b2 (by assumption) bb_min ?_)
  | ((with_reducible show BinG _ _ (binaryOp .Add) (.int _) (.int _) _ _); refine b_add ?_)
  | ((with_reducible show BinG _ _ (binaryOp .Sub) (.int _) (.int _) _ _); refine b_sub ?_)
  | ((with_reducible show BinG _ _ (binaryOp .Mod) (.int _) (.int _) _ _); refine b_mod (by omega) ?_)
  | ((with_reducible show BinG _ _ (binaryOp .FloorDiv) (.int _) (.int _) _ _); refine b_div ⟨by omega, by omega⟩ ?_)
  | ((with_reducible show BinG _ _ (binaryOp .Mult) (.int _) (.int _) _ _); first | refine b_mul (.inr ⟨by omega, by omega⟩) ?_ | refine b_mul (.inl ⟨by omega, by omega⟩) ?_)
  | ((with_reducible show BinG _ _ (compareOp .Lt) (.int _) (.int _) _ _); refine b_lt ?_)
  | ((with_reducible show BinG _ _ (compareOp .LtE) (.int _) (.int _) _ _); refine b_le ?_)
  | ((with_reducible show BinG _ _ (compareOp .Gt) (.int _) (.int _) _ _); refine b_gt ?_)
  | ((with_reducible show BinG _ _ (compareOp .GtE) (.int _) (.int _) _ _); refine b_ge ?_)
  | ((with_reducible show BinG _ _ (compareOp .Eq) (.int _) (.int _) _ _); refine b_eqI (by assumption) ?_)
  | ((with_reducible show BinG _ _ (compareOp .NotEq) (.int _) (.int _) _ _); refine b_neI (by assumption) ?_)
  | ((with_reducible show UnG _ _ (unaryOp .USub) (.int _) _ _); refine b_neg ?_)
  | (with_reducible refine ex_bl ?_)
  | ((with_reducible show CallG _ _ (.type "int") [.int _] _ _); refine c_int ?_)
  | ((with_reducible show CallG _ _ (.type "int") [.bl _] _ _); refine c_intB ?_)
  | ((with_reducible show CallG _ _ (.builtin "abs") _ _ _); refine c_abs ?_)
  | ((with_reducible show CallG _ _ (.builtin "len") [.lst _] _ _); refine c_len ?_)
  | ((with_reducible show CallG _ _ (.builtin "len") [.tup _] _ _); refine c_lenT ?_)
  | ((with_reducible show CallG _ _ (.builtin "len") [.raw _] _ _); refine c_lenM (by first | assumption | exact updM_same) ?_)
  | ((with_reducible show CallG _ _ (.type "list") [.tup _] _ _); refine c_listT ?_)
  | ((with_reducible show CallG _ _ (.type "tuple") [.lst _] _ _); refine c_tuple ?_)
  | ((with_reducible show CallG _ _ (.type "tuple") [.tup _] _ _); refine c_tupleT ?_)
  | ((with_reducible show CallG _ _ (.builtin "max") [.int _, .int _] _ _); refine c_max2 rfl ?_)
  | ((with_reducible show CallG _ _ (.builtin "min") [.int _, .int _] _ _); refine c_min2 rfl ?_)
  | ((with_reducible show IxG _ _ (.tup _) _ _ _); refine ix_tupD rfl ?_)
  | ((with_reducible show IxG _ _ (.raw _) _ _ _); refine ix_mlst (by first | assumption | exact updM_same) rfl ?_)
  | ((with_reducible show WA _ _ (_ :: _) _ _ _); refine wa_cons ?_)
  | ((with_reducible show WA _ _ [] _ _ _); refine wa_nil ?_))
section
variable {P : Program} {w : World} {K : PySem.W.Frag} {mg : Str → Option Value} {base : Heap}
/-- a list as the law bends it -/
structure Bt (b : List Int) : Prop where
  len : b.length ≤ 200
  mul : ∀ x ∈ b, 0 < x ∧ x ≤ 100000
def spLWrong : SpD := fun xs M Q => ∃ p d per gaps, xs = [.raw (.ref p), lensD per gaps] ∧ M p = some d ∧ BagD d ∧ 1 ≤ per ∧ per ≤ 12 ∧ Cl per 100 gaps ∧ ∀ d', BagD d' → Q (.bl true) (updM M p d')
theorem sc_lwrong : FnScope ["bag", "lens", "per", "held", "made", "menu", "gap", "bent", "told", "wrong", "d", "found", "e"] ["bag", "lens"] d__law_wrong.scope := ⟨rfl, rfl, rfl, by decide +kernel, rfl, by decide +kernel, by decide +kernel⟩
theorem cal_lwrong (m : Md K mg base) : CalD P w K mg base 6 "_law_wrong" spLWrong [] := by
  refine cal_of (d := d__law_wrong) rfl (fd__law_wrong m.c) (He.glo_ok m.i m.n (glo__law_wrong m.c)) sc_lwrong (fun xs M Q ⟨a, b, c, d, e, _⟩ => by rw [e]; rfl) (fun _ _ _ _ _ _ us hl => match us, hl with | [_, _], _ => rfl) ?_
  rintro cdv A outer s H E hr xs M Q ⟨p, d, per, gaps0, rfl, hM, hB, hp1, hp2, cl0, hQ⟩
  have nd := sc_lwrong.nd
  have fint : mg "int" = none := He.free_ok m.i m.n (free_int m.c)
  have flist : mg "list" = none := He.free_ok m.i m.n (free_list m.c)
  have fset : mg "set" = none := He.free_ok m.i m.n (free_set m.c)
  have fsorted : mg "sorted" = none := He.free_ok m.i m.n (free_sorted m.c)
  have frange : mg "range" = none := He.free_ok m.i m.n (free_range m.c)
  have hsz : sizeLine = 16777216 := sizeLine_eq
  have wf := wf_cl cl0 hp1 (by omega) (by omega)
  have hgl : gaps0.length ≤ 100 := by
    obtain ⟨ds, rfl, srt, hd, _⟩ := cl0
    have := nodup_len (l := ds) (srt.imp fun {a b} q => by omega) (m := (List.range 100).map fun i : Nat => (i : Int) + 1) fun k hk => by
      have := hd k hk
      exact List.mem_map.mpr ⟨(k - 1).toNat, List.mem_range.mpr (by omega), by omega⟩
    simpa using this
  have hgb : ∀ x ∈ gaps0, 0 < x ∧ x ≤ 1200 := by
    obtain ⟨ds, rfl, _, hd, _⟩ := cl0
    intro x hx
    obtain ⟨y, hy, rfl⟩ := List.mem_map.mp hx
    have h1 := hd y hy
    have h2 : 0 < per * y := Int.mul_pos (by omega) (by omega)
    have h3 : per * y ≤ 12 * 100 := Int.mul_le_mul hp2 h1.2 (by omega) (by omega)
    omega
  refine wss_cons (ws_asg (.tp [2, 3, 4]) (pg_tup rfl (pgs_cons (pg_name nd rfl (Or.inr rfl) (.inl rfl)) (pgs_cons (pg_name nd rfl (Or.inl rfl)) (pgs_cons (pg_name nd rfl (Or.inl rfl)) pgs_nil)))) (we_tup (wa3 (we_ix (we_var 1 rfl rfl (we_int (ix_tupD rfl (we_ix (we_var 1 rfl rfl (we_int (ix_tupD rfl (we_non ⟨sz rfl, _, rfl, ?_⟩))))))))))))
  -- the menu
  refine wss_cut (fun ds1 M1 => ∃ (q : Addr) (d2 : D) (bs : List (List Int)), q ≠ p ∧ M q = none ∧ BagD d2 ∧ ds1 = [some (.raw (.ref p)), some (lensD per gaps0), some (.int per), some (.lst (gaps0.map D.int)), some .non, some (.raw (.ref q)), none, none, none, none, none, none, none] ∧ M1 = updM (updM M p d2) q (.lst (bs.map fun b => .lst (b.map D.int))) ∧ bs.length ≤ 3 ∧ ∀ b ∈ bs, Bt b) (ws_set 5 nd rfl (we_lstM (wa3 (we_lst ?_)))) ?_
  · repeat walk_at "dl"
    refine ⟨sz rfl, we_bin ?_⟩
    refine we_lcP (.nm 6) gaps0 D.int (fun g => !decide (g = per)) D.int rfl nd (own := [("gap", 6)]) (blkOk_by (by kernel_rfl)) (by decide) (fun s0 H0 C cl fp => pg_name nd rfl (Or.inl rfl)) (wi_list (we_var 3 rfl rfl ⟨_, rfl, fun hz => ⟨hz, li_map gaps0 D.int, ?_, ?_⟩⟩))
    · intro c hc M' hs
      exact ⟨_, rfl, fun s0 H0 C cl fp => wts_one (wt_cmp (we_var 6 rfl rfl (we_var 2 rfl rfl (b_neI hr ⟨_, rfl, rfl, rfl⟩)))), fun _ s0 H0 C cl fp => we_var 6 rfl rfl ⟨rfl, rfl⟩⟩
    refine we_lst (wa1 (we_bin (we_var 2 rfl rfl (we_bin (we_int (we_cal (cal_take m) hr (by decide) (wa2 (we_var 0 rfl rfl (we_int ⟨p, d, 50, rfl, hM, hB, by decide, by decide, fun z d1 h1 h2 hB1 => b_add (b_mul (.inl ⟨by omega, by omega⟩) ⟨sz rfl, ?_⟩)⟩)))))))))
    have hz1 : 0 < per * (101 + z) := Int.mul_pos (by omega) (by omega)
    have hz2 : per * (101 + z) ≤ 12 * 151 := Int.mul_le_mul hp2 (by omega) (by omega) (by omega)
    have hfl : (gaps0.filter fun g => !decide (g = per)).length ≤ gaps0.length := List.length_filter_le _ _
    refine b_addLI (gaps0.filter fun g => !decide (g = per)) [per * (101 + z)] (by simp; omega) ?_
    refine we_bin (we_var 3 rfl rfl (we_lst ?_))
    repeat walk_at "dl"
    refine ⟨sz rfl, b_addLI gaps0 [per * 40 + 1, per * 30 + 1] (by simp; omega) ⟨sz rfl, fun q hq => ?_⟩⟩
    have hqp : q ≠ p := fun e => by rw [e, updM_same] at hq; cases hq
    have hq1 : M q = none := by rw [updM_ne hqp] at hq; exact hq
    refine ⟨q, d1, [[2 * per, 3 * per], (gaps0.filter fun g => !decide (g = per)) ++ [per * (101 + z)], gaps0 ++ [per * 40 + 1, per * 30 + 1]], hqp, hq1, hB1, rfl, rfl, by simp, fun b hb => ?_⟩
    simp only [List.mem_cons, List.not_mem_nil, or_false] at hb
    rcases hb with rfl | rfl | rfl
    · refine ⟨by simp, fun x hx => ?_⟩
      simp at hx
      omega
    · refine ⟨by simp; omega, fun x hx => ?_⟩
      rcases List.mem_append.mp hx with h | h
      · have := hgb x (List.mem_filter.mp h).1; omega
      · simp at h; omega
    · refine ⟨by simp; omega, fun x hx => ?_⟩
      rcases List.mem_append.mp hx with h | h
      · have := hgb x h; omega
      · simp at h; omega
  rintro ds1 M1 ⟨q, d2, bs, hqp, hq1, hB2, rfl, rfl, hbl, hbt⟩
  -- menu.append
  refine wss_cons (ws_expr (we_append (we_var 5 rfl rfl ⟨q, _, rfl, updM_same, ?_⟩)))
  refine we_lcP (.nm 6) (gaps0 ++ [per * 60]) D.int (fun g => !decide (g = 2 * per)) D.int rfl nd (own := [("gap", 6)]) (blkOk_by (by kernel_rfl)) (by decide) (fun s0 H0 C cl fp => pg_name nd rfl (Or.inl rfl)) (wi_list (we_bin (we_var 3 rfl rfl (we_lst ?_))))
  repeat walk_at "dl"
  refine ⟨sz rfl, b_addLI gaps0 [per * 60] (by simp; omega) ⟨_, rfl, fun hz => ⟨hz, li_map _ D.int, ?_, ?_⟩⟩⟩
  · intro c hc M' hs
    exact ⟨_, rfl, fun s0 H0 C cl fp => wts_one (wt_cmp (we_var 6 rfl rfl (we_bin (we_int (we_var 2 rfl rfl (b_mul (.inl ⟨by omega, by omega⟩) (b_neI hr ⟨_, rfl, rfl, rfl⟩))))))), fun _ s0 H0 C cl fp => we_var 6 rfl rfl ⟨rfl, rfl⟩⟩
  have hfl2 : ((gaps0 ++ [per * 60]).filter fun g => !decide (g = 2 * per)).length ≤ (gaps0 ++ [per * 60]).length := List.length_filter_le _ _
  have hbt4 : Bt ((gaps0 ++ [per * 60]).filter fun g => !decide (g = 2 * per)) := by
    refine ⟨by simp at hfl2 ⊢; omega, fun x hx => ?_⟩
    rcases List.mem_append.mp (List.mem_filter.mp hx).1 with h | h
    · have := hgb x h; omega
    · simp at h; omega
  generalize (gaps0 ++ [per * 60]).filter (fun g => !decide (g = 2 * per)) = b4 at hbt4
  refine ⟨_, updM_same, by rw [List.length_map]; omega, ?_⟩
  rw [updM_updM, show (bs.map fun b : List Int => D.lst (b.map D.int)) ++ [D.lst (b4.map D.int)] = (bs ++ [b4]).map (fun b : List Int => D.lst (b.map D.int)) by simp]
  have hbt' : ∀ b ∈ bs ++ [b4], Bt b := fun b hb => by
    rcases List.mem_append.mp hb with h | h
    · exact hbt b h
    · simp at h; rw [h]; exact hbt4
  generalize bs ++ [b4] = ys at hbt'
  refine wss_freeze 5 rfl updM_same ?_
  rw [delM_updM' (by rw [updM_ne hqp]; exact hq1)]
  -- the loop
  refine wss_cons (ws_forL (.nm 7) ys (fun b => .lst (b.map D.int)) (fun rem ds1 M1 => ∃ o4 o7 o8 o9 o11 d3, ds1 = [some (.raw (.ref p)), some (lensD per gaps0), some (.int per), some (.lst (gaps0.map D.int)), some o4, some (.lst (ys.map fun b => .lst (b.map D.int))), none, o7, o8, o9, none, o11, none] ∧ M1 = updM M p d3 ∧ BagD d3 ∧ ∀ b ∈ rem, Bt b) PassesOwn.never rfl (pg_name nd rfl (Or.inr rfl) (.inl rfl)) ?_ ?_ ?_)
  · exact wi_list (we_var 5 rfl rfl ⟨_, rfl, fun hz => ⟨li_map ys (fun b => .lst (b.map D.int)), _, none, none, none, none, d2, rfl, rfl, hB2, hbt'⟩⟩)
  · rintro ds1 M1 ⟨o4, o7, o8, o9, o11, d3, rfl, rfl, hB3, _⟩
    exact wss_one (ws_ret (we_bl (hQ d3 hB3)))
  rintro b rem ds1 M1 ⟨o4, o7, o8, o9, o11, d3, rfl, rfl, hB3, hrem⟩
  refine ⟨_, rfl, ?_⟩
  have bt := hrem b List.mem_cons_self
  have hrem' : ∀ b ∈ rem, Bt b := fun c hc => hrem c (List.mem_cons_of_mem _ hc)
  have btl := bt.len
  obtain ⟨gs, gsrt, gmem, glen⟩ := dedup_ex bt.mul
  have wg : Wg per gs := ⟨by omega, by omega, gsrt, by omega, fun g hg => by have := bt.mul g ((gmem g).mpr hg); omega⟩
  generalize hmenu : (D.lst (ys.map fun b : List Int => D.lst (b.map D.int))) = menuD
  -- told
  refine wss_cut (fun ds1 M1 => ∃ (ts : List Int) (d4 : D), ds1 = [some (.raw (.ref p)), some (lensD per gaps0), some (.int per), some (.lst (gaps0.map D.int)), some o4, some menuD, none, some (.lst (b.map D.int)), some (.lst (ts.map D.int)), o9, none, o11, none] ∧ M1 = updM M p d4 ∧ BagD d4 ∧ (∀ x, x ∈ ts ↔ x ∈ gs) ∧ ts.length ≤ 4000)
    (ws_set 8 nd rfl (we_cal (cal_mixed m) hr (by decide) (wa2 (we_var 0 rfl rfl (we_bin (we_var 7 rfl rfl (we_slice (we_var 7 rfl rfl (wo_none (wo_some (we_int ⟨1, rfl, _, .lst _ _ _, ?_⟩))))))))))) ?_
  · obtain ⟨ms, e, hms⟩ := cut_ints (ns := b) (lo := none) (hi := some 1)
    have hml : ms.length ≤ b.length := by
      have : (ms.map D.int).length ≤ (b.map D.int).length := by
        rw [← e]; unfold DL.cutD; rw [List.length_take, List.length_drop]; omega
      simpa using this
    rw [e]
    refine b_addLI b ms (by omega) ⟨p, d3, _, rfl, updM_same, hB3, by rw [List.length_map, List.length_append]; omega, fun zs d4 hp hB4 => ?_⟩
    rw [updM_updM]
    obtain ⟨ts, rfl, hts⟩ := perm_ints hp
    refine ⟨ts, d4, rfl, rfl, hB4, fun x => ?_, ?_⟩
    · rw [hts.mem_iff, List.mem_append, ← gmem]
      exact ⟨fun h => h.elim id (hms x), .inl⟩
    · rw [hts.length_eq, List.length_append]; omega
  rintro ds1 M1 ⟨ts, d4, rfl, rfl, hB4, tmem, tlen⟩
  -- wrong
  refine wss_cut (fun ds1 M1 => ∃ sb : List Int, ds1 = [some (.raw (.ref p)), some (lensD per gaps0), some (.int per), some (.lst (gaps0.map D.int)), some o4, some menuD, none, some (.lst (b.map D.int)), some (.lst (ts.map D.int)), some (.lst ((sb.filter (badB per b)).map D.int)), none, o11, none] ∧ M1 = updM M p d4 ∧ sb.Pairwise (· ≤ ·) ∧ ∀ x, x ∈ sb ↔ x ∈ gs)
    (ws_lcG 9 (.nm 6) rfl nd rfl (own := [("gap", 6)]) (blkOk_by (by kernel_rfl)) (by decide) (fun s0 H0 C cl fp => pg_name nd rfl (Or.inr rfl) (.inl rfl)) (R := fun n item M1 => ∃ sb : List Int, M1 = updM M p d4 ∧ n ≤ sizeLine ∧ LI sb D.int n item ∧ sb.Perm b ∧ sb.Pairwise (· ≤ ·)) ?_ ?_) ?_
  · exact wi_list (we_b1 fsorted bb_sorted (we_var 7 rfl rfl (c_sortedI fun sb hp hs => ⟨_, rfl, fun hz => ⟨sb, rfl, hz, li_map sb D.int, hp, hs⟩⟩)))
  · rintro n item M1 ⟨sb, rfl, hz, li, hp, hs⟩
    refine ⟨hz, _, ⟨rfl, rfl⟩, fun acc M2 ⟨e1, e2⟩ => ?_, lct_pure (p := badB per b) (f := D.int) li ?_⟩
    rotate_left
    · subst e1
      rw [e2, li.1, List.take_length]
      exact ⟨sb, rfl, rfl, hs, fun x => by rw [hp.mem_iff, gmem]⟩
    · intro y hy M' hsub
      have hyb := bt.mul y (hp.mem_iff.mp hy)
      refine ⟨_, rfl, fun s0 H0 C cl fp => wts_one <| wt_w <| ww_or <| wt_cmp <| we_bin <| we_t1 fint bb_int <| we_var 6 rfl rfl <| c_int <| we_var 2 rfl rfl <| b_mod (by omega) <| we_int <| b_neI hr ⟨_, rfl, fun h => ⟨?_, rfl⟩, fun h => ?_⟩, fun _ s0 H0 C cl fp => we_var 6 rfl rfl ⟨rfl, rfl⟩⟩
      · exact (bad_nd (by simpa using h)).symm
      · have hy0 : y % per = 0 := by simpa using h
        have hcn : cnt per y ≤ 100001 := by
          unfold cnt
          split
          · have := Int.ediv_le_self per (show 0 ≤ y - per - 1 by omega)
            omega
          · omega
        refine ww_or1 (wt_cmp (we_lcP (.nm 10) (List.range (cnt per y)) (fun l : Nat => .int (per + (l : Int) * per)) (fun l => decide (y % (per + (l : Int) * per) = 0) && !decide (per + (l : Int) * per ∈ b)) (fun l : Nat => .int (per + (l : Int) * per)) rfl nd (own := [("d", 10)]) (blkOk_by (by kernel_rfl)) (by decide) (fun s1 H1 C1 cl1 fp1 => pg_name nd rfl (Or.inl rfl)) (wi_range3 frange (wa3 ?_))))
        repeat walk_at "dl"
        refine ⟨_, _, _, cnt per y, rfl, rgc_pos (by omega) (by omega) (by omega) (by omega) (by omega) (by omega), by omega, li_range _ _, ?_, ?_⟩
        · intro l hl M2 hs2
          have hpos := Int.mul_nonneg (show (0 : Int) ≤ l by omega) (show 0 ≤ per by omega)
          refine ⟨_, rfl, fun s1 H1 C1 cl1 fp1 => wts_one <| wt_w <| ww_and <| wt_cmp <| we_bin <| we_t1 fint bb_int <| we_var 6 rfl rfl <| c_int <| we_var 10 rfl rfl <| b_mod (by omega) <| we_int <| b_eqI hr ⟨_, rfl, fun h1 => ww_and1 <| wt_cmp <| we_var 10 rfl rfl <| we_var 7 rfl rfl <| b_notin ⟨_, rfl, ?_, rfl⟩, fun h1 => ⟨?_, rfl⟩⟩, fun _ s1 H1 C1 cl1 fp1 => we_var 10 rfl rfl ⟨rfl, rfl⟩⟩
          · dsimp only; rw [h1, Bool.true_and]
          · dsimp only; rw [h1, Bool.false_and]
        · have e3 : ((List.range (cnt per y)).filter (fun l : Nat => decide (y % (per + (l : Int) * per) = 0) && !decide (per + (l : Int) * per ∈ b))).map (fun l : Nat => D.int (per + (l : Int) * per)) = (((List.range (cnt per y)).filter (fun l : Nat => decide (y % (per + (l : Int) * per) = 0) && !decide (per + (l : Int) * per ∈ b))).map (fun l : Nat => per + (l : Int) * per)).map D.int := by rw [List.map_map]; rfl
          rw [e3]
          exact we_lst (wa_nil ⟨sz rfl, b_neE (encL encI) (b := []) hr ⟨_, rfl, (bad_in (by omega) hy0).symm, rfl⟩⟩)
  rintro ds1 M1 ⟨sb, rfl, rfl, ssrt, smem⟩
  refine wss_cons (ws_set 11 nd rfl (we_non ?_))
  -- try
  refine wss_cut (fun ds1 M1 => M1 = updM M p d4 ∧ ∃ (mo fo : D), ds1 = [some (.raw (.ref p)), some (lensD per gaps0), some (.int per), some (.lst (gaps0.map D.int)), some mo, some menuD, none, some (.lst (b.map D.int)), some (.lst (ts.map D.int)), some (.lst ((sb.filter (badB per b)).map D.int)), none, some fo, none] ∧ ((mo = lenD K per gs ∧ fo = .non ∧ ∀ g ∈ gs, OkG per gs g) ∨ ∃ a g c, fo = .int g ∧ gs = a ++ g :: c ∧ (∀ x ∈ a, OkG per gs x) ∧ ¬ OkG per gs g))
    (ws_tryAs (i := 12) (ED := fun _ _ _ _ => False) (hN := nd) takes_no rfl ⟨rfl, by decide, .inl (He.glo_ok m.i m.n (glo_BadLengths m.c))⟩ ?_) ?_
  · intro pn xe Pm' tk pw
    refine wss_one (ws_set 4 nd rfl (we_makX (mak_len m) tk hr (by decide) (wa2 (we_var 2 rfl rfl (we_t1 flist bb_list (we_var 8 rfl rfl (c_list fun q hq => ?_)))))))
    refine ⟨q, per, _, ts, gs, rfl, .inl rfl, updM_same, wg, tmem, tlen, fun hall => made hq ⟨rfl, _, _, rfl, .inl ⟨rfl, rfl, hall⟩⟩, fun a g c e1 h1 h2 => ⟨true, He.exm_ok (exm_BadLengths_BadLengths m.c), fun _ a' oe dd pn' hz hv => ?_, fun h => by cases h⟩⟩
    rw [delM_updM' hq]
    refine wss_one (ws_set 11 nd rfl (we_xf (xfB_ok (ex_xf_BadLengths m.e)) (He.eqO_ok (noat_BadLengths_gap m.c)) hz hv (we_var 12 rfl rfl ⟨rfl, .int g, rfl, ?_⟩)))
    exact ⟨rfl, _, _, rfl, .inr ⟨a, g, c, rfl, e1, h1, h2⟩⟩
  rintro ds1 M1 ⟨rfl, mo, fo, rfl, hcase⟩
  subst hmenu
  rcases hcase with ⟨rfl, rfl, hall⟩ | ⟨a, g, c, rfl, e1, h1, h2⟩
  · have hw : sb.filter (badB per b) = [] := no_bad smem fun x hx => bad_niff.mpr ((okg_congr gmem).mpr (hall x hx))
    rw [hw]
    refine wss_cons (ws_if (wt_w (ww_and (wt_cmp (we_var 9 rfl rfl (we_lst (wa_nil ⟨sz rfl, b_eqE (encL encI) (a := []) (b := []) hr ⟨_, rfl, fun _ => ?_, fun h => (by cases h)⟩⟩)))))))
    refine ww_and1 (wt_w (ww_or (wt_cmp (we_var 11 rfl rfl (we_non (b_notN (fun G v h => nonN h) ⟨_, rfl, fun h => (by cases h), fun _ => ?_⟩))))))
    refine ww_or1 (wt_not (wt_truth (we_cal (cal_tells m) hr (by decide) (wa2 (we_var 4 rfl rfl (we_tup (wa2 (we_var 2 rfl rfl (we_b1 fsorted bb_sorted (we_t1 fset bb_set (we_var 7 rfl rfl (c_set rfl (by omega) (c_sortedSetA rfl fun ns' h3 h4 => ?_)))))))))))))
    obtain rfl : ns' = gs := sorted_ext h3 gsrt fun x => by rw [h4, gmem]
    refine ⟨sz rfl, per, ns', rfl, tru_is rfl ⟨fun h => (by cases h), fun _ => wss_nil ?_⟩⟩
    refine wss_one (ws_if (wt_w (ww_and (wt_cmp (we_var 9 rfl rfl (we_lst (wa_nil ⟨sz rfl, b_neE (encL encI) (a := []) (b := []) hr ⟨_, rfl, fun h => (by cases h), fun _ => ⟨fun h => (by cases h), fun _ => wss_nil ?_⟩⟩⟩)))))))
    exact ⟨_, _, _, _, _, d4, rfl, rfl, hB4, hrem'⟩
  · obtain ⟨r, hw⟩ := head_bad ssrt smem gsrt e1 (p := badB per b) (fun x hx => bad_niff.mpr ((okg_congr gmem).mpr (h1 x hx))) (bad_iff.mpr fun q => h2 ((okg_congr gmem).mp q))
    rw [hw]
    refine wss_cons (ws_if (wt_w (ww_and (wt_cmp (we_var 9 rfl rfl (we_lst (wa_nil ⟨sz rfl, b_eqE (encL encI) (a := g :: r) (b := []) hr ⟨_, rfl, fun h => (by simp at h), fun _ => ⟨fun h => (by cases h), fun _ => wss_nil ?_⟩⟩⟩)))))))
    refine wss_one (ws_if (wt_w (ww_and (wt_cmp (we_var 9 rfl rfl (we_lst (wa_nil ⟨sz rfl, b_neE (encL encI) (a := g :: r) (b := []) hr ⟨_, rfl, fun _ => ?_, fun h => (by simp at h)⟩⟩)))))))
    refine ww_and1 (wt_w (ww_or (wt_not (wt_truth (we_cal (cal_int m) hr (by decide) (wa1 (we_var 11 rfl rfl ⟨g, rfl, tru_is rfl ⟨fun h => (by cases h), fun _ => ?_⟩⟩)))))))
    refine ww_or1 (wt_cmp (we_var 11 rfl rfl (we_ix (we_var 9 rfl rfl (we_int (ix_lst (d := .int g) (atI_nat (j := 0) rfl) (b_neI hr ⟨_, rfl, fun h => (by simp at h), fun _ => wss_nil ?_⟩)))))))
    exact ⟨_, _, _, _, _, d4, rfl, rfl, hB4, hrem'⟩
end
end K02

namespace K02
open PySem PySem.Spec L2 DL

local macro_rules | `(tactic| walk_at "dl") => `(tactic| first
  | ((with_reducible show WE _ _ (.Constant _ _ _) _ _ _); first | refine we_int ?_ | refine we_str ?_ | refine we_bl ?_ | refine we_non ?_)
  | ((with_reducible show WE _ _ (.Name _ _) _ _ _); first | refine we_var 0 rfl rfl ?_ | refine we_var 1 rfl rfl ?_ | refine we_var 2 rfl rfl ?_ | refine we_var 3 rfl rfl ?_ | refine we_var 4 rfl rfl ?_ | refine we_var 5 rfl rfl ?_ | refine we_var 6 rfl rfl ?_ | refine we_var 7 rfl rfl ?_ | refine we_var 8 rfl rfl ?_ | refine we_var 9 rfl rfl ?_ | refine we_var 10 rfl rfl ?_ | refine we_var 11 rfl rfl ?_ | refine we_var 12 rfl rfl ?_ | refine we_var 13 rfl rfl ?_ | refine we_var 14 rfl rfl ?_ | refine we_var 15 rfl rfl ?_)
  | ((with_reducible show WE _ _ (.BinOp _ _ _ _) _ _ _); refine we_bin ?_)
  | ((with_reducible show WE _ _ (.Compare _ [_] [_] _) _ _ _); refine we_cmp ?_)
  | ((with_reducible show WT _ _ (.Compare _ [_] [_] _) _ _ _); refine wt_cmp ?_)
  | ((with_reducible show WE _ _ (.UnaryOp .USub _ _) _ _ _); refine we_un ?_)
  | ((with_reducible show WT _ _ (.UnaryOp .Not _ _) _ _ _); refine wt_not ?_)
  | ((with_reducible show WE _ _ (.IfExp _ _ _ _) _ _ _); refine we_ifx ?_)
  | ((with_reducible show WE _ _ (.Subscript _ (.Name _ _) _) _ _ _); refine we_ix ?_)
  | ((with_reducible show WE _ _ (.Subscript _ (.Constant _ _ _) _) _ _ _); refine we_ix ?_)
  | ((with_reducible show WE _ _ (.Subscript _ (.Subscript _ _ _) _) _ _ _); refine we_ix ?_)
  | ((with_reducible show WE _ _ (.Subscript _ (.BinOp _ _ _ _) _) _ _ _); refine we_ix ?_)
  | ((with_reducible show WE _ _ (.Subscript _ (.UnaryOp _ _ _) _) _ _ _); refine we_ix ?_)
  | ((with_reducible show WE _ _ (.Subscript _ (.Call _ _ _ _) _) _ _ _); refine we_ix ?_)
  | ((with_reducible show WE _ _ (.Call (.Name "len" _) [_] [] _) _ _ _); refine we_b1 (by assumption) bb_len ?_)
  | ((with_reducible show WE _ _ (.Call (.Name "abs" _) [_] [] _) _ _ _); refine we_b1 (by assumption) bb_abs ?_)
  | ((with_reducible show WE _ _ (.Call (.Name "int" _) [_] [] _) _ _ _); refine we_t1 (by assumption) bb_int ?_)
  | ((with_reducible show WE _ _ (.Call (.Name "list" _) [_] [] _) _ _ _); refine we_t1 (by assumption) bb_list ?_)
  | ((with_reducible show WE _ _ (.Call (.Name "tuple" _) [_] [] _) _ _ _); refine we_t1 (by assumption) bb_tuple ?_)
  | ((with_reducible show WE _ _ (.Call (.Name "str" _) [_] [] _) _ _ _); refine we_t1 (by assumption) bb_str ?_)
  | ((with_reducible show WE _ _ (.Call (.Name "set" _) [_] [] _) _ _ _); refine we_t1 (by assumption) bb_set ?_)
  | ((with_reducible show WE _ _ (.Call (.Name "sorted" _) [_] [] _) _ _ _); refine we_b1 (by assumption) bb_sorted ?_)
  | ((with_reducible show WE _ _ (.Call (.Name "isinstance" _) [_, _] [] _) _ _ _); refine we_b2 (by assumption) bb_isinstance ?_)
  | ((with_reducible show WE _ _ (.Call (.Name "max" _) [_] [] _) _ _ _); refine we_b1 (by assumption) bb_max ?_)
  | ((with_reducible show WE _ _ (.Call (.Name "min" _) [_] [] _) _ _ _); refine we_b1 (by assumption) bb_min ?_)
  | ((with_reducible show WE _ _ (.Call (.Name "max" _) [_, _] [] _) _ _ _); refine we_b2 (by assumption) bb_max ?_)
  | ((with_reducible show WE _ _ (.Call (.Name "min" _) [_, _] [] _) _ _ _); refine we_b2 (by assumption) bb_min ?_)
  | ((with_reducible show BinG _ _ (binaryOp .Add) (.int _) (.int _) _ _); refine b_add ?_)
  | ((with_reducible show BinG _ _ (binaryOp .Sub) (.int _) (.int _) _ _); refine b_sub ?_)
  | ((with_reducible show BinG _ _ (binaryOp .Mod) (.int _) (.int _) _ _); refine b_mod (by omega) ?_)
  | ((with_reducible show BinG _ _ (binaryOp .FloorDiv) (.int _) (.int _) _ _); refine b_div ⟨by omega, by omega⟩ ?_)
  | ((with_reducible show BinG _ _ (binaryOp .Mult) (.int _) (.int _) _ _); first | refine b_mul (.inr ⟨by omega, by omega⟩) ?_ | refine b_mul (.inl ⟨by omega, by omega⟩) ?_)
  | ((with_reducible show BinG _ _ (compareOp .Lt) (.int _) (.int _) _ _); refine b_lt ?_)
  | ((with_reducible show BinG _ _ (compareOp .LtE) (.int _) (.int _) _ _); refine b_le ?_)
  | ((with_reducible show BinG _ _ (compareOp .Gt) (.int _) (.int _) _ _); refine b_gt ?_)
  | ((with_reducible show BinG _ _ (compareOp .GtE) (.int _) (.int _) _ _); refine b_ge ?_)
  | ((with_reducible show BinG _ _ (compareOp .Eq) (.int _) (.int _) _ _); refine b_eqI (by assumption) ?_)
  | ((with_reducible show BinG _ _ (compareOp .NotEq) (.int _) (.int _) _ _); refine b_neI (by assumption) ?_)
  | ((with_reducible show UnG _ _ (unaryOp .USub) (.int _) _ _); refine b_neg ?_)
  | (with_reducible refine ex_bl ?_)
  | ((with_reducible show CallG _ _ (.type "int") [.int _] _ _); refine c_int ?_)
  | ((with_reducible show CallG _ _ (.type "int") [.bl _] _ _); refine c_intB ?_)
  | ((with_reducible show CallG _ _ (.builtin "abs") _ _ _); refine c_abs ?_)
  | ((with_reducible show CallG _ _ (.builtin "len") [.lst _] _ _); refine c_len ?_)
  | ((with_reducible show CallG _ _ (.builtin "len") [.tup _] _ _); refine c_lenT ?_)
  | ((with_reducible show CallG _ _ (.builtin "len") [.raw _] _ _); refine c_lenM (by first | assumption | exact updM_same) ?_)
  | ((with_reducible show CallG _ _ (.type "list") [.tup _] _ _); refine c_listT ?_)
  | ((with_reducible show CallG _ _ (.type "tuple") [.lst _] _ _); refine c_tuple ?_)
  | ((with_reducible show CallG _ _ (.type "tuple") [.tup _] _ _); refine c_tupleT ?_)
  | ((with_reducible show CallG _ _ (.builtin "max") [.int _, .int _] _ _); refine c_max2 rfl ?_)
  | ((with_reducible show CallG _ _ (.builtin "min") [.int _, .int _] _ _); refine c_min2 rfl ?_)
  | ((with_reducible show IxG _ _ (.tup _) _ _ _); refine ix_tupD rfl ?_)
  | ((with_reducible show IxG _ _ (.raw _) _ _ _); refine ix_mlst (by first | assumption | exact updM_same) rfl ?_)
  | ((with_reducible show WA _ _ (_ :: _) _ _ _); refine wa_cons ?_)
  | ((with_reducible show WA _ _ [] _ _ _); refine wa_nil ?_))
section
variable {P : Program} {w : World} {K : PySem.W.Frag} {mg : Str → Option Value} {base : Heap}
theorem cl_len {per : Int} {gaps : List Int} (h : Cl per 100 gaps) : gaps.length ≤ 100 := by
  obtain ⟨ds, rfl, srt, hd, _⟩ := h
  have := nodup_len (l := ds) (srt.imp fun {a b} q => by omega) (m := (List.range 100).map fun i : Nat => (i : Int) + 1) fun k hk => by
    have := hd k hk
    exact List.mem_map.mpr ⟨(k - 1).toNat, List.mem_range.mpr (by omega), by omega⟩
  simpa using this
theorem cl_bd {per B : Int} {gaps : List Int} (h : Cl per B gaps) (h1 : 1 ≤ per) (h2 : per ≤ 12) (hB : B ≤ 300) (hB0 : 0 ≤ B) : Bd per gaps 12 300 := by
  refine ⟨wf_cl h h1 (by omega) (by omega), h2, ?_, ?_⟩ <;> obtain ⟨ds, rfl, srt, hd, _⟩ := h
  · have := nodup_len (l := ds) (srt.imp fun {a b} q => by omega) (m := (List.range 300).map fun i : Nat => (i : Int) + 1) fun k hk => by
      have := hd k hk
      exact List.mem_map.mpr ⟨(k - 1).toNat, List.mem_range.mpr (by omega), by omega⟩
    simpa using this
  · intro x hx
    obtain ⟨y, hy, rfl⟩ := List.mem_map.mp hx
    have h3 := hd y hy
    have h4 : per * y ≤ 12 * 300 := Int.mul_le_mul h2 (by omega) (by omega) (by omega)
    omega
theorem wf_twice {per : Int} {gaps : List Int} (h : Wf per gaps) (hb : per ≤ 1000) : Wf (2 * per) (gaps.filter fun g => decide (g % (2 * per) = 0)) := by
  have hp := h.pos
  refine ⟨by omega, by omega, h.srt.filter _, Nat.le_trans (List.length_filter_le _ _) h.len, fun g hg => ?_, fun g hg d hd hdv => ?_⟩
  · obtain ⟨h1, h2⟩ := List.mem_filter.mp hg
    exact ⟨(h.mul g h1).1, (h.mul g h1).2.1, Int.dvd_of_emod_eq_zero (of_decide_eq_true h2)⟩
  · obtain ⟨h1, h2⟩ := List.mem_filter.mp hg
    refine List.mem_filter.mpr ⟨clo_side h (by omega) (Int.dvd_mul_left ..) h1 (Int.dvd_of_emod_eq_zero (of_decide_eq_true h2)) hd hdv, ?_⟩
    rw [decide_eq_true_eq]
    exact Int.mul_emod_right ..
theorem cl_other {per : Int} {gaps : List Int} (h : Cl per 100 gaps) (hp : 1 ≤ per) : Cl (per + 1) 100 (gaps.map fun g => g / per * (per + 1)) := by
  obtain ⟨ds, rfl, srt, hd, hc⟩ := h
  refine ⟨ds, ?_, srt, hd, hc⟩
  rw [List.map_map]
  refine List.map_congr_left fun x hx => ?_
  simp only [Function.comp]
  rw [Int.mul_ediv_cancel_left _ (by omega), Int.mul_comm]
theorem within_no {p p' x : Int} {ga gm : List Int} (h1 : x ∈ gm) (h2 : x ∉ ga) (h3 : 0 < x) (h4 : p ∣ x) : lawWithin p ga p' gm = false := by
  unfold lawWithin
  have : decide (gm.filter (oneOf p ga) = []) = false := decide_eq_false fun e => by
    have := List.filter_eq_nil_iff.mp e x h1
    exact this (one_iff.mpr ⟨h3, h4, h2⟩)
  rw [this, Bool.and_false]
def spLaw : SpD := fun xs M Q => ∃ ns : List Int, xs = [.klst (ns.map D.int)] ∧ ∀ M', Q (.bl true) M'
theorem sc_law : FnScope ["script", "bag", "a", "b", "c", "more", "yes", "no", "drawn", "one", "twice", "gap", "other"] ["script"] d_law.scope := ⟨rfl, rfl, rfl, by decide +kernel, rfl, by decide +kernel, by decide +kernel⟩
theorem ok_law (m : Md K mg base) {fd : FuncData} (F : FunD K d_law.name d_law.qual d_law.params d_law.body d_law.scope (d_law.dvs K) (d_law.kws K) (He.fAd K d_law.at_) fd) : FnOk P w K mg base CX0 9 (He.fAd K d_law.at_) fd ["script"] (toSp K spLaw) := by
  refine fnD F sc_law (fun xs M Q ⟨a, e, _⟩ => by rw [e]; rfl) ?_
  rintro cdv A outer s H E hr xs M Q ⟨ns, rfl, hQ⟩
  have nd := sc_law.nd
  have fint : mg "int" = none := He.free_ok m.i m.n (free_int m.c)
  have hsz : sizeLine = 16777216 := sizeLine_eq
  refine wss_cons (ws_set 1 nd rfl (we_cal (cal_bag m) hr (by decide) (wa1 (we_var 0 rfl rfl ⟨ns, rfl, fun p d hp hB => ?_⟩))))
  -- a, b, c
  refine wss_cut (fun ds1 M1 => ∃ (pa : Int) (ga : List Int) (pb : Int) (gb : List Int) (pc : Int) (gc : List Int) (d1 : D), ds1 = [some (.klst (ns.map D.int)), some (.raw (.ref p)), some (lensD pa ga), some (lensD pb gb), some (lensD pc gc), none, none, none, none, none, none, none, none] ∧ M1 = updM M p d1 ∧ BagD d1 ∧ (1 ≤ pa ∧ pa ≤ 12 ∧ Cl pa 100 ga) ∧ (1 ≤ pb ∧ pb ≤ 12 ∧ Cl pb 100 gb) ∧ (1 ≤ pc ∧ pc ≤ 12 ∧ Cl pc 100 gc))
    (ws_asg (.tp [2, 3, 4]) (pg_tup rfl (pgs_cons (pg_name nd rfl (Or.inr rfl) (.inl rfl)) (pgs_cons (pg_name nd rfl (Or.inl rfl)) (pgs_cons (pg_name nd rfl (Or.inl rfl)) pgs_nil)))) <| we_tup <| wa3 <| we_cal (cal_lengths m) hr (by decide) <| wa1 <| we_var 1 rfl rfl ⟨p, d, rfl, updM_same, hB, fun pa ga d1 a1 a2 a3 hB1 => ?_⟩) ?_
  · rw [updM_updM]
    refine we_cal (cal_lengths m) hr (by decide) (wa1 (we_var 1 rfl rfl ⟨p, d1, rfl, updM_same, hB1, fun pb gb d2 b1 b2 b3 hB2 => ?_⟩))
    rw [updM_updM]
    refine we_cal (cal_lengths m) hr (by decide) (wa1 (we_var 1 rfl rfl ⟨p, d2, rfl, updM_same, hB2, fun pc gc d3 c1 c2 c3 hB3 => ?_⟩))
    rw [updM_updM]
    exact ⟨sz rfl, _, rfl, pa, ga, pb, gb, pc, gc, d3, rfl, rfl, hB3, ⟨a1, a2, a3⟩, ⟨b1, b2, b3⟩, c1, c2, c3⟩
  rintro ds1 M1 ⟨pa, ga, pb0, gb0, pc, gc, d1, rfl, rfl, hB1, ⟨a1, a2, a3⟩, ⟨b1, b2, b3⟩, c1, c2, c3⟩
  refine wss_cut (fun ds1 M1 => ∃ (pb : Int) (gb : List Int) (d1 : D), ds1 = [some (.klst (ns.map D.int)), some (.raw (.ref p)), some (lensD pa ga), some (lensD pb gb), some (lensD pc gc), none, none, none, none, none, none, none, none] ∧ M1 = updM M p d1 ∧ BagD d1 ∧ (1 ≤ pb ∧ pb ≤ 12 ∧ Cl pb 100 gb))
    (ws_if (wt_cmp (we_cal (cal_take m) hr (by decide) (wa2 (we_var 1 rfl rfl (we_int ⟨p, d1, 3, rfl, updM_same, hB1, by decide, by decide, fun z d2 h1 h2 hB2 => we_int (b_eqI hr ⟨_, rfl, fun _ => ?_, fun _ => wss_nil ?_⟩)⟩)))))) ?_
  · rw [updM_updM]
    refine wss_one (ws_set 3 nd rfl (we_tup (wa2 (we_ix (we_var 2 rfl rfl (we_int (ix_tupD rfl (we_ifx (wt_cmp (we_ix (we_var 3 rfl rfl (we_int (ix_tupD rfl (we_ix (we_var 2 rfl rfl (we_int (ix_tupD rfl (b_eqI hr ⟨_, rfl, fun h => ?_, fun _ => ?_⟩))))))))))))))))))
    · refine we_ix (we_var 3 rfl rfl (we_int (ix_tupD rfl ⟨sz rfl, pa, gb0, d2, rfl, rfl, hB2, a1, a2, ?_⟩)))
      rw [← of_decide_eq_true h]
      exact b3
    · refine we_lst (wa1 (we_ix (we_var 2 rfl rfl (we_int (ix_tupD rfl ⟨sz rfl, sz rfl, pa, [pa], d2, rfl, rfl, hB2, a1, a2, [1], by simp, by simp, by simp, fun x hx e he hd => ?_⟩)))))
      simp at hx
      subst hx
      have := Int.le_of_dvd (by decide) hd
      simp
      omega
  · rw [updM_updM]
    exact ⟨pb0, gb0, d2, rfl, rfl, hB2, b1, b2, b3⟩
  clear b1 b2 b3 pb0 gb0
  rintro ds1 M1 ⟨pb, gb, d2, rfl, rfl, hB2, b1, b2, b3⟩
  -- more
  refine wss_cons (ws_set 5 nd rfl (we_cal (cal_more m) hr (by decide) (wa2 (we_var 1 rfl rfl (we_var 2 rfl rfl ⟨p, d2, pa, ga, rfl, updM_same, hB2, a1, a2, a3, fun gm x d3 m1 m2 m3 hB3 => ?_⟩)))))
  rw [updM_updM]
  have Ba := cl_bd a3 a1 a2 (by decide) (by decide)
  have Bb := cl_bd b3 b1 b2 (by decide) (by decide)
  have Bc := cl_bd c3 c1 c2 (by decide) (by decide)
  have Bm := cl_bd m1 a1 a2 (by decide) (by decide)
  have hx := Bm.wf.mul x m2
  have hgam : ¬ (pa = pa ∧ ga = gm) := fun e => m3 (e.2 ▸ m2)
  -- ways
  refine wss_cut (fun ds1 M1 => ∃ d4, ds1 = [some (.klst (ns.map D.int)), some (.raw (.ref p)), some (lensD pa ga), some (lensD pb gb), some (lensD pc gc), some (lensD pa gm), none, none, none, none, none, none, none] ∧ M1 = updM M p d4 ∧ BagD d4)
    (ws_if (wt_w (ww_or (wt_not (wt_truth (we_cal (cal_ways m) hr (by decide) (wa2 (we_var 1 rfl rfl (we_cal (cal_mixed m) hr (by decide) (wa2 (we_var 1 rfl rfl (we_lst (wa3 (we_var 2 rfl rfl (we_var 3 rfl rfl (we_var 4 rfl rfl ⟨sz rfl, p, d3, _, rfl, updM_same, hB3, by simp, fun zs d4 hperm hB4 => ?_⟩)))))))))))))))) ?_
  · rw [updM_updM]
    have hel : ∀ z ∈ zs, ∃ q g, z = lensD q g ∧ Bd q g 12 300 := fun z hz => by
      have := hperm.mem_iff.mp hz
      simp only [List.mem_cons, List.not_mem_nil, or_false] at this
      rcases this with rfl | rfl | rfl
      · exact ⟨_, _, rfl, Ba⟩
      · exact ⟨_, _, rfl, Bb⟩
      · exact ⟨_, _, rfl, Bc⟩
    have hl3 := hperm.length_eq
    match zs, hl3, hel with
    | [z1, z2, z3], _, hel =>
      obtain ⟨q1, g1, rfl, B1⟩ := hel z1 (by simp)
      obtain ⟨q2, g2, rfl, B2⟩ := hel z2 (by simp)
      obtain ⟨q3, g3, rfl, B3⟩ := hel z3 (by simp)
      refine ⟨p, d4, q1, g1, q2, g2, q3, g3, rfl, updM_same, hB4, B1, B2, B3, fun d5 hB5 => tru_is rfl ⟨fun h => (by cases h), fun _ => ?_⟩⟩
      rw [updM_updM]
      refine ww_or1 (wt_not (wt_truth (we_cal (cal_ways m) hr (by decide) (wa2 (we_var 1 rfl rfl (we_lst (wa3 (we_var 5 rfl rfl (we_var 2 rfl rfl (we_var 3 rfl rfl ⟨sz rfl, p, d5, _, _, _, _, _, _, rfl, updM_same, hB5, Bm, Ba, Bb, fun d6 hB6 => tru_is rfl ⟨fun h => (by cases h), fun _ => wss_nil ?_⟩⟩))))))))))
      rw [updM_updM]
      exact ⟨d6, rfl, rfl, hB6⟩
  rintro ds1 M1 ⟨d4, rfl, rfl, hB4⟩
  -- asked
  have prbc := Bb.pair Bc (by decide) (by decide)
  have pram := Ba.pair Bm (by decide) (by decide)
  obtain ⟨R, wR, hR⟩ := both_ex prbc
  have yes1 : (lawWithin (lcmI pb pc) R pb gb && lawWithin (lcmI pb pc) R pc gc) = true := by
    rw [← within_law wR.pos, ← within_law wR.pos, within_part (Int.dvd_lcm_left ..) fun x hx h => (hR x).mpr ⟨.inl hx, h⟩, within_part (Int.dvd_lcm_right ..) fun x hx h => (hR x).mpr ⟨.inr hx, h⟩]
    rfl
  have no1 : (lawWithin pa ga pa ga && lawWithin pa ga pa gm) = false := by
    rw [within_no m2 m3 hx.1 hx.2.2, Bool.and_false]
  refine wss_cut (fun ds1 M1 => ∃ d5 t, ds1 = [some (.klst (ns.map D.int)), some (.raw (.ref p)), some (lensD pa ga), some (lensD pb gb), some (lensD pc gc), some (lensD pa gm), some (.tup [.bl true, .bl true]), some (.tup [.bl true, .bl false]), some (.tup [.bl true, .bl t]), none, none, none, none] ∧ M1 = updM M p d5 ∧ BagD d5)
    (ws_par3 6 7 8 rfl nd rfl rfl rfl (wa3 (we_cal (cal_asked m) hr (by decide) (wa_cons (we_var 1 rfl rfl (wa3 (we_cal (cal_lboth m) hr (by decide) (wa2 (we_var 3 rfl rfl (we_var 4 rfl rfl (sp_lboth prbc rfl wR hR (we_var 3 rfl rfl (we_var 4 rfl rfl ⟨p, d4, _, _, _, _, _, _, rfl, updM_same, hB4, wR, prbc, fun d5 hB5 => ?_⟩))))))))))))) ?_
  · rw [updM_updM, yes1]
    refine we_cal (cal_asked m) hr (by decide) (wa_cons (we_var 1 rfl rfl (wa3 (we_var 2 rfl rfl (we_var 2 rfl rfl (we_var 5 rfl rfl ⟨p, d5, _, _, _, _, _, _, rfl, updM_same, hB5, Ba.wf, pram, fun d6 hB6 => ?_⟩))))))
    rw [updM_updM, no1]
    refine we_cal (cal_asked m) hr (by decide) (wa_cons (we_var 1 rfl rfl (wa3 (we_var 2 rfl rfl (we_var 3 rfl rfl (we_var 4 rfl rfl ⟨p, d6, _, _, _, _, _, _, rfl, updM_same, hB6, Ba.wf, prbc, fun d7 hB7 => ?_⟩))))))
    rw [updM_updM]
    exact ⟨_, _, _, rfl, d7, _, rfl, rfl, hB7⟩
  rintro ds1 M1 ⟨d5, t, rfl, rfl, hB5⟩
  refine wss_cons (ws_if (wt_w (ww_or (wt_not (wt_truth (we_ix (we_var 6 rfl rfl (we_int (ix_tupD rfl (tru_is rfl ⟨fun h => (by cases h), fun _ => ?_⟩)))))))))) 
  refine ww_or (wt_not (wt_truth (we_ix (we_var 7 rfl rfl (we_int (ix_tupD rfl (tru_is rfl ⟨fun h => (by cases h), fun _ => ?_⟩)))))))
  refine ww_or (wt_not (wt_truth (we_ix (we_var 8 rfl rfl (we_int (ix_tupD rfl (tru_is rfl ⟨fun h => (by cases h), fun _ => ?_⟩)))))))
  refine ww_or (wt_not (wt_truth (we_ix (we_var 6 rfl rfl (we_int (ix_tupD rfl (tru_is rfl ⟨fun h => (by cases h), fun _ => ?_⟩)))))))
  refine ww_or1 (wt_truth (we_ix (we_var 7 rfl rfl (we_int (ix_tupD rfl (tru_is rfl ⟨fun h => (by cases h), fun _ => wss_nil ?_⟩))))))
  -- one, twice
  refine wss_cut (fun ds1 M1 => ∃ d6 g2, ds1 = [some (.klst (ns.map D.int)), some (.raw (.ref p)), some (lensD pa ga), some (lensD pb gb), some (lensD pc gc), some (lensD pa gm), some (.tup [.bl true, .bl true]), some (.tup [.bl true, .bl false]), some (.tup [.bl true, .bl t]), some (lenD K pa ga), some (lenD K (2 * pa) g2), none, none] ∧ M1 = updM M p d6 ∧ BagD d6)
    (ws_par2 9 10 rfl nd rfl rfl (wa2 (we_cal (cal_object m) hr (by decide) (wa2 (we_var 1 rfl rfl (we_var 2 rfl rfl ⟨p, d5, pa, ga, rfl, updM_same, hB5, Ba.wf, fun d6 hB6 => ?_⟩)))))) ?_
  · rw [updM_updM]
    refine we_cal (cal_object m) hr (by decide) (wa2 (we_var 1 rfl rfl (we_tup (wa2 (we_bin (we_int (we_ix (we_var 2 rfl rfl (we_int (ix_tupD rfl (b_mul (.inl ⟨by omega, by omega⟩) ?_)))))))))))
    refine we_lcP (.nm 11) ga D.int (fun g => decide (g % (2 * pa) = 0)) D.int rfl nd (own := [("gap", 11)]) (blkOk_by (by kernel_rfl)) (by decide) (fun s0 H0 C cl fp => pg_name nd rfl (Or.inl rfl)) (wi_list (we_ix (we_var 2 rfl rfl (we_int (ix_tupD rfl ⟨_, rfl, fun hz => ⟨hz, li_map ga D.int, ?_, ?_⟩⟩)))))
    · intro c hc M' hs
      exact ⟨_, rfl, fun s0 H0 C cl fp => wts_one <| wt_cmp <| we_bin <| we_t1 fint bb_int <| we_var 11 rfl rfl <| c_int <| we_bin <| we_int <| we_ix <| we_var 2 rfl rfl <| we_int <| ix_tupD rfl <| b_mul (.inl ⟨by omega, by omega⟩) <| b_mod (by omega) <| we_int <| b_eqI hr ⟨_, rfl, rfl, rfl⟩, fun _ s0 H0 C cl fp => we_var 11 rfl rfl ⟨rfl, rfl⟩⟩
    · refine ⟨sz rfl, p, d6, _, _, rfl, updM_same, hB6, wf_twice Ba.wf (by omega), fun d7 hB7 => ?_⟩
      rw [updM_updM]
      exact ⟨_, _, rfl, d7, _, rfl, rfl, hB7⟩
  rintro ds1 M1 ⟨d6, g2, rfl, rfl, hB6⟩
  -- alike
  refine wss_cut (fun ds1 M1 => ∃ d7, ds1 = [some (.klst (ns.map D.int)), some (.raw (.ref p)), some (lensD pa ga), some (lensD pb gb), some (lensD pc gc), some (lensD pa gm), some (.tup [.bl true, .bl true]), some (.tup [.bl true, .bl false]), some (.tup [.bl true, .bl t]), some (lenD K pa ga), some (lenD K (2 * pa) g2), none, none] ∧ M1 = updM M p d7 ∧ BagD d7)
    (ws_if (wt_w (ww_or (wt_not (wt_truth (we_cal (cal_alike m) hr (by decide) (wa3 (we_var 9 rfl rfl (we_cal (cal_object m) hr (by decide) (wa2 (we_var 1 rfl rfl (we_var 2 rfl rfl ⟨p, d6, pa, ga, rfl, updM_same, hB6, Ba.wf, fun d7 hB7 => we_bl ⟨_, _, _, _, _, rfl, decide_eq_true ⟨rfl, rfl⟩, tru_is rfl ⟨fun h => (by cases h), fun _ => ?_⟩⟩⟩)))))))))))) ?_
  · rw [updM_updM]
    refine ww_or (wt_not (wt_truth (we_cal (cal_alike m) hr (by decide) (wa3 (we_var 9 rfl rfl (we_cal (cal_object m) hr (by decide) (wa2 (we_var 1 rfl rfl (we_var 5 rfl rfl ⟨p, d7, pa, gm, rfl, updM_same, hB7, Bm.wf, fun d8 hB8 => we_bl ⟨_, _, _, _, _, rfl, decide_eq_false hgam, tru_is rfl ⟨fun h => (by cases h), fun _ => ?_⟩⟩⟩)))))))))
    rw [updM_updM]
    refine ww_or1 (wt_not (wt_truth (we_cal (cal_alike m) hr (by decide) (wa3 (we_var 9 rfl rfl (we_var 10 rfl rfl (we_bl ⟨_, _, _, _, _, rfl, decide_eq_false (fun e => by omega), tru_is rfl ⟨fun h => (by cases h), fun _ => wss_nil ?_⟩⟩)))))))
    exact ⟨d8, rfl, rfl, hB8⟩
  rintro ds1 M1 ⟨d7, rfl, rfl, hB7⟩
  -- other
  have clo := cl_other a3 a1
  refine wss_cons (ws_set 12 nd rfl (we_tup (wa2 (we_bin (we_ix (we_var 2 rfl rfl (we_int (ix_tupD rfl (we_int (b_add ?_))))))))))
  refine we_lcM (.nm 11) ga D.int (fun g => .int (g / pa * (pa + 1))) rfl nd (own := [("gap", 11)]) (by kernel_rfl) (by decide) (fun s0 H0 C cl fp => pg_name nd rfl (Or.inl rfl)) (wi_list (we_ix (we_var 2 rfl rfl (we_int (ix_tupD rfl ⟨_, rfl, fun hz => ⟨hz, li_map ga D.int, ?_, ?_⟩⟩)))))
  · intro c hc M' hs
    have h1 := Ba.wf.mul c hc
    have h2 := Ba.b c hc
    have h3 := Int.ediv_nonneg (show 0 ≤ c by omega) (show 0 ≤ pa by omega)
    have h4 := Int.ediv_le_self pa (show 0 ≤ c by omega)
    exact ⟨_, rfl, fun s0 H0 C cl fp => we_bin <| we_bin <| we_var 11 rfl rfl <| we_ix <| we_var 2 rfl rfl <| we_int <| ix_tupD rfl <| b_div ⟨by omega, by omega⟩ <| we_bin <| we_ix <| we_var 2 rfl rfl <| we_int <| ix_tupD rfl <| we_int <| b_add <| b_mul (.inl ⟨by omega, by omega⟩) ⟨rfl, rfl⟩⟩
  rw [show ga.map (fun g => D.int (g / pa * (pa + 1))) = (ga.map fun g => g / pa * (pa + 1)).map D.int by rw [List.map_map]; rfl]
  refine ⟨sz rfl, wss_one (ws_ret (we_andT (we_cal (cal_alike m) hr (by decide) (wa3 (we_var 9 rfl rfl (we_cal (cal_object m) hr (by decide) (wa2 (we_var 1 rfl rfl (we_var 12 rfl rfl ⟨p, d7, _, _, rfl, updM_same, hB7, wf_cl clo (by omega) (by omega) (by omega), fun d8 hB8 => we_bl ⟨_, _, _, _, _, rfl, decide_eq_false (fun e => by omega), tru_is rfl ⟨fun _ => ?_, fun h => (by cases h)⟩⟩⟩)))))))))⟩
  exact we_one (we_cal (cal_lwrong m) hr (by decide) (wa2 (we_var 1 rfl rfl (we_var 2 rfl rfl ⟨p, d8, pa, ga, rfl, updM_same, hB8, a1, a2, a3, fun d9 hB9 => hQ _⟩))))
end
end K02

namespace K02
open PySem PySem.Spec L2 DL
theorem law_facts {P : Program} {w : World} {K : PySem.W.Frag} {h : Heap} {mg : Str → Option Value} {f : Addr} (X : K.In h) (G : h.Ns mainGlobals mg) (hfa : mg ("law" : Str) = some (.ref f)) (e : extra K = true) (c : He.SaysD fa fn K) :
    ∃ fd : FuncData, (∀ (s : Shared) (v : Value), BindsTo s fd ⟨[v], []⟩ [("script", v)]) ∧ ∀ base : Heap, K.In base → base.Ns mainGlobals mg → FnOk P w K mg base CX0 9 f fd ["script"] (toSp K spLaw) := by
  obtain ⟨fd, F⟩ := fd_law c
  have e1 : f = He.fAd K d_law.at_ := by
    have := hfa.symm.trans (He.glo_ok X G (glo_law c))
    cases this
    rfl
  subst e1
  have F' : FunD K d_law.name d_law.qual d_law.params d_law.body d_law.scope [] (d_law.kws K) (He.fAd K d_law.at_) fd := F
  have b := FunD.bindsA (ps := ["script"]) F' fun _ _ _ _ _ _ us hl => match us, hl with | [_], _ => rfl
  exact ⟨fd, fun s v => b s [v] rfl, fun base hi hn => ok_law ⟨c, e, hi, hn⟩ F⟩
theorem law_end {K : PySem.W.Frag} {H : Hp} {a : Addr} {ns : List Int} (hS : SqL K H a (ns.map V.int)) : toSp K spLaw [.ref a] H (fun v _ => v = .bl true) fun _ _ _ => False := by
  refine ⟨[.klst (ns.map D.int)], fun _ => none, fun _ => True, fun d _ => d = .bl true, fun _ _ _ _ => trivial, ⟨H, Le.refl H, fun _ _ h => (by cases h), RpL.cons (by simp only [Rp]; exact ⟨a, _, rfl, hS, rpl_ints⟩) RpL.nil, trivial⟩, ⟨ns, rfl, fun _ => rfl⟩, fun v H' ⟨d, M', o, q⟩ => ?_⟩
  subst q
  exact o.use fun _ _ z => z.1.bl_inv
end K02
open PySem PySem.W PySem.Calls PyProof.Rows
theorem PySem.Challenge.cw_ringsallow_k02_lengths_of_both_and_withi_holds : PySem.Challenge.rw_ringsallow_k02_lengths_of_both_and_withi.Holds := by
  w_on; o_law
  refine HandSHeadRun.head_imp (r := OpenLaw.row PySem.Challenge.rw_ringsallow_k02_lengths_of_both_and_withi) (q := K02.vw) (H := K02.hk) (ob := K02.ob) (M := 4000) (loose := K02.loose) (d := K02.lawDef) (kwd := []) K02.ob_eq K02.run
    (by kernel_rfl) (by kernel_rfl) (by kernel_rfl) (by rfl) (by first | assumption | decide +kernel) (by decide +kernel) ⟨rfl, rfl, rfl, rfl, rfl, by decide +kernel⟩ ?hw ?hc
  case hw => w_witness2
  case hc =>
    refine L2.walk_ofE (l := PySem.Challenge.rw_ringsallow_k02_lengths_of_both_and_withi) (n := 63) (k := 9) (x := "script") (CX := L2.CX0) rfl (by decide) (by kernel_rfl) ⟨rfl, by decide, by decide⟩ ?F (fun _ _ _ _ z => z)
    intro w mg fa h Y G hmg0
    obtain ⟨K, KX, e, c⟩ := Y
    have hmg : mg ("law" : PySem.Str) = some (.ref fa) := by
      have e : K02.lawDef.name = ("law" : PySem.Str) := by kernel_rfl
      rw [← e]
      exact hmg0
    obtain ⟨fd, hb, hF⟩ := K02.law_facts (P := (PySem.Challenge.rw_ringsallow_k02_lengths_of_both_and_withi).prog) (w := w) KX G hmg e c
    exact ⟨K, fd, DL.toSp K K02.spLaw, KX, hb, fun H a ns hl _ hS => K02.law_end hS, hF⟩

