import PyProof.Rows.All
import Wide.All
import OpenK.AllK
import Wide.FinOn
import HandS.ForMost
import HandS.Codes
import HandS.SortInts
import HandS.Gcd
import HandS.Style
import HandS.Flow
import HandS.IsInst
import HandS.DictComp
import HandS.FStr
import HandS.SlotsOwn
import HandS.Defaults
import HandS.MakeKw
import HandS.TupAny
import HandS.Records
import HandS.Wide
import HandS.ExcOwn
import HandS.ExcInit
import HandS.ExcField
import HandS.CallSlots
import HandS.SetFor
import HandS.Strs
import HandS.Walk
import HandS.NoneIn
import KE.KCallOwn
import HandS.Head0
import HandS.Head1
import HandS.Head2
import HandS.HeadEnd
import HandS.HeadHook1
import HandS.HeadHook2
import HandS.Conv
import HandS.RaiseMore
import HandS.Set
import PyProof.Rows.SortShellAny
import PyProof.InstNe
import HandS.MakeKwOnly
import HandS.Star
import HandS.Base
import HandS.Call
import HandS.Ends
import HandS.More
import HandS.Words
import HandS.WordsExc
import PySem.Challenge.RW_ringsallow_k03_rows_moved_are_a_group
set_option Elab.async false
set_option linter.all false
set_option maxRecDepth 100000
set_option maxHeartbeats 0
/-! DL1: Python values as data (D), mutable objects in a small store (M), over the hand layer. -/
namespace DL
open PySem PySem.Spec L2

/-- a value as data: what is frozen is written out; raw: any other value (a class, a def, a mutable object's address) -/
inductive D where
  | non | bl (b : Bool) | int (i : Int) | str (x : Str)
  | lst (xs : List D) | tup (xs : List D)
  | dct (kvs : List (Key × D))
  | dctT (kvs : List (List Key × D))
  | obj (C : Addr) (fs : List (Str × D))
  | raw (v : V)
  | own (P : Addr → HO → Prop)
  | klst (xs : List D)
  | xo (a C : Addr) (d : Option Addr)
  | xf (dx : Addr) (fs : List (Str × D))

/-- a dict while it is walked is the dict -/
def uf : HO → HO
  | .frz _ (.dK k) => .dK k
  | .frz _ (.dT k) => .dT k
  | o => o
theorem uf_of {o x : HO} (h : uf o = x) (h1 : ∀ k, x ≠ .dK k) (h2 : ∀ k, x ≠ .dT k) : o = x := by
  unfold uf at h
  split at h
  · exact absurd h.symm (h1 _)
  · exact absurd h.symm (h2 _)
  · exact h
/-- what is known stays known -/
def Le (G H : Hp) : Prop := ∀ a o, G a = some o → ∃ o', H a = some o' ∧ uf o' = uf o
theorem Le.refl (G : Hp) : Le G G := fun a o h => ⟨o, h, rfl⟩
theorem Le.trans {G H I : Hp} (a : Le G H) (b : Le H I) : Le G I := fun x o h => by
  obtain ⟨o1, h1, e1⟩ := a x o h
  obtain ⟨o2, h2, e2⟩ := b x o1 h1
  exact ⟨o2, h2, e2.trans e1⟩
theorem Le.at {G H : Hp} (e : Le G H) {a : Addr} {o : HO} (h : G a = some o) (hu : uf o = o := by rfl) (h1 : ∀ k, o ≠ .dK k := by intro k q; cases q) (h2 : ∀ k, o ≠ .dT k := by intro k q; cases q) : H a = some o := by
  obtain ⟨o', h', e'⟩ := e a o h
  rw [hu] at e'
  rw [h', uf_of e' h1 h2]
/-- a dict, walked or not -/
def DcK (G : Hp) (a : Addr) (u : HO) : Prop := ∃ o, G a = some o ∧ uf o = u
theorem DcK.mono {G H : Hp} {a : Addr} {u : HO} (e : Le G H) (h : DcK G a u) : DcK H a u := by
  obtain ⟨o, h1, h2⟩ := h
  obtain ⟨o', h3, h4⟩ := e a o h1
  exact ⟨o', h3, h4.trans h2⟩
/-- no dict -/
def Nd (o : HO) : Prop := uf o = o ∧ (∀ k, o ≠ .dK k) ∧ ∀ k, o ≠ .dT k
mutual
/-- v is the data d, as far as the frozen heap G knows -/
def Rp (K : PySem.W.Frag) (G : Hp) : D → V → Prop
  | .non, v => v = .non
  | .bl b, v => v = .bl b
  | .int i, v => v = .int i
  | .str x, v => v = .str x
  | .raw w, v => v = w
  | .own P, v => ∃ a o, v = .ref a ∧ G a = some o ∧ Nd o ∧ P a o
  | .klst ds, v => ∃ a vs, v = .ref a ∧ SqL K G a vs ∧ RpL K G ds vs
  | .xo _ _ _, _ => False
  | .xf _ _, _ => False
  | .lst ds, v => ∃ a vs, v = .ref a ∧ G a = some (.lst vs) ∧ RpL K G ds vs
  | .tup ds, v => ∃ a vs, v = .ref a ∧ SqT K G a vs ∧ RpL K G ds vs
  | .dct kvs, v => ∃ a ws, v = .ref a ∧ DcK G a (.dK ws) ∧ RpK K G kvs ws
  | .dctT kvs, v => ∃ a ws, v = .ref a ∧ DcK G a (.dT ws) ∧ RpT K G kvs ws
  | .obj C fs, v => ∃ a dx ws, v = .ref a ∧ G a = some (.ins C dx ws) ∧ RpF K G fs ws
def RpL (K : PySem.W.Frag) (G : Hp) : List D → List V → Prop
  | [], vs => vs = []
  | d :: ds, vs => ∃ v r, vs = v :: r ∧ Rp K G d v ∧ RpL K G ds r
def RpK (K : PySem.W.Frag) (G : Hp) : List (Key × D) → List (Key × V) → Prop
  | [], vs => vs = []
  | (k, d) :: ds, vs => ∃ v r, vs = (k, v) :: r ∧ Rp K G d v ∧ RpK K G ds r
def RpT (K : PySem.W.Frag) (G : Hp) : List (List Key × D) → List (List Key × V) → Prop
  | [], vs => vs = []
  | (k, d) :: ds, vs => ∃ v r, vs = (k, v) :: r ∧ Rp K G d v ∧ RpT K G ds r
def RpF (K : PySem.W.Frag) (G : Hp) : List (Str × D) → List (Str × V) → Prop
  | [], vs => vs = []
  | (k, d) :: ds, vs => ∃ v r, vs = (k, v) :: r ∧ Rp K G d v ∧ RpF K G ds r
end

theorem frz_tup {o : Obj} {xs : List V} : uf (.frz o (.tup xs)) = .frz o (.tup xs) := rfl
theorem sqt_mono {K : PySem.W.Frag} {G G' : Hp} {a : Addr} {xs : List V} (e : Le G G') (h : SqT K G a xs) : SqT K G' a xs := by
  rcases h with (h | ⟨o, h⟩) | h
  · exact .inl (.inl (e.at h))
  · exact .inl (.inr ⟨o, e.at h⟩)
  · exact .inr h
theorem sql_mono {K : PySem.W.Frag} {G G' : Hp} {a : Addr} {xs : List V} (e : Le G G') (h : SqL K G a xs) : SqL K G' a xs := by
  rcases h with (h | ⟨o, h⟩) | h
  · exact .inl (.inl (e.at h))
  · exact .inl (.inr ⟨o, e.at h⟩)
  · exact .inr h
mutual
theorem Rp.mono {K : PySem.W.Frag} {G G' : Hp} (e : Le G G') : ∀ {d : D} {v : V}, Rp K G d v → Rp K G' d v
  | .non, _, h => h
  | .bl _, _, h => h
  | .int _, _, h => h
  | .str _, _, h => h
  | .raw _, _, h => h
  | .own P, _, h => by
    obtain ⟨a, o, rfl, h1, h2, h3⟩ := (by simpa only [Rp] using h : ∃ a o, _ = V.ref a ∧ G a = some o ∧ Nd o ∧ P a o)
    simp only [Rp]
    exact ⟨a, o, rfl, e.at h1 h2.1 h2.2.1 h2.2.2, h2, h3⟩
  | .xo _ _ _, _, h => (by simpa only [Rp] using h : False).elim
  | .xf _ _, _, h => (by simpa only [Rp] using h : False).elim
  | .klst ds, _, h => by
    obtain ⟨a, vs, rfl, h1, h2⟩ := (by simpa only [Rp] using h : ∃ a vs, _ = V.ref a ∧ SqL K G a vs ∧ RpL K G ds vs)
    simp only [Rp]
    exact ⟨a, vs, rfl, sql_mono e h1, RpL.mono e h2⟩
  | .lst ds, _, h => by
    obtain ⟨a, vs, rfl, h1, h2⟩ := (by simpa only [Rp] using h : ∃ a vs, _ = V.ref a ∧ G a = some (.lst vs) ∧ RpL K G ds vs)
    simp only [Rp]
    exact ⟨a, vs, rfl, e.at h1, RpL.mono e h2⟩
  | .tup ds, _, h => by
    obtain ⟨a, vs, rfl, h1, h2⟩ := (by simpa only [Rp] using h : ∃ a vs, _ = V.ref a ∧ SqT K G a vs ∧ RpL K G ds vs)
    simp only [Rp]
    exact ⟨a, vs, rfl, sqt_mono e h1, RpL.mono e h2⟩
  | .dct kvs, _, h => by
    obtain ⟨a, vs, rfl, h1, h2⟩ := (by simpa only [Rp] using h : ∃ a ws, _ = V.ref a ∧ DcK G a (.dK ws) ∧ RpK K G kvs ws)
    simp only [Rp]
    exact ⟨a, vs, rfl, h1.mono e, RpK.mono e h2⟩
  | .dctT kvs, _, h => by
    obtain ⟨a, vs, rfl, h1, h2⟩ := (by simpa only [Rp] using h : ∃ a ws, _ = V.ref a ∧ DcK G a (.dT ws) ∧ RpT K G kvs ws)
    simp only [Rp]
    exact ⟨a, vs, rfl, h1.mono e, RpT.mono e h2⟩
  | .obj C fs, _, h => by
    obtain ⟨a, dx, ws, rfl, h1, h2⟩ := (by simpa only [Rp] using h : ∃ a dx ws, _ = V.ref a ∧ G a = some (.ins C dx ws) ∧ RpF K G fs ws)
    simp only [Rp]
    exact ⟨a, dx, ws, rfl, e.at h1, RpF.mono e h2⟩
theorem RpL.mono {K : PySem.W.Frag} {G G' : Hp} (e : Le G G') : ∀ {ds : List D} {vs : List V}, RpL K G ds vs → RpL K G' ds vs
  | [], _, h => h
  | d :: ds, _, h => by
    obtain ⟨v, r, rfl, h1, h2⟩ := (by simpa only [RpL] using h : ∃ v r, _ = v :: r ∧ Rp K G d v ∧ RpL K G ds r)
    simp only [RpL]
    exact ⟨v, r, rfl, Rp.mono e h1, RpL.mono e h2⟩
theorem RpK.mono {K : PySem.W.Frag} {G G' : Hp} (e : Le G G') : ∀ {ds : List (Key × D)} {vs : List (Key × V)}, RpK K G ds vs → RpK K G' ds vs
  | [], _, h => h
  | (k, d) :: ds, _, h => by
    obtain ⟨v, r, rfl, h1, h2⟩ := (by simpa only [RpK] using h : ∃ v r, _ = (k, v) :: r ∧ Rp K G d v ∧ RpK K G ds r)
    simp only [RpK]
    exact ⟨v, r, rfl, Rp.mono e h1, RpK.mono e h2⟩
theorem RpT.mono {K : PySem.W.Frag} {G G' : Hp} (e : Le G G') : ∀ {ds : List (List Key × D)} {vs : List (List Key × V)}, RpT K G ds vs → RpT K G' ds vs
  | [], _, h => h
  | (k, d) :: ds, _, h => by
    obtain ⟨v, r, rfl, h1, h2⟩ := (by simpa only [RpT] using h : ∃ v r, _ = (k, v) :: r ∧ Rp K G d v ∧ RpT K G ds r)
    simp only [RpT]
    exact ⟨v, r, rfl, Rp.mono e h1, RpT.mono e h2⟩
theorem RpF.mono {K : PySem.W.Frag} {G G' : Hp} (e : Le G G') : ∀ {ds : List (Str × D)} {vs : List (Str × V)}, RpF K G ds vs → RpF K G' ds vs
  | [], _, h => h
  | (k, d) :: ds, _, h => by
    obtain ⟨v, r, rfl, h1, h2⟩ := (by simpa only [RpF] using h : ∃ v r, _ = (k, v) :: r ∧ Rp K G d v ∧ RpF K G ds r)
    simp only [RpF]
    exact ⟨v, r, rfl, Rp.mono e h1, RpF.mono e h2⟩
end
end DL

namespace DL
open PySem PySem.Spec L2

/-! ### the state -/
def RpO (K : PySem.W.Frag) (G : Hp) : Option D → Option V → Prop
  | none, _ => True
  | some d, some v => Rp K G d v
  | some _, none => False
def EnvR (K : PySem.W.Frag) (G : Hp) : List (Option D) → St → Prop
  | [], σ => σ = []
  | d :: ds, σ => ∃ s r, σ = s :: r ∧ RpO K G d s ∧ EnvR K G ds r
theorem RpO.mono {K : PySem.W.Frag} {G G' : Hp} (e : Le G G') : ∀ {d : Option D} {s : Option V}, RpO K G d s → RpO K G' d s
  | none, _, _ => trivial
  | some _, some _, h => Rp.mono e h
  | some _, none, h => h
theorem EnvR.mono {K : PySem.W.Frag} {G G' : Hp} (e : Le G G') : ∀ {ds : List (Option D)} {σ : St}, EnvR K G ds σ → EnvR K G' ds σ
  | [], _, h => h
  | _ :: _, _, ⟨s, r, h1, h2, h3⟩ => ⟨s, r, h1, RpO.mono e h2, EnvR.mono e h3⟩
theorem EnvR.get {K : PySem.W.Frag} {G : Hp} : ∀ {ds : List (Option D)} {σ : St} {i : Nat} {d : D}, EnvR K G ds σ → ds[i]? = some (some d) → ∃ v, σ[i]? = some (some v) ∧ Rp K G d v
  | [], _, _, _, _, h => by simp at h
  | o :: ds, _, 0, d, ⟨s, r, rfl, h2, _⟩, h => by
    simp at h
    subst h
    cases s with
    | none => exact h2.elim
    | some v => exact ⟨v, rfl, h2⟩
  | _ :: ds, _, i + 1, d, ⟨s, r, rfl, _, h3⟩, h => by
    obtain ⟨v, h4, h5⟩ := EnvR.get (i := i) h3 (by simpa using h)
    exact ⟨v, by simpa using h4, h5⟩
theorem EnvR.set {K : PySem.W.Frag} {G : Hp} {d : D} {v : V} (r : Rp K G d v) : ∀ {ds : List (Option D)} {σ : St} (i : Nat), EnvR K G ds σ → EnvR K G (ds.set i (some d)) (σ.set i (some v))
  | [], _, _, h => by
    have h : _ = [] := h
    subst h
    rfl
  | o :: ds, _, 0, ⟨s, q, rfl, _, h3⟩ => ⟨some v, q, rfl, r, h3⟩
  | o :: ds, _, i + 1, ⟨s, q, rfl, h2, h3⟩ => ⟨s, _, rfl, h2, EnvR.set r i h3⟩
theorem EnvR.start {K : PySem.W.Frag} {G : Hp} {n : Nat} : ∀ {ds : List D} {vs : List V}, RpL K G ds vs → EnvR K G (ds.map some ++ List.replicate n none) (vs.map some ++ List.replicate n none)
  | [], vs, h => by
    have h : vs = [] := by simpa only [RpL] using h
    subst h
    show EnvR K G (List.replicate n none) (List.replicate n none)
    induction n with
    | zero => rfl
    | succ n ih => exact ⟨none, _, rfl, trivial, ih⟩
  | d :: ds, vs, h => by
    obtain ⟨v, r, rfl, h1, h2⟩ := (by simpa only [RpL] using h : ∃ v r, vs = v :: r ∧ Rp K G d v ∧ RpL K G ds r)
    exact ⟨some v, _, rfl, h1, EnvR.start h2⟩
theorem RpL.length {K : PySem.W.Frag} {G : Hp} : ∀ {ds : List D} {vs : List V}, RpL K G ds vs → vs.length = ds.length
  | [], vs, h => by
    have h : vs = [] := by simpa only [RpL] using h
    subst h
    rfl
  | d :: ds, vs, h => by
    obtain ⟨v, r, rfl, _, h2⟩ := (by simpa only [RpL] using h : ∃ v r, vs = v :: r ∧ Rp K G d v ∧ RpL K G ds r)
    simp [RpL.length h2]
theorem RpL.nil {K : PySem.W.Frag} {G : Hp} : RpL K G [] [] := by simp only [RpL]
theorem RpL.cons {K : PySem.W.Frag} {G : Hp} {d : D} {v : V} {ds : List D} {vs : List V} (h : Rp K G d v) (t : RpL K G ds vs) : RpL K G (d :: ds) (v :: vs) := by
  simp only [RpL]; exact ⟨v, vs, rfl, h, t⟩
theorem RpL.cons_inv {K : PySem.W.Frag} {G : Hp} {d : D} {ds : List D} {vs : List V} (h : RpL K G (d :: ds) vs) : ∃ v r, vs = v :: r ∧ Rp K G d v ∧ RpL K G ds r := by simpa only [RpL] using h
theorem RpL.nil_inv {K : PySem.W.Frag} {G : Hp} {vs : List V} (h : RpL K G [] vs) : vs = [] := by simpa only [RpL] using h
theorem RpL.append {K : PySem.W.Frag} {G : Hp} : ∀ {xs : List D} {vs : List V} {ys : List D} {ws : List V}, RpL K G xs vs → RpL K G ys ws → RpL K G (xs ++ ys) (vs ++ ws)
  | [], _, _, _, h, h2 => by
    have e := h.nil_inv
    subst e
    exact h2
  | _ :: _, _, _, _, h, h2 => by
    obtain ⟨v, r, rfl, h1, h3⟩ := h.cons_inv
    exact RpL.cons h1 (RpL.append h3 h2)
theorem RpL.get {K : PySem.W.Frag} {G : Hp} : ∀ {xs : List D} {vs : List V} {i : Nat} {d : D}, RpL K G xs vs → xs[i]? = some d → ∃ v, vs[i]? = some v ∧ Rp K G d v
  | [], _, _, _, _, h => by simp at h
  | x :: xs, _, 0, d, h, e => by
    obtain ⟨v, r, rfl, h1, h3⟩ := h.cons_inv
    simp at e
    subst e
    exact ⟨v, rfl, h1⟩
  | x :: xs, _, i + 1, d, h, e => by
    obtain ⟨v, r, rfl, h1, h3⟩ := h.cons_inv
    obtain ⟨w, h4, h5⟩ := RpL.get (i := i) h3 (by simpa using e)
    exact ⟨w, by simpa using h4, h5⟩
theorem RpL.getV {K : PySem.W.Frag} {G : Hp} : ∀ {xs : List D} {vs : List V} {i : Nat} {v : V}, RpL K G xs vs → vs[i]? = some v → ∃ d, xs[i]? = some d ∧ Rp K G d v
  | [], _, _, _, h, e => by
    have h := h.nil_inv
    subst h
    simp at e
  | x :: xs, _, 0, v, h, e => by
    obtain ⟨w, r, rfl, h1, h3⟩ := h.cons_inv
    simp at e
    subst e
    exact ⟨x, rfl, h1⟩
  | x :: xs, _, i + 1, v, h, e => by
    obtain ⟨w, r, rfl, h1, h3⟩ := h.cons_inv
    obtain ⟨d, h4, h5⟩ := RpL.getV (i := i) h3 (by simpa using e)
    exact ⟨d, by simpa using h4, h5⟩
theorem RpL.take {K : PySem.W.Frag} {G : Hp} : ∀ {xs : List D} {vs : List V} (n : Nat), RpL K G xs vs → RpL K G (xs.take n) (vs.take n)
  | [], _, n, h => by
    have h := h.nil_inv
    subst h
    simpa using RpL.nil
  | x :: xs, _, 0, h => by simpa using RpL.nil
  | x :: xs, _, n + 1, h => by
    obtain ⟨v, r, rfl, h1, h3⟩ := h.cons_inv
    exact RpL.cons h1 (RpL.take n h3)
theorem RpL.drop {K : PySem.W.Frag} {G : Hp} : ∀ {xs : List D} {vs : List V} (n : Nat), RpL K G xs vs → RpL K G (xs.drop n) (vs.drop n)
  | [], _, n, h => by
    have h := h.nil_inv
    subst h
    simpa using RpL.nil
  | x :: xs, _, 0, h => h
  | x :: xs, _, n + 1, h => by
    obtain ⟨v, r, rfl, h1, h3⟩ := h.cons_inv
    exact RpL.drop n h3
theorem RpL.eraseIdx {K : PySem.W.Frag} {G : Hp} : ∀ {xs : List D} {vs : List V} (n : Nat), RpL K G xs vs → RpL K G (xs.eraseIdx n) (vs.eraseIdx n)
  | [], _, n, h => by
    have h := h.nil_inv
    subst h
    simpa using RpL.nil
  | x :: xs, _, 0, h => by
    obtain ⟨v, r, rfl, h1, h3⟩ := h.cons_inv
    exact h3
  | x :: xs, _, n + 1, h => by
    obtain ⟨v, r, rfl, h1, h3⟩ := h.cons_inv
    exact RpL.cons h1 (RpL.eraseIdx n h3)
theorem RpL.set {K : PySem.W.Frag} {G : Hp} {d : D} {w : V} (q : Rp K G d w) : ∀ {xs : List D} {vs : List V} (n : Nat), RpL K G xs vs → RpL K G (xs.set n d) (vs.set n w)
  | [], _, n, h => by
    have h := h.nil_inv
    subst h
    simpa using RpL.nil
  | x :: xs, _, 0, h => by
    obtain ⟨v, r, rfl, h1, h3⟩ := h.cons_inv
    exact RpL.cons q h3
  | x :: xs, _, n + 1, h => by
    obtain ⟨v, r, rfl, h1, h3⟩ := h.cons_inv
    exact RpL.cons h1 (RpL.set q n h3)
theorem RpL.dropLast {K : PySem.W.Frag} {G : Hp} : ∀ {xs : List D} {vs : List V}, RpL K G xs vs → RpL K G xs.dropLast vs.dropLast
  | [], _, h => by
    have h := h.nil_inv
    subst h
    exact RpL.nil
  | [x], _, h => by
    obtain ⟨v, r, rfl, h1, h3⟩ := h.cons_inv
    have h3 := h3.nil_inv
    subst h3
    exact RpL.nil
  | x :: y :: xs, _, h => by
    obtain ⟨v, r, rfl, h1, h3⟩ := h.cons_inv
    have h4 := h3
    obtain ⟨w, r', rfl, _, _⟩ := h3.cons_inv
    exact RpL.cons h1 (RpL.dropLast h4)
theorem RpL.isEmpty {K : PySem.W.Frag} {G : Hp} {xs : List D} {vs : List V} (h : RpL K G xs vs) : vs.isEmpty = xs.isEmpty := by
  have := h.length
  cases xs <;> cases vs <;> simp_all

/-- the contents of the mutable objects -/
abbrev Mst := Addr → Option D
def updM (M : Mst) (a : Addr) (d : D) : Mst := fun b => if b = a then some d else M b
def delM (M : Mst) (a : Addr) : Mst := fun b => if b = a then none else M b
theorem updM_same {M : Mst} {a : Addr} {d : D} : updM M a d a = some d := if_pos rfl
theorem updM_ne {M : Mst} {a b : Addr} {d : D} (h : b ≠ a) : updM M a d b = M b := if_neg h
theorem delM_same {M : Mst} {a : Addr} : delM M a a = none := if_pos rfl
theorem delM_ne {M : Mst} {a b : Addr} (h : b ≠ a) : delM M a b = M b := if_neg h
theorem updM_updM {M : Mst} {a : Addr} {d e : D} : updM (updM M a d) a e = updM M a e := by
  funext b; unfold updM; by_cases h : b = a <;> simp [h]
theorem updM_comm {M : Mst} {a b : Addr} {d e : D} (h : a ≠ b) : updM (updM M a d) b e = updM (updM M b e) a d := by
  funext c; unfold updM
  by_cases h1 : c = a
  · by_cases h2 : c = b
    · exact absurd (h1.symm.trans h2) h
    · subst h1; simp [h2]
  · by_cases h2 : c = b
    · simp [h2, Ne.symm h]
    · simp [h1, h2]
theorem delM_updM {M : Mst} {a : Addr} {d : D} : delM (updM M a d) a = delM M a := by
  funext b; unfold updM delM; by_cases h : b = a <;> simp [h]
theorem delM_none {M : Mst} {a : Addr} (h : M a = none) : delM M a = M := by
  funext b; unfold delM; split
  · rename_i e; rw [e, h]
  · rfl
theorem delM_comm {M : Mst} {a b : Addr} {d : D} (h : a ≠ b) : delM (updM M a d) b = updM (delM M b) a d := by
  funext c; unfold updM delM
  by_cases h1 : c = a
  · subst h1; simp [h]
  · by_cases h2 : c = b <;> simp [h1, h2, Ne.symm h]
theorem updM_self {M : Mst} {a : Addr} {d : D} (h : M a = some d) : updM M a d = M := by
  funext b; unfold updM; split
  · rename_i e; rw [e, h]
  · rfl

def MRp (K : PySem.W.Frag) (G : Hp) : D → Option HO → Prop
  | .lst ds, o => ∃ vs, o = some (.lst vs) ∧ RpL K G ds vs
  | .dct kvs, o => ∃ ws, o = some (.dK ws) ∧ RpK K G kvs ws
  | .dctT kvs, o => ∃ ws, o = some (.dT ws) ∧ RpT K G kvs ws
  | .obj C fs, o => ∃ dx ws, o = some (.ins C dx ws) ∧ RpF K G fs ws
  | .xo a C d, o => o = some (exo a C d)
  | .xf dx fs, o => ∃ ws, o = some (exd dx ws) ∧ RpF K G fs ws
  | _, _ => False
theorem MRp.mono {K : PySem.W.Frag} {G G' : Hp} (e : Le G G') : ∀ {d : D} {o : Option HO}, MRp K G d o → MRp K G' d o
  | .lst _, _, ⟨vs, h, h2⟩ => ⟨vs, h, RpL.mono e h2⟩
  | .dct _, _, ⟨vs, h, h2⟩ => ⟨vs, h, RpK.mono e h2⟩
  | .dctT _, _, ⟨vs, h, h2⟩ => ⟨vs, h, RpT.mono e h2⟩
  | .obj _ _, _, ⟨dx, vs, h, h2⟩ => ⟨dx, vs, h, RpF.mono e h2⟩
  | .xo _ _ _, _, h => h
  | .xf _ _, _, ⟨vs, h, h2⟩ => ⟨vs, h, RpF.mono e h2⟩
  | .non, _, h => h.elim
  | .bl _, _, h => h.elim
  | .int _, _, h => h.elim
  | .str _, _, h => h.elim
  | .tup _, _, h => h.elim
  | .raw _, _, h => h.elim
  | .own _, _, h => h.elim
  | .klst _, _, h => h.elim
theorem MRp.some {K : PySem.W.Frag} {G : Hp} : ∀ {d : D} {o : Option HO}, MRp K G d o → ∃ u, o = some u
  | .lst _, _, ⟨vs, h, h2⟩ => ⟨_, h⟩
  | .dct _, _, ⟨vs, h, h2⟩ => ⟨_, h⟩
  | .dctT _, _, ⟨vs, h, h2⟩ => ⟨_, h⟩
  | .obj _ _, _, ⟨dx, vs, h, h2⟩ => ⟨_, h⟩
  | .xo _ _ _, _, h => ⟨_, h⟩
  | .xf _ _, _, ⟨vs, h, h2⟩ => ⟨_, h⟩
  | .non, _, h => h.elim
  | .bl _, _, h => h.elim
  | .int _, _, h => h.elim
  | .str _, _, h => h.elim
  | .tup _, _, h => h.elim
  | .raw _, _, h => h.elim
  | .own _, _, h => h.elim
  | .klst _, _, h => h.elim

/-- kept as the heap grows -/
def Mono1 (F : Hp → Prop) : Prop := ∀ G G', Le G G' → F G → F G'
/-- .. and it tells what a raise needs -/
structure MonoF (Pm F : Hp → Prop) : Prop where
  m : Mono1 F
  p : ∀ G, F G → Pm G
abbrev PmT : Hp → Prop := fun _ => True
theorem Mono1.to {F : Hp → Prop} (m : Mono1 F) : MonoF PmT F := ⟨m, fun _ _ => trivial⟩
theorem MonoF.and {Pm F F' : Hp → Prop} (a : Mono1 F) (b : MonoF Pm F') : MonoF Pm (fun G => F G ∧ F' G) := ⟨fun _ _ e h => ⟨a _ _ e h.1, b.m _ _ e h.2⟩, fun _ h => b.p _ h.2⟩
theorem Mono1.and {Pm F F' : Hp → Prop} (a : Mono1 F) (b : MonoF Pm F') : MonoF Pm (fun G => F G ∧ F' G) := MonoF.and a b
theorem Mono1.and1 {F F' : Hp → Prop} (a : Mono1 F) (b : Mono1 F') : Mono1 (fun G => F G ∧ F' G) := fun _ _ e h => ⟨a _ _ e h.1, b _ _ e h.2⟩
theorem mono_rp {K : PySem.W.Frag} {d : D} {v : V} : Mono1 (fun G => Rp K G d v) := fun _ _ e h => Rp.mono e h
theorem mono_rpl {K : PySem.W.Frag} {d : List D} {v : List V} : Mono1 (fun G => RpL K G d v) := fun _ _ e h => RpL.mono e h
theorem mono_env {K : PySem.W.Frag} {ds : List (Option D)} {σ : St} : Mono1 (fun G => EnvR K G ds σ) := fun _ _ e h => EnvR.mono e h
theorem mono_true : Mono1 (fun _ => True) := fun _ _ _ h => h

/-- the state: a frozen part G below H, the mutable objects beside it, F of the frozen part -/
def Ok (K : PySem.W.Frag) (M : Mst) (F : Hp → Prop) (H : Hp) : Prop := ∃ G, Le G H ∧ (∀ a o, M a = some o → G a = none ∧ MRp K G o (H a)) ∧ F G
section
variable {K : PySem.W.Frag} {M : Mst} {F F' : Hp → Prop} {H : Hp}
theorem Ok.imp (h : Ok K M F H) (f : ∀ G, Le G H → F G → F' G) : Ok K M F' H := let ⟨G, a, b, c⟩ := h; ⟨G, a, b, f G a c⟩
/-- facts of H that hold at every frozen part -/
theorem Ok.use {P : Prop} (h : Ok K M F H) (f : ∀ G, Le G H → F G → P) : P := let ⟨G, a, _, c⟩ := h; f G a c
theorem Ok.free {a : Addr} (h : Ok K M F H) (e : H a = none) : M a = none := by
  obtain ⟨G, h1, h2, h3⟩ := h
  cases q : M a with
  | none => rfl
  | some o =>
    obtain ⟨u, hu⟩ := (h2 a o q).2.some
    rw [e] at hu
    cases hu
theorem Le.upd_none {G H : Hp} {p : Addr} {o : HO} (h : Le G H) (hp : G p = none) : Le G (upd H p o) := fun b u e => by
  have hb : b ≠ p := fun z => by
    rw [z, hp] at e
    cases e
  rw [upd_ne hb]
  exact h b u e
theorem Le.none {G H : Hp} {p : Addr} (h : Le G H) (hp : H p = none) : G p = none := by
  cases q : G p with
  | none => rfl
  | some u =>
    obtain ⟨o, e, _⟩ := h p u q
    rw [hp] at e
    cases e
theorem Le.both {G H : Hp} {p : Addr} {o : HO} (h : Le G H) : Le (upd G p o) (upd H p o) := fun b u e => by
  by_cases hb : b = p
  · subst hb
    rw [upd_same] at e ⊢
    exact ⟨_, rfl, by cases e; rfl⟩
  · rw [upd_ne hb] at e ⊢
    exact h b u e
/-- a new frozen object -/
theorem Ok.new {Pm : Hp → Prop} {p : Addr} {o : HO} (h : Ok K M F H) (mF : MonoF Pm F) (hp : H p = none) : Ok K M (fun G => G p = some o ∧ F G) (upd H p o) := by
  obtain ⟨G, h1, h2, h3⟩ := h
  have sG : Le G (upd G p o) := (Le.refl G).upd_none (h1.none hp)
  refine ⟨upd G p o, h1.both, fun a d e => ?_, upd_same, mF.m _ _ sG h3⟩
  obtain ⟨g1, g2⟩ := h2 a d e
  obtain ⟨u, hu⟩ := g2.some
  have ha : a ≠ p := fun z => by
    rw [z, hp] at hu
    cases hu
  rw [upd_ne ha, upd_ne ha]
  exact ⟨g1, g2.mono sG⟩
/-- a new mutable object -/
theorem Ok.newM {p : Addr} {o : HO} {d : D} (h : Ok K M F H) (hp : H p = none) (hd : ∀ G, Le G H → F G → MRp K G d (some o)) : Ok K (updM M p d) F (upd H p o) := by
  obtain ⟨G, h1, h2, h3⟩ := h
  have hGp : G p = none := h1.none hp
  refine ⟨G, h1.upd_none hGp, fun a d' e => ?_, h3⟩
  by_cases ha : a = p
  · subst ha
    rw [updM_same] at e
    cases e
    rw [upd_same]
    exact ⟨hGp, hd G h1 h3⟩
  · rw [updM_ne ha] at e
    rw [upd_ne ha]
    exact h2 a d' e
/-- a mutable object changes -/
theorem Ok.setM {p : Addr} {o : HO} {d old : D} (h : Ok K M F H) (hp : M p = some old) (hd : ∀ G, Le G H → F G → MRp K G old (H p) → MRp K G d (some o)) : Ok K (updM M p d) F (upd H p o) := by
  obtain ⟨G, h1, h2, h3⟩ := h
  obtain ⟨hGp, hold⟩ := h2 p old hp
  refine ⟨G, h1.upd_none hGp, fun a d' e => ?_, h3⟩
  by_cases ha : a = p
  · subst ha
    rw [updM_same] at e
    cases e
    rw [upd_same]
    exact ⟨hGp, hd G h1 h3 hold⟩
  · rw [updM_ne ha] at e
    rw [upd_ne ha]
    exact h2 a d' e
theorem Ok.getM {p : Addr} {d : D} (h : Ok K M F H) (hp : M p = some d) : Ok K M (fun G => MRp K G d (H p) ∧ F G) H := by
  obtain ⟨G, h1, h2, h3⟩ := h
  exact ⟨G, h1, h2, (h2 p d hp).2, h3⟩
/-- a mutable object is frozen: nobody changes it any more -/
theorem Ok.freeze {Pm : Hp → Prop} {p : Addr} {d : D} {o : HO} (h : Ok K M F H) (mF : MonoF Pm F) (hp : M p = some d) (ho : H p = some o) : Ok K (delM M p) (fun G => G p = some o ∧ MRp K G d (some o) ∧ F G) H := by
  obtain ⟨G, h1, h2, h3⟩ := h
  obtain ⟨hGp, hold⟩ := h2 p d hp
  have sG : Le G (upd G p o) := (Le.refl G).upd_none hGp
  refine ⟨upd G p o, fun b u e => ?_, fun a d' e => ?_, upd_same, (ho ▸ hold).mono sG, mF.m _ _ sG h3⟩
  · by_cases hb : b = p
    · subst hb
      rw [upd_same] at e
      cases e
      exact ⟨_, ho, rfl⟩
    · rw [upd_ne hb] at e
      exact h1 b u e
  · by_cases ha : a = p
    · subst ha
      rw [delM_same] at e
      cases e
    · rw [delM_ne ha] at e
      obtain ⟨g1, g2⟩ := h2 a d' e
      rw [upd_ne ha]
      exact ⟨g1, g2.mono sG⟩
end

/-! ### weakest readings -/
abbrev wE (X : Cx) (e : Expr) : TE := fun σ H Q => ∀ pins s, Inv X pins σ H s → wpAny (model X.prog X.w) X.A (eval e X.env) (EP X pins σ Q) X.xe s
abbrev wT (X : Cx) (e : Expr) : TT := fun σ H Q => ∀ pins s, Inv X pins σ H s → wpAny (model X.prog X.w) X.A (isTrue e X.env (eval e X.env)) (TP X pins σ Q) X.xe s
abbrev wW (X : Cx) (e : Expr) : TT := fun σ H Q => ∀ whole pins s, Inv X pins σ H s → wpAny (model X.prog X.w) X.A (isTrue e X.env whole) (TP X pins σ Q) X.xe s
abbrev wA (X : Cx) (es : List Expr) : TA := fun σ H Q => ∀ pos pins s, Inv X pins σ H s → wpAny (model X.prog X.w) X.A (spliced (backTo pos (starEach es X.env))) (AP X pins σ Q) X.xe s
abbrev wS (X : Cx) (st : Stmt) : TS := fun D σ H => ∀ pins s, Inv X pins σ H s → wpAny (model X.prog X.w) X.A (exec st X.env) (SP X pins D) X.xe s
abbrev wSs (X : Cx) (st : List Stmt) : TS := fun D σ H => ∀ pins s, Inv X pins σ H s → wpAny (model X.prog X.w) X.A (execs st X.env) (SP X pins D) X.xe s
abbrev wOp (X : Cx) (f : Value → Value → Sem Value) : R2 := fun x y H Q => ∀ pins s σ v u, Inv X pins σ H s → RelV x v → RelV y u → wpAny (model X.prog X.w) X.A (f v u) (EP X pins σ Q) X.xe s
abbrev wUn (X : Cx) (f : Value → Sem Value) : V → Hp → VK → Prop := fun x H Q => ∀ pins s σ v, Inv X pins σ H s → RelV x v → wpAny (model X.prog X.w) X.A (f v) (EP X pins σ Q) X.xe s
abbrev wCall (X : Cx) (f : Value) : List V → Hp → VK → Prop := fun xs H Q => ∀ pins s σ us, Inv X pins σ H s → Vals xs us → wpAny (model X.prog X.w) X.A (call f us) (EP X pins σ Q) X.xe s
abbrev wTru (X : Cx) : V → Hp → (Bool → Hp → Prop) → Prop := fun x H Q => ∀ pins s σ v, Inv X pins σ H s → RelV x v → wpAny (model X.prog X.w) X.A (truthy v) (TP X pins σ Q) X.xe s
theorem pe_w {X : Cx} {e : Expr} : PE X e (wE X e) := ⟨fun pins s σ H Q I h => h pins s I⟩
theorem pt_w {X : Cx} {e : Expr} : PT X e (wT X e) := ⟨fun pins s σ H Q I h => h pins s I⟩
theorem pw_w {X : Cx} {e : Expr} : PW X e (wW X e) := ⟨fun wh pins s σ H Q I h => h wh pins s I⟩
theorem pa_w {X : Cx} {e : List Expr} : PA X e (wA X e) := ⟨fun pos pins s σ H Q I h => h pos pins s I⟩
theorem ps_w {X : Cx} {e : Stmt} : PS X e (wS X e) := ⟨fun pins s σ H Q I h => h pins s I⟩
theorem pss_w {X : Cx} {e : List Stmt} : PSs X e (wSs X e) := ⟨fun pins s σ H Q I h => h pins s I⟩
theorem or_w {X : Cx} {f : Value → Value → Sem Value} : OpR X f (wOp X f) := fun pins s σ H x y v u Q I r1 r2 h => h pins s σ v u I r1 r2
theorem ur_w {X : Cx} {f : Value → Sem Value} : UnR X f (wUn X f) := fun pins s σ H x v Q I r1 h => h pins s σ v I r1
theorem cr_w {X : Cx} {f : Value} : CallR X f (wCall X f) := fun pins s σ H xs us Q I r1 h => h pins s σ us I r1
theorem tr_w {X : Cx} : TruR X (wTru X) := fun pins s σ H x v Q I r1 h => h pins s σ v I r1
section
variable {X : Cx} {Pm : Hp → Prop}
theorem wE_of {e : Expr} {t : TE} (h : PE X e t) {σ : St} {H : Hp} {Q : VK} (q : t σ H Q) : wE X e σ H Q := fun pins s I => h.run pins s σ H Q I q
theorem wT_of {e : Expr} {t : TT} (h : PT X e t) {σ : St} {H : Hp} {Q : Bool → Hp → Prop} (q : t σ H Q) : wT X e σ H Q := fun pins s I => h.run pins s σ H Q I q
theorem wW_of {e : Expr} {t : TT} (h : PW X e t) {σ : St} {H : Hp} {Q : Bool → Hp → Prop} (q : t σ H Q) : wW X e σ H Q := fun wh pins s I => h.run wh pins s σ H Q I q
theorem wA_of {e : List Expr} {t : TA} (h : PA X e t) {σ : St} {H : Hp} {Q : List V → Hp → Prop} (q : t σ H Q) : wA X e σ H Q := fun pos pins s I => h.run pos pins s σ H Q I q
theorem wS_of {e : Stmt} {t : TS} (h : PS X e t) {σ : St} {H : Hp} {D : Ends} (q : t D σ H) : wS X e D σ H := fun pins s I => h.run pins s σ H D I q
theorem wSs_of {e : List Stmt} {t : TS} (h : PSs X e t) {σ : St} {H : Hp} {D : Ends} (q : t D σ H) : wSs X e D σ H := fun pins s I => h.run pins s σ H D I q
theorem wOp_of {f : Value → Value → Sem Value} {r : R2} (h : OpR X f r) {x y : V} {H : Hp} {Q : VK} (q : r x y H Q) : wOp X f x y H Q := fun pins s σ v u I r1 r2 => h pins s σ H x y v u Q I r1 r2 q
theorem wUn_of {f : Value → Sem Value} {r : V → Hp → VK → Prop} (h : UnR X f r) {x : V} {H : Hp} {Q : VK} (q : r x H Q) : wUn X f x H Q := fun pins s σ v I r1 => h pins s σ H x v Q I r1 q
theorem wCall_of {f : Value} {r : List V → Hp → VK → Prop} (h : CallR X f r) {x : List V} {H : Hp} {Q : VK} (q : r x H Q) : wCall X f x H Q := fun pins s σ v I r1 => h pins s σ H x v Q I r1 q
theorem wTru_of {r : V → Hp → (Bool → Hp → Prop) → Prop} (h : TruR X r) {x : V} {H : Hp} {Q : Bool → Hp → Prop} (q : r x H Q) : wTru X x H Q := fun pins s σ v I r1 => h pins s σ H x v Q I r1 q
theorem wE_mono {e : Expr} {σ : St} {H : Hp} {Q Q' : VK} (h : wE X e σ H Q) (f : ∀ v H', Q v H' → Q' v H') : wE X e σ H Q' := fun pins s I =>
  thn (h pins s I) fun u s' ⟨v, H', a, b, c⟩ => ⟨v, H', a, b, f v H' c⟩
theorem wT_mono {e : Expr} {σ : St} {H : Hp} {Q Q' : Bool → Hp → Prop} (h : wT X e σ H Q) (f : ∀ v H', Q v H' → Q' v H') : wT X e σ H Q' := fun pins s I =>
  thn (h pins s I) fun u s' ⟨H', a, c⟩ => ⟨H', a, f u H' c⟩
theorem wW_mono {e : Expr} {σ : St} {H : Hp} {Q Q' : Bool → Hp → Prop} (h : wW X e σ H Q) (f : ∀ v H', Q v H' → Q' v H') : wW X e σ H Q' := fun wh pins s I =>
  thn (h wh pins s I) fun u s' ⟨H', a, c⟩ => ⟨H', a, f u H' c⟩
theorem wA_mono {e : List Expr} {σ : St} {H : Hp} {Q Q' : List V → Hp → Prop} (h : wA X e σ H Q) (f : ∀ v H', Q v H' → Q' v H') : wA X e σ H Q' := fun pos pins s I =>
  thn (h pos pins s I) fun u s' ⟨v, H', a, b, c⟩ => ⟨v, H', a, b, f v H' c⟩
theorem wOp_mono {f : Value → Value → Sem Value} {x y : V} {H : Hp} {Q Q' : VK} (h : wOp X f x y H Q) (g : ∀ v H', Q v H' → Q' v H') : wOp X f x y H Q' := fun pins s σ v u I r1 r2 =>
  thn (h pins s σ v u I r1 r2) fun u s' ⟨v, H', a, b, c⟩ => ⟨v, H', a, b, g v H' c⟩
theorem SP_mono {pins : List (Addr × Obj)} {D D' : Ends} {f : Flow} {s : Shared} (h : SP X pins D f s) (a : ∀ σ H, D.nx σ H → D'.nx σ H) (b : ∀ v H, D.rt v H → D'.rt v H) (c : ∀ σ H, D.bk σ H → D'.bk σ H) (d : ∀ σ H, D.ct σ H → D'.ct σ H) : SP X pins D' f s := by
  cases f with
  | next => obtain ⟨σ, H, i, q⟩ := h; exact ⟨σ, H, i, a _ _ q⟩
  | brk => obtain ⟨σ, H, i, q⟩ := h; exact ⟨σ, H, i, c _ _ q⟩
  | cont => obtain ⟨σ, H, i, q⟩ := h; exact ⟨σ, H, i, d _ _ q⟩
  | ret u => obtain ⟨v, σ, H, i, r, q⟩ := h; exact ⟨v, σ, H, i, r, b _ _ q⟩
theorem wS_mono {e : Stmt} {σ : St} {H : Hp} {D D' : Ends} (h : wS X e D σ H) (a : ∀ σ H, D.nx σ H → D'.nx σ H) (b : ∀ v H, D.rt v H → D'.rt v H) (c : ∀ σ H, D.bk σ H → D'.bk σ H) (d : ∀ σ H, D.ct σ H → D'.ct σ H) : wS X e D' σ H := fun pins s I =>
  thn (h pins s I) fun u s' q => SP_mono q a b c d
theorem wSs_mono {e : List Stmt} {σ : St} {H : Hp} {D D' : Ends} (h : wSs X e D σ H) (a : ∀ σ H, D.nx σ H → D'.nx σ H) (b : ∀ v H, D.rt v H → D'.rt v H) (c : ∀ σ H, D.bk σ H → D'.bk σ H) (d : ∀ σ H, D.ct σ H → D'.ct σ H) : wSs X e D' σ H := fun pins s I =>
  thn (h pins s I) fun u s' q => SP_mono q a b c d
end

/-! ### the judgements over data -/
abbrev QD := D → Mst → Prop
abbrev Ds := List (Option D)
/-- what a value's action leaves -/
def EndE (K : PySem.W.Frag) (F : Hp → Prop) (Q : QD) : VK := fun v H' => ∃ d M', Ok K M' (fun G => Rp K G d v ∧ F G) H' ∧ Q d M'
def EndT (K : PySem.W.Frag) (F : Hp → Prop) (Q : Bool → Mst → Prop) : Bool → Hp → Prop := fun b H' => ∃ M', Ok K M' F H' ∧ Q b M'
def EndA (K : PySem.W.Frag) (F : Hp → Prop) (Q : List D → Mst → Prop) : List V → Hp → Prop := fun vs H' => ∃ d M', Ok K M' (fun G => RpL K G d vs ∧ F G) H' ∧ Q d M'
/-- the expression e, at the state (M, ds): every way out is wanted by Q -/
def WE (Pm : Hp → Prop) (X : Cx) (e : Expr) (M : Mst) (ds : Ds) (Q : QD) : Prop :=
  ∀ σ H F, MonoF Pm F → Ok X.K M (fun G => EnvR X.K G ds σ ∧ F G) H → wE X e σ H (EndE X.K (fun G => EnvR X.K G ds σ ∧ F G) Q)
def WT (Pm : Hp → Prop) (X : Cx) (e : Expr) (M : Mst) (ds : Ds) (Q : Bool → Mst → Prop) : Prop :=
  ∀ σ H F, MonoF Pm F → Ok X.K M (fun G => EnvR X.K G ds σ ∧ F G) H → wT X e σ H (EndT X.K (fun G => EnvR X.K G ds σ ∧ F G) Q)
def WW (Pm : Hp → Prop) (X : Cx) (e : Expr) (M : Mst) (ds : Ds) (Q : Bool → Mst → Prop) : Prop :=
  ∀ σ H F, MonoF Pm F → Ok X.K M (fun G => EnvR X.K G ds σ ∧ F G) H → wW X e σ H (EndT X.K (fun G => EnvR X.K G ds σ ∧ F G) Q)
def WA (Pm : Hp → Prop) (X : Cx) (es : List Expr) (M : Mst) (ds : Ds) (Q : List D → Mst → Prop) : Prop :=
  ∀ σ H F, MonoF Pm F → Ok X.K M (fun G => EnvR X.K G ds σ ∧ F G) H → wA X es σ H (EndA X.K (fun G => EnvR X.K G ds σ ∧ F G) Q)
def BinG (Pm : Hp → Prop) (X : Cx) (f : Value → Value → Sem Value) (x y : D) (M : Mst) (Q : QD) : Prop :=
  ∀ v u H F, MonoF Pm F → Ok X.K M (fun G => Rp X.K G x v ∧ Rp X.K G y u ∧ F G) H → wOp X f v u H (EndE X.K F Q)
def UnG (Pm : Hp → Prop) (X : Cx) (f : Value → Sem Value) (x : D) (M : Mst) (Q : QD) : Prop :=
  ∀ v H F, MonoF Pm F → Ok X.K M (fun G => Rp X.K G x v ∧ F G) H → wUn X f v H (EndE X.K F Q)
def CallG (Pm : Hp → Prop) (X : Cx) (f : Value) (xs : List D) (M : Mst) (Q : QD) : Prop :=
  ∀ vs H F, MonoF Pm F → Ok X.K M (fun G => RpL X.K G xs vs ∧ F G) H → wCall X f vs H (EndE X.K F Q)
def TruG (Pm : Hp → Prop) (X : Cx) (x : D) (M : Mst) (Q : Bool → Mst → Prop) : Prop :=
  ∀ v H F, MonoF Pm F → Ok X.K M (fun G => Rp X.K G x v ∧ F G) H → wTru X v H (EndT X.K F Q)
structure EndD where
  nx : Ds → Mst → Prop
  rt : QD
  bk : Ds → Mst → Prop := fun _ _ => False
  ct : Ds → Mst → Prop := fun _ _ => False
def EndS (K : PySem.W.Frag) (F : Hp → Prop) (q : Ds → Mst → Prop) : St → Hp → Prop := fun σ' H' => ∃ ds' M', Ok K M' (fun G => EnvR K G ds' σ' ∧ F G) H' ∧ q ds' M'
def EndD.to (K : PySem.W.Frag) (F : Hp → Prop) (D : EndD) : Ends := { nx := EndS K F D.nx, rt := EndE K F D.rt, bk := EndS K F D.bk, ct := EndS K F D.ct }
def WS (Pm : Hp → Prop) (X : Cx) (st : Stmt) (M : Mst) (ds : Ds) (D : EndD) : Prop :=
  ∀ σ H F, MonoF Pm F → Ok X.K M (fun G => EnvR X.K G ds σ ∧ F G) H → wS X st (D.to X.K F) σ H
def WSs (Pm : Hp → Prop) (X : Cx) (st : List Stmt) (M : Mst) (ds : Ds) (D : EndD) : Prop :=
  ∀ σ H F, MonoF Pm F → Ok X.K M (fun G => EnvR X.K G ds σ ∧ F G) H → wSs X st (D.to X.K F) σ H
end DL

/-! set(xs) of a list of ints: the road of the tuple's rule, for a list -/
namespace DLs
open PySem PySem.Spec L2 PyProof.Rows
section
variable {P : Program} {w : World} {A : Around} {E : Value → Shared → Prop} {s : Shared}
/-- the empty set that set.__new__ lays -/
abbrev so (w : World) : Obj := { cls := .type "set", dict := none, data := .set #[] 0 (.fresh 0 0 (!w.params.followText "set-order")) }
theorem set_list {l : Addr} {items : Array Value} (ns : List Int) {Q : Value → Shared → Prop} (hh : A.handled = none) (hl : s.heap.IsList l items) (hit : IntsAre items.toList ns) (hb : ns.length + 1 < scanBound)
    (h : ∀ (h' : Heap) (tk c : Nat), SetR w h' s.heap.objs.size (fun j => decide (j ∈ ns)) c → c ≤ ns.length →
      (∀ b o, s.heap.get? b = some o → h'.get? b = some o) → Q (.ref s.heap.objs.size) { s with heap := h', toks := tk }) :
    wpAny (model P w) A (call (.type "set") [.ref l]) Q E s := by
  have hisz : items.size = ns.length := Array.length_toList (xs := items) ▸ IntsAre.length hit
  have ⟨_, _, hmro⟩ := F.called_set.mro
  have hmade := F.called_set.made; have hsub := F.called_set.sub
  refine wpAny_call (codeAny_of_tree ?_)
  change wpAny _ _ (callAny (.type "set") _) _ _ _
  refine wpAny_pure ⟨Code.quiet_builtin _ (by decide +kernel), codeAny_builtin F.entry_type_call ?_⟩
  rw [Around.under_plain (weight_type_call_type "set" [.ref l] []) rfl]
  have h1 := F.called_set.notType; have h2 := F.called_set.canCreate; have hct := F.typeCall_set_1 (.ref l)
  repeat (any_goals (first | assumption | wp_step))
  refine codeAny_mono (code_set_led1 (.ref l) (E := E) (Q₁ := fun obj s₁ => obj = .ref s.heap.objs.size ∧ s₁ = { s with heap := s.heap.push (so w) }) ⟨rfl, rfl⟩) fun r s₁ hr => ?_
  rcases r with e | fl
  · exact hr
  rcases fl with _ | _ | _ | obj
  any_goals exact hr.elim
  obtain ⟨rfl, rfl⟩ := hr
  have hS : (s.heap.push (so w)).get? s.heap.objs.size = some (so w) := Heap.get?_push_size _ rfl
  have hT : Shared.TypeIs { s with heap := s.heap.push (so w) } (.ref s.heap.objs.size) "set" := ⟨_, hS, rfl⟩
  have hli := F.called_set.init.lookup; have hbi := F.called_set.init.bind (.ref s.heap.objs.size)
  repeat (any_goals (first | assumption | wp_step))
  refine codeAny_mono (codeAny_call_builtin (R := wants (fun r s₂ => r = .none ∧ ∃ h' tk c, s₂ = { s with heap := h', toks := tk } ∧ SetR w h' s.heap.objs.size (fun j => decide (j ∈ ns)) c ∧ c ≤ ns.length ∧
    (∀ b o, s.heap.get? b = some o → h'.get? b = some o)) E) F.called_set.init.plain F.entry_set_init (check_set_init_1 hT ?_)) fun r₂ s₂ hr₂ => ?_
  · obtain ⟨ol, hol, hcl, nl, hdl⟩ := hl
    obtain ⟨ocls, odict, odata, oslots⟩ := ol
    simp only at hcl hdl
    subst hcl hdl
    have hl1 : (s.heap.push (so w)).IsList l items := ⟨_, Heap.get?_push_of_some _ hol, rfl, nl, rfl⟩
    have hol' := Heap.get?_push_of_some (so w) hol
    have hsls := F.sub_list_set; have hslf := F.sub_list_frozenset
    have hne : (Value.type "list" == Value.type "dict") = false := by decide
    unfold Builtin.«set.__init__» noKeywords Builtin.Frozenset.updateFrom
    generalize hPI : pyIter = PI
    wp_walk
    subst hPI
    refine wpAny_pyIter_list hl1 (wpAny_bind (wpAny_runValue ?_))
    have hlS : l < s.heap.objs.size := Heap.lt_size hol
    have hh3 : A.in1.in1.in1.handled = none := by simp [hh]
    have hz1 : (s.heap.push (so w)).objs.size = s.heap.objs.size + 1 := Heap.size_push ..
    have hneI : l ≠ (s.heap.push (so w)).objs.size := hz1 ▸ Nat.ne_of_lt (Nat.lt_succ_of_lt hlS)
    have hSf : s.heap.objs.size ∉ [(s.heap.push (so w)).objs.size, l] := by
      rw [hz1]
      simp only [List.mem_cons, List.not_mem_nil, or_false, not_or]
      exact ⟨Nat.ne_of_lt (Nat.lt_succ_self _), Nat.ne_of_gt hlS⟩
    have hval : ∀ (i : Nat) (v : Value), items[i]? = some v → ∃ k t, ns[i]? = some k ∧ v = .int k t := fun i v hv => by
      have hi : i < ns.length := hisz ▸ (Array.getElem?_eq_some_iff.mp hv).1
      obtain ⟨t, e⟩ := IntsAre.int_at hit i v (by rw [Array.getElem?_toList]; exact hv)
      exact ⟨ns[i], t, List.getElem?_eq_getElem hi, by rw [e, List.getD_eq_getElem?_getD, List.getElem?_eq_getElem hi]; rfl⟩
    refine set_update_ints ((Walks.list hh3 _ l hneI items).toS) s.heap.objs.size hSf ns hisz hb hval (items.size - 0) 0 _ (by omega) (Nat.zero_le _)
      ⟨⟨_, Heap.get?_push_size _ rfl, rfl, rfl⟩, hl1.push _⟩ ⟨0, Nat.le_refl 0, setR_new_at (Heap.get?_push_of_some _ hS)⟩ ?_
    intro s' c' hm hc' hS'
    obtain ⟨h', g2, d', tk', os'⟩ := s'
    obtain rfl : g2 = s.gens := hm.gens
    obtain rfl : d' = s.drawn := hm.drawn
    obtain rfl : os' = s.os := hm.os
    change wpAny _ _ _ _ _ _
    refine wpAny_pure ?_
    change wpAny _ _ (ret Value.none) _ _ _
    refine wpAny_pure ⟨rfl, h', tk', c', rfl, hS', hisz ▸ hc', fun b o e => ?_⟩
    have hb0 : b < s.heap.objs.size := Heap.lt_size e
    refine hm.heap b o ?_ (Heap.get?_push_of_some _ (Heap.get?_push_of_some _ e))
    simp only [List.mem_cons, List.not_mem_nil, or_false, not_or]
    exact ⟨Nat.ne_of_lt hb0, hz1 ▸ Nat.ne_of_lt (Nat.lt_succ_of_lt hb0)⟩
  · rcases r₂ with e | fl₂
    · exact hr₂
    rcases fl₂ with _ | _ | _ | r
    any_goals exact hr₂.elim
    obtain ⟨rfl, h', tk, c', rfl, hS', hc', hk'⟩ := hr₂
    repeat (any_goals (first | assumption | wp_step))
    exact h _ _ _ hS' hc' hk'
end
section
variable {X : Cx} {Pm : Hp → Prop}
def rSetL (K : PySem.W.Frag) (w : World) : List V → Hp → VK → Prop := fun xs H Q => ∃ (p : Addr) (ns : List Int), xs = [.ref p] ∧ SqL K H p (ns.map V.int) ∧ ns.length ≤ 4000 ∧
  ∀ q n, H q = none → n ≤ ns.length → Q (.ref q) (upd H q (SetO w q (fun j => decide (j ∈ ns)) n))
theorem cr_setL (hc : X.calm = true) : CallR X (.type "set") (rSetL X.K X.w) := by
  intro pins s σ H xs us Q I r h
  obtain ⟨p, ns, rfl, hq, hl, q⟩ := h
  rw [Vals.ref1 r]
  obtain ⟨its, rv, pl, hz⟩ := I.list hq
  refine set_list ns (I.ok.hd hc) pl.isList (intsAre_of rv) (by unfold scanBound; omega) fun h' tk c R hc' k => ?_
  exact ⟨.ref _, _, I.laid (t' := tk) k (Nat.le_refl _) (setO_new R), rfl, q _ c (I.hok.fresh (Nat.le_refl _)) hc'⟩
end
end DLs

/-! DL3: expressions over data -/
namespace DL
open PySem PySem.Spec L2
open PyProof.Rows hiding St
section
variable {X : Cx} {Pm : Hp → Prop} {M : Mst} {ds : Ds} {Q : QD} {pos : Pos} {a b c e : Expr}

theorem Rp.int_inv {K : PySem.W.Frag} {G : Hp} {i : Int} {v : V} (h : Rp K G (.int i) v) : v = .int i := by simpa only [Rp] using h
theorem Rp.str_inv {K : PySem.W.Frag} {G : Hp} {i : Str} {v : V} (h : Rp K G (.str i) v) : v = .str i := by simpa only [Rp] using h
theorem Rp.bl_inv {K : PySem.W.Frag} {G : Hp} {i : Bool} {v : V} (h : Rp K G (.bl i) v) : v = .bl i := by simpa only [Rp] using h
theorem Rp.non_inv {K : PySem.W.Frag} {G : Hp} {v : V} (h : Rp K G .non v) : v = .non := by simpa only [Rp] using h
theorem Rp.raw_inv {K : PySem.W.Frag} {G : Hp} {w v : V} (h : Rp K G (.raw w) v) : v = w := by simpa only [Rp] using h
theorem Rp.lst_inv {K : PySem.W.Frag} {G : Hp} {xs : List D} {v : V} (h : Rp K G (.lst xs) v) : ∃ a vs, v = .ref a ∧ G a = some (.lst vs) ∧ RpL K G xs vs := by simpa only [Rp] using h
theorem Rp.tup_inv {K : PySem.W.Frag} {G : Hp} {xs : List D} {v : V} (h : Rp K G (.tup xs) v) : ∃ a vs, v = .ref a ∧ SqT K G a vs ∧ RpL K G xs vs := by simpa only [Rp] using h
theorem Rp.dct_inv {K : PySem.W.Frag} {G : Hp} {xs : List (Key × D)} {v : V} (h : Rp K G (.dct xs) v) : ∃ a vs, v = .ref a ∧ DcK G a (.dK vs) ∧ RpK K G xs vs := by simpa only [Rp] using h
theorem Rp.obj_inv {K : PySem.W.Frag} {G : Hp} {C : Addr} {xs : List (Str × D)} {v : V} (h : Rp K G (.obj C xs) v) : ∃ a dx vs, v = .ref a ∧ G a = some (.ins C dx vs) ∧ RpF K G xs vs := by simpa only [Rp] using h
theorem Rp.klst_inv {K : PySem.W.Frag} {G : Hp} {xs : List D} {v : V} (h : Rp K G (.klst xs) v) : ∃ a vs, v = .ref a ∧ SqL K G a vs ∧ RpL K G xs vs := by simpa only [Rp] using h
theorem Rp.own_inv {K : PySem.W.Frag} {G : Hp} {P : Addr → HO → Prop} {v : V} (h : Rp K G (.own P) v) : ∃ a o, v = .ref a ∧ G a = some o ∧ Nd o ∧ P a o := by simpa only [Rp] using h
theorem rp_own {K : PySem.W.Frag} {G : Hp} {P : Addr → HO → Prop} {a : Addr} {o : HO} (h : G a = some o) (n : Nd o) (q : P a o) : Rp K G (.own P) (.ref a) := by simp only [Rp]; exact ⟨a, o, rfl, h, n, q⟩
theorem rp_int {K : PySem.W.Frag} {G : Hp} {i : Int} : Rp K G (.int i) (.int i) := by simp only [Rp]
theorem rp_str {K : PySem.W.Frag} {G : Hp} {i : Str} : Rp K G (.str i) (.str i) := by simp only [Rp]
theorem rp_bl {K : PySem.W.Frag} {G : Hp} {i : Bool} : Rp K G (.bl i) (.bl i) := by simp only [Rp]
theorem rp_non {K : PySem.W.Frag} {G : Hp} : Rp K G .non .non := by simp only [Rp]
theorem rp_raw {K : PySem.W.Frag} {G : Hp} {w : V} : Rp K G (.raw w) w := by simp only [Rp]
theorem rp_lst {K : PySem.W.Frag} {G : Hp} {xs : List D} {p : Addr} {vs : List V} (h : G p = some (.lst vs)) (r : RpL K G xs vs) : Rp K G (.lst xs) (.ref p) := by simp only [Rp]; exact ⟨p, vs, rfl, h, r⟩
theorem rp_tup {K : PySem.W.Frag} {G : Hp} {xs : List D} {p : Addr} {vs : List V} (h : SqT K G p vs) (r : RpL K G xs vs) : Rp K G (.tup xs) (.ref p) := by simp only [Rp]; exact ⟨p, vs, rfl, h, r⟩
theorem rp_obj {K : PySem.W.Frag} {G : Hp} {C : Addr} {xs : List (Str × D)} {p dx : Addr} {vs : List (Str × V)} (h : G p = some (.ins C dx vs)) (r : RpF K G xs vs) : Rp K G (.obj C xs) (.ref p) := by simp only [Rp]; exact ⟨p, dx, vs, rfl, h, r⟩
theorem rp_dct {K : PySem.W.Frag} {G : Hp} {xs : List (Key × D)} {p : Addr} {vs : List (Key × V)} (h : DcK G p (.dK vs)) (r : RpK K G xs vs) : Rp K G (.dct xs) (.ref p) := by simp only [Rp]; exact ⟨p, vs, rfl, h, r⟩

/-! ### names, constants -/
theorem we_var (i : Nat) {x : Str} {d : D} (hN : X.N[i]? = some x) (hd : ds[i]? = some (some d)) (q : Q d M) (hv : Vis X.env.scope x := by first | exact Or.inl rfl | exact Or.inr (Or.inl rfl) | exact Or.inr (Or.inr rfl))
    (h1 : (x == ("__debug__" : Str)) = false := by decide) (h2 : (x == ("__classdict__" : Str)) = false := by decide) : WE Pm X (.Name x pos) M ds Q := by
  intro σ H F mF ok
  obtain ⟨v, hv'⟩ : ∃ v, σ[i]? = some (some v) := ok.use fun G _ h => let ⟨v, a, _⟩ := h.1.get hd; ⟨v, a⟩
  refine wE_of (pe_var hN hv h1 h2) ⟨v, hv', d, M, ok.imp fun G _ h => ⟨?_, h⟩, q⟩
  obtain ⟨w, e1, e2⟩ := h.1.get hd
  rw [hv'] at e1
  cases e1
  exact e2
theorem we_const {v : V} {d : D} (h : PE X e (tC v)) (hd : ∀ G, Rp X.K G d v) (q : Q d M) : WE Pm X e M ds Q :=
  fun σ H F mF ok => wE_of h ⟨d, M, ok.imp fun G _ h => ⟨hd G, h⟩, q⟩
theorem we_int {i : Int} {j : Nat} (q : Q (.int i) M) : WE Pm X (.Constant (.int i) j pos) M ds Q := we_const pe_int (fun _ => rp_int) q
theorem we_bl {i : Bool} {j : Nat} (q : Q (.bl i) M) : WE Pm X (.Constant (.bool i) j pos) M ds Q := we_const pe_bl (fun _ => rp_bl) q
theorem we_non {j : Nat} (q : Q .non M) : WE Pm X (.Constant .none j pos) M ds Q := we_const pe_non (fun _ => rp_non) q
theorem we_str {i : Str} {j : Nat} (q : Q (.str i) M) : WE Pm X (.Constant (.str i) j pos) M ds Q := we_const pe_str (fun _ => rp_str) q
/-- a name of the module: a class, a def, a constant -/
theorem we_glob {x : Str} {u : Value} {v : V} {d : D} (hm : X.mg x = some u) (r : RelV v u) (hd : ∀ G, Rp X.K G d v) (q : Q d M) (hg : Gl X x := by rfl) (h1 : (x == ("__debug__" : Str)) = false := by decide) : WE Pm X (.Name x pos) M ds Q :=
  we_const (pe_glob hg hm r h1) hd q
/-- a built-in's name as a value -/
theorem we_bltn {x : Str} {u : Value} {v : V} {d : D} (hm : X.mg x = none) (hv : bootBuiltins x = some u) (r : RelV v u) (hd : ∀ G, Rp X.K G d v) (q : Q d M) (hg : Gl X x := by rfl) (h0 : x ≠ "__name__" := by decide) (h1 : (x == ("__debug__" : Str)) = false := by decide) : WE Pm X (.Name x pos) M ds Q :=
  we_const (pe_bltn hg hm hv r h0 h1) hd q

/-! ### operators -/
theorem mono_x {Pm : Hp → Prop} {K : PySem.W.Frag} {ds : Ds} {σ : L2.St} {F : Hp → Prop} (mF : MonoF Pm F) : MonoF Pm (fun G => EnvR K G ds σ ∧ F G) := MonoF.and mono_env mF
theorem ok_swap {K : PySem.W.Frag} {M : Mst} {H : Hp} {A B C : Hp → Prop} (h : Ok K M (fun G => A G ∧ B G ∧ C G) H) : Ok K M (fun G => B G ∧ A G ∧ C G) H := h.imp fun _ _ ⟨a, b, c⟩ => ⟨b, a, c⟩
theorem endE_swap {K : PySem.W.Frag} {A B : Hp → Prop} {Q : QD} {v : V} {H : Hp} (h : EndE K (fun G => A G ∧ B G) Q v H) : EndE K (fun G => B G ∧ A G) Q v H :=
  let ⟨d, M, o, q⟩ := h; ⟨d, M, o.imp fun _ _ ⟨x, y, z⟩ => ⟨x, z, y⟩, q⟩
theorem endE_imp {K : PySem.W.Frag} {A B : Hp → Prop} {Q Q' : QD} {v : V} {H : Hp} (h : EndE K A Q v H) (f : ∀ G, A G → B G) (g : ∀ d M, Q d M → Q' d M) : EndE K B Q' v H :=
  let ⟨d, M, o, q⟩ := h; ⟨d, M, o.imp fun _ _ ⟨x, y⟩ => ⟨x, f _ y⟩, g _ _ q⟩
/-- two expressions in a row, then an action on both values -/
theorem run2 {σ : L2.St} {H : Hp} {F : Hp → Prop} {R : V → V → Hp → Prop} (mF : MonoF Pm F) (ok : Ok X.K M (fun G => EnvR X.K G ds σ ∧ F G) H) {P : D → D → Mst → Prop}
    (h : WE Pm X a M ds fun x M1 => WE Pm X b M1 ds fun y M2 => P x y M2)
    (f : ∀ v u H' x y M', Ok X.K M' (fun G => Rp X.K G x v ∧ Rp X.K G y u ∧ EnvR X.K G ds σ ∧ F G) H' → P x y M' → R v u H') :
    wE X a σ H fun v H1 => wE X b σ H1 fun u H2 => R v u H2 := by
  refine wE_mono (h σ H F mF ok) fun v H1 ⟨x, M1, ok1, hb⟩ => ?_
  refine wE_mono (hb σ H1 (fun G => Rp X.K G x v ∧ F G) (MonoF.and mono_rp mF) (ok1.imp fun _ _ ⟨p, q, r⟩ => ⟨q, p, r⟩)) fun u H2 ⟨y, M2, ok2, hp⟩ => ?_
  exact f v u H2 x y M2 (ok2.imp fun _ _ ⟨p, q, r, s⟩ => ⟨r, p, q, s⟩) hp
theorem we_bin {op : Operator} (h : WE Pm X a M ds fun x M1 => WE Pm X b M1 ds fun y M2 => BinG Pm X (binaryOp op) x y M2 Q) : WE Pm X (.BinOp a op b pos) M ds Q := by
  intro σ H F mF ok
  refine wE_of (pe_op or_w pe_w pe_w) ?_
  refine run2 mF ok h fun v u H' x y M' ok' q => ?_
  exact wOp_mono (q v u H' _ (mono_x mF) ok') fun _ _ z => z
theorem we_cmp {op : CmpOp} (h : WE Pm X a M ds fun x M1 => WE Pm X b M1 ds fun y M2 => BinG Pm X (compareOp op) x y M2 Q) (hm : behindInMarks op b = false := by first | exact nobehind _ (by decide) (by decide) | rfl | with_unfolding_all rfl) : WE Pm X (.Compare a [op] [b] pos) M ds Q := by
  intro σ H F mF ok
  refine wE_of (pe_cmpR or_w pe_w pe_w hm) ?_
  refine run2 mF ok h fun v u H' x y M' ok' q => ?_
  exact wOp_mono (q v u H' _ (mono_x mF) ok') fun _ _ z => z
theorem wt_cmp {op : CmpOp} {Q : Bool → Mst → Prop} (h : WE Pm X a M ds fun x M1 => WE Pm X b M1 ds fun y M2 => BinG Pm X (compareOp op) x y M2 fun d M3 => ∃ k, d = .bl k ∧ Q k M3) (hm : behindInMarks op b = false := by first | exact nobehind _ (by decide) (by decide) | rfl | with_unfolding_all rfl) : WT Pm X (.Compare a [op] [b] pos) M ds Q := by
  intro σ H F mF ok
  refine wT_of (pt_cmpR or_w pe_w pe_w hm) ?_
  refine run2 mF ok h fun v u H' x y M' ok' q => ?_
  refine wOp_mono (q v u H' _ (mono_x mF) ok') fun w H2 ⟨d, M2, o2, k, e, q2⟩ => ?_
  subst e
  obtain rfl : w = .bl k := o2.use fun _ _ h => h.1.bl_inv
  exact ⟨k, rfl, M2, o2.imp fun _ _ h => h.2, q2⟩
/-- a op1 b op2 c -/
theorem wt_chain {op op' : CmpOp} {Q : Bool → Mst → Prop} (h : WE Pm X a M ds fun x M1 => WE Pm X b M1 ds fun y M2 => BinG Pm X (compareOp op) x y M2 fun d M3 => ∃ k, d = .bl k ∧
      (k = true → WE Pm X c M3 ds fun z M4 => BinG Pm X (compareOp op') y z M4 fun d M5 => ∃ k, d = .bl k ∧ Q k M5) ∧ (k = false → Q false M3))
    (hm : lastMarks [op, op'] [b, c] = false := by with_unfolding_all rfl) : WT Pm X (.Compare a [op, op'] [b, c] pos) M ds Q := by
  intro σ H F mF ok
  refine wT_of (pt_chain or_w or_w pe_w pe_w pe_w hm) ?_
  refine run2 mF ok h fun v u H' x y M' ok' q => ?_
  refine wOp_mono (q v u H' (fun G => Rp X.K G y u ∧ EnvR X.K G ds σ ∧ F G) (MonoF.and mono_rp (mono_x mF)) (ok'.imp fun _ _ ⟨p, q, r⟩ => ⟨p, q, q, r⟩)) fun w H2 ⟨d, M2, o2, k, e, q1, q2⟩ => ?_
  subst e
  obtain rfl : w = .bl k := o2.use fun _ _ h => h.1.bl_inv
  refine ⟨k, rfl, ?_⟩
  cases k with
  | false => exact iteF ⟨false, rfl, M2, o2.imp fun _ _ h => h.2.2, q2 rfl⟩
  | true =>
    refine iteT ?_
    refine wE_mono (q1 rfl σ H2 (fun G => Rp X.K G y u ∧ F G) (MonoF.and mono_rp mF) (o2.imp fun _ _ h => ⟨h.2.2.1, h.2.1, h.2.2.2⟩)) fun t H3 ⟨z, M3, o3, q3⟩ => ?_
    refine wOp_mono (q3 u t H3 _ (mono_x mF) (o3.imp fun _ _ h => ⟨h.2.2.1, h.1, h.2.1, h.2.2.2⟩)) fun s H4 ⟨d, M4, o4, k, e, q4⟩ => ?_
    subst e
    obtain rfl : s = .bl k := o4.use fun _ _ h => h.1.bl_inv
    exact ⟨k, rfl, M4, o4.imp fun _ _ h => h.2, q4⟩
theorem we_un {op : UnaryOp} (h : WE Pm X a M ds fun x M1 => UnG Pm X (unaryOp op) x M1 Q) : WE Pm X (.UnaryOp op a pos) M ds Q := by
  intro σ H F mF ok
  refine wE_of (pe_un ur_w pe_w) ?_
  refine wE_mono (h σ H F mF ok) fun v H1 ⟨x, M1, o1, q⟩ => ?_
  exact q v H1 _ (mono_x mF) o1

/-! ### truth, and, or, not, if -/
theorem wt_truth {Q : Bool → Mst → Prop} (h : WE Pm X a M ds fun x M1 => TruG Pm X x M1 Q) (he : ∀ whole, isTrue a X.env whole = (do let v ← whole; standAt a.pos; holding [v] (truthy v)) := by intro _; rfl) : WT Pm X a M ds Q := by
  intro σ H F mF ok
  refine wT_of (pt_truthR pe_w tr_w he) ?_
  refine wE_mono (h σ H F mF ok) fun v H1 ⟨x, M1, o1, q⟩ => ?_
  exact q v H1 _ (mono_x mF) o1
theorem wt_not {Q : Bool → Mst → Prop} (h : WT Pm X a M ds fun k M1 => Q (!k) M1) : WT Pm X (.UnaryOp .Not a pos) M ds Q := by
  intro σ H F mF ok
  refine wT_of (pt_not pt_w) ?_
  exact wT_mono (h σ H F mF ok) fun k H1 ⟨M1, o1, q⟩ => ⟨M1, o1, q⟩
theorem wt_w {Q : Bool → Mst → Prop} (h : WW Pm X a M ds Q) : WT Pm X a M ds Q := fun σ H F mF ok => wT_of pw_w.pt (h σ H F mF ok)
theorem ww_and1 {Q : Bool → Mst → Prop} (h : WT Pm X a M ds Q) : WW Pm X (.BoolOp .And [a] pos) M ds Q := fun σ H F mF ok => wW_of (pw_and1 pt_w) (h σ H F mF ok)
theorem ww_or1 {Q : Bool → Mst → Prop} (h : WT Pm X a M ds Q) : WW Pm X (.BoolOp .Or [a] pos) M ds Q := fun σ H F mF ok => wW_of (pw_or1 pt_w) (h σ H F mF ok)
theorem ww_and {r : List Expr} {Q : Bool → Mst → Prop} (h : WT Pm X a M ds fun k M1 => (k = true → WW Pm X (.BoolOp .And (b :: r) pos) M1 ds Q) ∧ (k = false → Q false M1)) : WW Pm X (.BoolOp .And (a :: b :: r) pos) M ds Q := by
  intro σ H F mF ok
  refine wW_of (pw_and pt_w pw_w) ?_
  refine wT_mono (h σ H F mF ok) fun k H1 ⟨M1, o1, q1, q2⟩ => ?_
  cases k with
  | true => exact iteT (q1 rfl σ H1 F mF o1)
  | false => exact iteF ⟨M1, o1, q2 rfl⟩
theorem ww_or {r : List Expr} {Q : Bool → Mst → Prop} (h : WT Pm X a M ds fun k M1 => (k = true → Q true M1) ∧ (k = false → WW Pm X (.BoolOp .Or (b :: r) pos) M1 ds Q)) : WW Pm X (.BoolOp .Or (a :: b :: r) pos) M ds Q := by
  intro σ H F mF ok
  refine wW_of (pw_or pt_w pw_w) ?_
  refine wT_mono (h σ H F mF ok) fun k H1 ⟨M1, o1, q1, q2⟩ => ?_
  cases k with
  | true => exact iteT ⟨M1, o1, q1 rfl⟩
  | false => exact iteF (q2 rfl σ H1 F mF o1)
theorem we_ifx (h : WT Pm X c M ds fun k M1 => (k = true → WE Pm X a M1 ds Q) ∧ (k = false → WE Pm X b M1 ds Q)) : WE Pm X (.IfExp c a b pos) M ds Q := by
  intro σ H F mF ok
  refine wE_of (pe_ifExp pt_w pe_w pe_w) ?_
  refine wT_mono (h σ H F mF ok) fun k H1 ⟨M1, o1, q1, q2⟩ => ?_
  cases k with
  | true => exact iteT (q1 rfl σ H1 F mF o1)
  | false => exact iteF (q2 rfl σ H1 F mF o1)
/-- a truth that TruV tells -/
def truD : D → Option Bool
  | .non => some false
  | .bl k => some k
  | .int i => some (i != 0)
  | .lst xs => some (!xs.isEmpty)
  | .tup xs => some (!xs.isEmpty)
  | _ => none
theorem truV_of {K : PySem.W.Frag} {G H : Hp} (s : Le G H) : ∀ {x : D} {v : V} {k : Bool}, Rp K G x v → truD x = some k → TruV K v H k
  | .non, v, k, r, h => by cases r.non_inv; cases h; rfl
  | .bl k, v, _, r, h => by cases r.bl_inv; cases h; rfl
  | .int i, v, k, r, h => by cases r.int_inv; cases h; rfl
  | .lst xs, v, k, r, h => by
    obtain ⟨p, vs, rfl, h1, h2⟩ := r.lst_inv
    cases h
    exact .inl ⟨vs, SqL.of (s.at h1), by rw [h2.isEmpty]⟩
  | .tup xs, v, k, r, h => by
    obtain ⟨p, vs, rfl, h1, h2⟩ := r.tup_inv
    cases h
    exact .inr (.inl ⟨vs, sqt_mono s h1, by rw [h2.isEmpty]⟩)
  | .str _, _, _, _, h => by cases h
  | .dct _, _, _, _, h => by cases h
  | .dctT _, _, _, _, h => by cases h
  | .obj _ _, _, _, _, h => by cases h
  | .raw _, _, _, _, h => by cases h
  | .own _, _, _, _, h => by cases h
  | .xo _ _ _, _, _, _, h => by cases h
  | .xf _ _, _, _, _, h => by cases h
  | .klst _, _, _, _, h => by cases h
theorem tru_is {x : D} {k : Bool} {Q : Bool → Mst → Prop} (h : truD x = some k) (q : Q k M) : TruG Pm X x M Q := by
  intro v H F mF ok
  refine wTru_of tru_ok ⟨k, ok.use fun G s z => truV_of s z.1 h, M, ok.imp fun _ _ z => z.2, q⟩
/-- a mutable list's truth -/
theorem tru_mlst {p : Addr} {xs : List D} {Q : Bool → Mst → Prop} (h : M p = some (.lst xs)) (q : Q (!xs.isEmpty) M) : TruG Pm X (.raw (.ref p)) M Q := by
  intro v H F mF ok
  obtain rfl : v = .ref p := ok.use fun _ _ z => z.1.raw_inv
  obtain ⟨vs, h1, h2⟩ := (ok.getM h).use fun G _ z => (let ⟨vs, a, b⟩ := z.1; (⟨vs, a, b.isEmpty⟩ : ∃ vs : List V, H p = some (HO.lst vs) ∧ vs.isEmpty = xs.isEmpty))
  exact wTru_of tru_ok ⟨!xs.isEmpty, .inl ⟨vs, SqL.of h1, by rw [h2]⟩, M, ok.imp fun _ _ z => z.2, q⟩
theorem we_andT {r : List Expr} (h : WE Pm X a M ds fun x M1 => TruG Pm X x M1 fun k M2 => (k = true → WE Pm X (.BoolOp .And (b :: r) pos) M2 ds Q) ∧ (k = false → Q x M2)) : WE Pm X (.BoolOp .And (a :: b :: r) pos) M ds Q := by
  intro σ H F mF ok pins s I
  refine BoolOp_and (thn (h σ H F mF ok pins s I) fun v s1 ⟨x, H1, I1, r1, d, M1, o1, q1⟩ => ?_)
  refine thn (q1 x H1 (fun G => Rp X.K G d x ∧ EnvR X.K G ds σ ∧ F G) (MonoF.and mono_rp (mono_x mF)) (o1.imp fun _ _ z => ⟨z.1, z⟩) pins s1 σ v I1 r1) fun k s2 ⟨H2, I2, M2, o2, q2, q3⟩ => ?_
  cases k with
  | true => exact q2 rfl σ H2 F mF (o2.imp fun _ _ z => z.2) pins s2 I2
  | false => exact ⟨x, H2, I2, r1, d, M2, o2, q3 rfl⟩
theorem we_orT {r : List Expr} (h : WE Pm X a M ds fun x M1 => TruG Pm X x M1 fun k M2 => (k = true → Q x M2) ∧ (k = false → WE Pm X (.BoolOp .Or (b :: r) pos) M2 ds Q)) : WE Pm X (.BoolOp .Or (a :: b :: r) pos) M ds Q := by
  intro σ H F mF ok pins s I
  refine BoolOp_or (thn (h σ H F mF ok pins s I) fun v s1 ⟨x, H1, I1, r1, d, M1, o1, q1⟩ => ?_)
  refine thn (q1 x H1 (fun G => Rp X.K G d x ∧ EnvR X.K G ds σ ∧ F G) (MonoF.and mono_rp (mono_x mF)) (o1.imp fun _ _ z => ⟨z.1, z⟩) pins s1 σ v I1 r1) fun k s2 ⟨H2, I2, M2, o2, q2, q3⟩ => ?_
  cases k with
  | false => exact q3 rfl σ H2 F mF (o2.imp fun _ _ z => z.2) pins s2 I2
  | true => exact ⟨x, H2, I2, r1, d, M2, o2, q2 rfl⟩
theorem we_one {op : BoolOp} (h : WE Pm X a M ds Q) : WE Pm X (.BoolOp op [a] pos) M ds Q := fun σ H F mF ok => wE_of (pe_one pe_w) (h σ H F mF ok)
theorem we_notT (h : WE Pm X a M ds fun x M1 => TruG Pm X x M1 fun k M2 => Q (.bl (!k)) M2) : WE Pm X (.UnaryOp .Not a pos) M ds Q := by
  intro σ H F mF ok pins s I
  refine UnaryOp_ (thn (h σ H F mF ok pins s I) fun v s1 ⟨x, H1, I1, r1, d, M1, o1, q1⟩ => ?_)
  refine not_of ?_
  refine thn (q1 x H1 _ (mono_x mF) o1 pins s1 σ v I1 r1) fun k s2 ⟨H2, I2, M2, o2, q2⟩ => ?_
  exact ⟨.bl (!k), H2, I2, rfl, .bl (!k), M2, o2.imp fun _ _ z => ⟨rp_bl, z⟩, q2⟩

/-! ### argument lists, displays -/
theorem wa_nil {Q : List D → Mst → Prop} (q : Q [] M) : WA Pm X [] M ds Q := fun σ H F mF ok => wA_of pa_nil ⟨[], M, ok.imp fun _ _ z => ⟨RpL.nil, z⟩, q⟩
theorem wa_cons {es : List Expr} {Q : List D → Mst → Prop} (h : WE Pm X e M ds fun x M1 => WA Pm X es M1 ds fun xs M2 => Q (x :: xs) M2) (hs : starEach (e :: es) X.env = (false, eval e X.env) :: starEach es X.env := by rfl) : WA Pm X (e :: es) M ds Q := by
  intro σ H F mF ok
  refine wA_of (pa_cons pe_w pa_w hs) ?_
  refine wE_mono (h σ H F mF ok) fun v H1 ⟨x, M1, o1, q1⟩ => ?_
  refine wA_mono (q1 σ H1 (fun G => Rp X.K G x v ∧ F G) (MonoF.and mono_rp mF) (o1.imp fun _ _ z => ⟨z.2.1, z.1, z.2.2⟩)) fun vs H2 ⟨xs, M2, o2, q2⟩ => ?_
  exact ⟨x :: xs, M2, o2.imp fun _ _ z => ⟨RpL.cons z.2.2.1 z.1, z.2.1, z.2.2.2⟩, q2⟩
theorem we_tup {es : List Expr} {x1} (h : WA Pm X es M ds fun xs M1 => xs.length ≤ sizeLine ∧ Q (.tup xs) M1) : WE Pm X (.Tuple es x1 pos) M ds Q := by
  intro σ H F mF ok
  refine wE_of (pe_tup pa_w) ?_
  refine wA_mono (h σ H F mF ok) fun vs H1 ⟨xs, M1, o1, hz, q1⟩ => ?_
  have hl : vs.length = xs.length := o1.use fun _ _ z => z.1.length
  refine ⟨by rw [hl]; exact hz, fun p hp => ?_⟩
  exact ⟨.tup xs, M1, (o1.new (o := .tup vs) (MonoF.and mono_rpl (mono_x mF)) hp).imp fun _ _ z => ⟨rp_tup (SqT.of z.1) z.2.1, z.2.2⟩, q1⟩
theorem we_lst {es : List Expr} (h : WA Pm X es M ds fun xs M1 => xs.length ≤ sizeLine ∧ Q (.lst xs) M1) : WE Pm X (.List es pos) M ds Q := by
  intro σ H F mF ok
  refine wE_of (pe_lst pa_w) ?_
  refine wA_mono (h σ H F mF ok) fun vs H1 ⟨xs, M1, o1, hz, q1⟩ => ?_
  have hl : vs.length = xs.length := o1.use fun _ _ z => z.1.length
  refine ⟨by rw [hl]; exact hz, fun p hp => ?_⟩
  exact ⟨.lst xs, M1, (o1.new (o := .lst vs) (MonoF.and mono_rpl (mono_x mF)) hp).imp fun _ _ z => ⟨rp_lst z.1 z.2.1, z.2.2⟩, q1⟩
/-- a list that will be changed -/
theorem we_lstM {es : List Expr} (h : WA Pm X es M ds fun xs M1 => xs.length ≤ sizeLine ∧ ∀ p, M1 p = none → Q (.raw (.ref p)) (updM M1 p (.lst xs))) : WE Pm X (.List es pos) M ds Q := by
  intro σ H F mF ok
  refine wE_of (pe_lst pa_w) ?_
  refine wA_mono (h σ H F mF ok) fun vs H1 ⟨xs, M1, o1, hz, q1⟩ => ?_
  have hl : vs.length = xs.length := o1.use fun _ _ z => z.1.length
  refine ⟨by rw [hl]; exact hz, fun p hp => ?_⟩
  exact ⟨_, _, (o1.newM (o := .lst vs) (d := .lst xs) hp fun G s z => ⟨vs, rfl, z.1⟩).imp fun _ _ z => ⟨rp_raw, z.2⟩, q1 p (o1.free hp)⟩
theorem we_dictM (q : ∀ p, M p = none → Q (.raw (.ref p)) (updM M p (.dct []))) : WE Pm X (.Dict [] [] pos) M ds Q := by
  intro σ H F mF ok
  refine wE_of pe_dnewK fun p hp => ?_
  exact ⟨_, _, (ok.newM (o := .dK []) (d := .dct []) hp fun G s z => ⟨[], rfl, by simp only [RpK]⟩).imp fun _ _ z => ⟨rp_raw, z⟩, q p (ok.free hp)⟩

/-! ### calls of built-ins -/
theorem we_callB {x : Str} {p : Pos} {es : List Expr} {id : String} (h : WA Pm X (e :: es) M ds fun xs M1 => CallG Pm X (.builtin id) xs M1 Q) (hm : X.mg x = none) (hv : bootBuiltins x = some (.builtin id)) (hg : Gl X x := by rfl) (hn : x ≠ "__name__" := by decide) (hdb : (x == ("__debug__" : Str)) = false := by decide)
    (he : starEach (e :: es) X.env = (false, eval e X.env) :: starEach es X.env := by rfl) (hpl : (backTo pos (starEach es X.env)).any (·.1) = false := by rfl) : WE Pm X (.Call (.Name x p) (e :: es) [] pos) M ds Q := by
  intro σ H F mF ok
  refine wE_of (pe_callB cr_w hg hm hv pa_w hn hdb he hpl) ?_
  refine wA_mono (h σ H F mF ok) fun vs H1 ⟨xs, M1, o1, q1⟩ => q1 vs H1 _ (mono_x mF) o1
theorem we_callTy {x : Str} {p : Pos} {es : List Expr} {T : String} (h : WA Pm X (e :: es) M ds fun xs M1 => CallG Pm X (.type T) xs M1 Q) (hm : X.mg x = none) (hv : bootBuiltins x = some (.type T)) (hg : Gl X x := by rfl) (hn : x ≠ "__name__" := by decide) (hdb : (x == ("__debug__" : Str)) = false := by decide)
    (he : starEach (e :: es) X.env = (false, eval e X.env) :: starEach es X.env := by rfl) (hpl : (backTo pos (starEach es X.env)).any (·.1) = false := by rfl) : WE Pm X (.Call (.Name x p) (e :: es) [] pos) M ds Q := by
  intro σ H F mF ok
  refine wE_of (pe_callTy cr_w hg hm hv pa_w hn hdb he hpl) ?_
  refine wA_mono (h σ H F mF ok) fun vs H1 ⟨xs, M1, o1, q1⟩ => q1 vs H1 _ (mono_x mF) o1
/-- a built-in function that stands under a name of the module (gcd, lcm) -/
theorem we_callG {x : Str} {p : Pos} {es : List Expr} {id : String} (h : WA Pm X (e :: es) M ds fun xs M1 => CallG Pm X (.builtin id) xs M1 Q) (hm : X.mg x = some (.builtin id)) (hg : Gl X x := by rfl) (hdb : (x == ("__debug__" : Str)) = false := by decide)
    (he : starEach (e :: es) X.env = (false, eval e X.env) :: starEach es X.env := by rfl) (hpl : (backTo pos (starEach es X.env)).any (·.1) = false := by rfl) : WE Pm X (.Call (.Name x p) (e :: es) [] pos) M ds Q := by
  intro σ H F mF ok
  refine wE_of (pe_callBfun cr_w hg hm pa_w hdb he hpl) ?_
  refine wA_mono (h σ H F mF ok) fun vs H1 ⟨xs, M1, o1, q1⟩ => q1 vs H1 _ (mono_x mF) o1

/-! ### subscripts and slices -/
abbrev wIx (X : Cx) : R2 := fun x y H Q => ∀ (value slice : Expr) pins s σ v u, Inv X pins σ H s → RelV x v → RelV y u → subscripted slice false v u = operate [v, u] (getItem v u) → wpAny (model X.prog X.w) X.A (subscriptTail value slice v u) (EP X pins σ Q) X.xe s
theorem ix_w : IxR X (wIx X) := fun value slice pins s σ H x y v u Q I r1 r2 h hs => h value slice pins s σ v u I r1 r2 hs
theorem wIx_of {r : R2} (h : IxR X r) {x y : V} {H : Hp} {Q : VK} (q : r x y H Q) : wIx X x y H Q := fun value slice pins s σ v u I r1 r2 hs => h value slice pins s σ H x y v u Q I r1 r2 q hs
def IxG (Pm : Hp → Prop) (X : Cx) (x y : D) (M : Mst) (Q : QD) : Prop := ∀ v u H F, MonoF Pm F → Ok X.K M (fun G => Rp X.K G x v ∧ Rp X.K G y u ∧ F G) H → wIx X v u H (EndE X.K F Q)
theorem we_ix (h : WE Pm X a M ds fun x M1 => WE Pm X b M1 ds fun y M2 => IxG Pm X x y M2 Q) (hs : PlainIx b := by exact fun _ _ => rfl) : WE Pm X (.Subscript a b pos) M ds Q := by
  intro σ H F mF ok
  refine wE_of (pe_ix ix_w pe_w pe_w hs) ?_
  exact run2 mF ok h fun v u H' x y M' ok' q => q v u H' _ (mono_x mF) ok'
theorem RpL.atI {K : PySem.W.Frag} {G : Hp} {xs : List D} {vs : List V} {i : Int} {d : D} (h : RpL K G xs vs) (e : L2.atI xs i = some d) : ∃ v, L2.atI vs i = some v ∧ Rp K G d v := by
  unfold L2.atI at e ⊢
  rw [h.length]
  cases q : ixN xs.length i with
  | none => rw [q] at e; cases e
  | some j =>
    rw [q] at e
    exact h.get e
theorem ix_lst {xs : List D} {i : Int} {d : D} (h : atI xs i = some d) (q : Q d M) : IxG Pm X (.lst xs) (.int i) M Q := by
  intro v u H F mF ⟨G, s, hM, z1, z2, z3⟩
  obtain ⟨p, vs, rfl, h1, h2⟩ := z1.lst_inv
  obtain ⟨w, e1, r⟩ := h2.atI h
  exact wIx_of ix_list ⟨p, vs, i, w, rfl, z2.int_inv, SqL.of (s.at h1), e1, d, M, ⟨G, s, hM, r, z3⟩, q⟩
theorem ix_tupD {xs : List D} {i : Int} {d : D} (h : atI xs i = some d) (q : Q d M) : IxG Pm X (.tup xs) (.int i) M Q := by
  intro v u H F mF ⟨G, s, hM, z1, z2, z3⟩
  obtain ⟨p, vs, rfl, h1, h2⟩ := z1.tup_inv
  obtain ⟨w, e1, r⟩ := h2.atI h
  exact wIx_of ix_tup ⟨p, vs, i, w, rfl, z2.int_inv, sqt_mono s h1, e1, d, M, ⟨G, s, hM, r, z3⟩, q⟩
theorem ix_mlst {p : Addr} {xs : List D} {i : Int} {d : D} (hp : M p = some (.lst xs)) (h : atI xs i = some d) (q : Q d M) : IxG Pm X (.raw (.ref p)) (.int i) M Q := by
  intro v u H F mF ⟨G, s, hM, z1, z2, z3⟩
  cases z1.raw_inv
  obtain ⟨_, vs, h1, h2⟩ := hM p _ hp
  obtain ⟨w, e1, r⟩ := h2.atI h
  exact wIx_of ix_list ⟨p, vs, i, w, rfl, z2.int_inv, SqL.of h1, e1, d, M, ⟨G, s, hM, r, z3⟩, q⟩
/-! slices -/
def cutD (xs : List D) (lo hi : Option Int) : List D := (xs.drop (HT.sIx xs.length 0 lo)).take (HT.sIx xs.length xs.length hi - HT.sIx xs.length 0 lo)
theorem RpL.cut {K : PySem.W.Frag} {G : Hp} {xs : List D} {vs : List V} (h : RpL K G xs vs) (lo hi : Option Int) : RpL K G (cutD xs lo hi) (cutV vs lo hi) := by
  unfold cutD cutV
  rw [h.length]
  exact (h.drop _).take _
end
end DL

/-! DL4: operators, built-ins, slices by data -/
namespace DL
open PySem PySem.Spec L2
open PyProof.Rows hiding St
section
variable {X : Cx} {Pm : Hp → Prop} {M : Mst} {ds : Ds} {Q : QD} {pos : Pos} {a b c e : Expr}

/-! ### two ints -/
theorem bin_II {f : Value → Value → Sem Value} {C : Int → Int → Prop} {g : Int → Int → V} {d : D} (h : OpR X f (rI C g)) {i j : Int} (hc : C i j) (hd : ∀ G, Rp X.K G d (g i j)) (q : Q d M) : BinG Pm X f (.int i) (.int j) M Q := by
  intro v u H F mF ⟨G, s, hM, z1, z2, z3⟩
  exact wOp_of h ⟨i, j, z1.int_inv, z2.int_inv, hc, d, M, ⟨G, s, hM, hd G, z3⟩, q⟩
theorem bin_I0 {f : Value → Value → Sem Value} {g : Int → Int → V} {d : D} (h : OpR X f (rI0 g)) {i j : Int} (hd : ∀ G, Rp X.K G d (g i j)) (q : Q d M) : BinG Pm X f (.int i) (.int j) M Q := by
  intro v u H F mF ⟨G, s, hM, z1, z2, z3⟩
  exact wOp_of h ⟨i, j, z1.int_inv, z2.int_inv, d, M, ⟨G, s, hM, hd G, z3⟩, q⟩
theorem b_add {i j : Int} (q : Q (.int (i + j)) M) : BinG Pm X (binaryOp .Add) (.int i) (.int j) M Q := bin_I0 op_add (fun _ => rp_int) q
theorem b_sub {i j : Int} (q : Q (.int (i - j)) M) : BinG Pm X (binaryOp .Sub) (.int i) (.int j) M Q := bin_I0 op_sub (fun _ => rp_int) q
theorem b_mul {i j : Int} (h : CMul i j) (q : Q (.int (i * j)) M) : BinG Pm X (binaryOp .Mult) (.int i) (.int j) M Q := bin_II op_mul h (fun _ => rp_int) q
theorem b_div {i j : Int} (h : CDiv i j) (q : Q (.int (i / j)) M) : BinG Pm X (binaryOp .FloorDiv) (.int i) (.int j) M Q := bin_II op_fdiv h (fun _ => rp_int) q
theorem b_divW {i j : Int} (h : CDivW i j) (q : Q (.int (i / j)) M) : BinG Pm X (binaryOp .FloorDiv) (.int i) (.int j) M Q := bin_II op_fdivW h (fun _ => rp_int) q
theorem b_mod {i j : Int} (h : 0 < j) (q : Q (.int (i % j)) M) : BinG Pm X (binaryOp .Mod) (.int i) (.int j) M Q := bin_II op_mod h (fun _ => rp_int) q
theorem b_pow {i j : Int} (h : CPow i j) (q : Q (.int (i ^ j.toNat)) M) : BinG Pm X (binaryOp .Pow) (.int i) (.int j) M Q := bin_II op_pow h (fun _ => rp_int) q
theorem b_lt {i j : Int} (q : Q (.bl (decide (i < j))) M) : BinG Pm X (compareOp .Lt) (.int i) (.int j) M Q := bin_I0 op_lt (fun _ => rp_bl) q
theorem b_le {i j : Int} (q : Q (.bl (decide (i ≤ j))) M) : BinG Pm X (compareOp .LtE) (.int i) (.int j) M Q := bin_I0 op_le (fun _ => rp_bl) q
theorem b_gt {i j : Int} (q : Q (.bl (decide (j < i))) M) : BinG Pm X (compareOp .Gt) (.int i) (.int j) M Q := bin_I0 op_gt (fun _ => rp_bl) q
theorem b_ge {i j : Int} (q : Q (.bl (decide (j ≤ i))) M) : BinG Pm X (compareOp .GtE) (.int i) (.int j) M Q := bin_I0 op_ge (fun _ => rp_bl) q
theorem bi_add {i j : Int} (q : Q (.int (i + j)) M) : BinG Pm X (inplaceOp .Add) (.int i) (.int j) M Q := bin_I0 iop_add (fun _ => rp_int) q
theorem bi_sub {i j : Int} (q : Q (.int (i - j)) M) : BinG Pm X (inplaceOp .Sub) (.int i) (.int j) M Q := bin_I0 iop_sub (fun _ => rp_int) q
theorem b_and {i j : Int} (q : Q (.int (Builtin.bitAnd i j)) M) : BinG Pm X (binaryOp .BitAnd) (.int i) (.int j) M Q := bin_I0 op_and (fun _ => rp_int) q
theorem b_or {i j : Int} (q : Q (.int (Builtin.bitOr i j)) M) : BinG Pm X (binaryOp .BitOr) (.int i) (.int j) M Q := bin_I0 op_or (fun _ => rp_int) q
theorem b_xor {i j : Int} (q : Q (.int (Builtin.bitXor i j)) M) : BinG Pm X (binaryOp .BitXor) (.int i) (.int j) M Q := bin_I0 op_xor (fun _ => rp_int) q
theorem b_neg {i : Int} (q : Q (.int (-i)) M) : UnG Pm X (unaryOp .USub) (.int i) M Q := by
  intro v H F mF ⟨G, s, hM, z1, z3⟩
  exact wUn_of un_neg ⟨i, z1.int_inv, _, M, ⟨G, s, hM, rp_int, z3⟩, q⟩

/-! ### lists, tuples, texts added -/
theorem b_addL {xs ys : List D} (hz : xs.length + ys.length ≤ sizeLine) (q : Q (.lst (xs ++ ys)) M) : BinG Pm X (binaryOp .Add) (.lst xs) (.lst ys) M Q := by
  intro v u H F mF ok
  obtain ⟨G, s, hM, z1, z2, z3⟩ := id ok
  obtain ⟨p, vs, rfl, h1, h2⟩ := z1.lst_inv
  obtain ⟨p', ws, rfl, h1', h2'⟩ := z2.lst_inv
  refine wOp_of op_cat ⟨p, p', vs, ws, rfl, rfl, s.at h1, s.at h1', by rw [h2.length, h2'.length]; exact hz, fun r hr => ?_⟩
  have ok2 : Ok X.K M (fun G => RpL X.K G xs vs ∧ RpL X.K G ys ws ∧ F G) H := ⟨G, s, hM, h2, h2', z3⟩
  exact ⟨_, M, (ok2.new (o := .lst (vs ++ ws)) (MonoF.and mono_rpl (MonoF.and mono_rpl mF)) hr).imp fun _ _ z => ⟨rp_lst z.1 (z.2.1.append z.2.2.1), z.2.2.2⟩, q⟩
theorem b_addT {xs ys : List D} (hz : xs.length + ys.length ≤ sizeLine) (q : Q (.tup (xs ++ ys)) M) : BinG Pm X (binaryOp .Add) (.tup xs) (.tup ys) M Q := by
  intro v u H F mF ok
  obtain ⟨G, s, hM, z1, z2, z3⟩ := id ok
  obtain ⟨p, vs, rfl, h1, h2⟩ := z1.tup_inv
  obtain ⟨p', ws, rfl, h1', h2'⟩ := z2.tup_inv
  refine wOp_of op_catA ⟨p, p', vs, ws, rfl, rfl, sqt_mono s h1, sqt_mono s h1', by rw [h2.length, h2'.length]; exact hz, fun e => ?_, fun _ e => ?_, fun _ _ r hr => ?_⟩
  · subst e
    have : xs = [] := List.eq_nil_of_length_eq_zero (by rw [← h2.length]; rfl)
    subst this
    exact ⟨_, M, ⟨G, s, hM, rp_tup h1' h2', z3⟩, q⟩
  · subst e
    have : ys = [] := List.eq_nil_of_length_eq_zero (by rw [← h2'.length]; rfl)
    subst this
    rw [List.append_nil] at q
    exact ⟨_, M, ⟨G, s, hM, rp_tup h1 h2, z3⟩, q⟩
  · have ok2 : Ok X.K M (fun G => RpL X.K G xs vs ∧ RpL X.K G ys ws ∧ F G) H := ⟨G, s, hM, h2, h2', z3⟩
    exact ⟨_, M, (ok2.new (o := .tup (vs ++ ws)) (MonoF.and mono_rpl (MonoF.and mono_rpl mF)) hr).imp fun _ _ z => ⟨rp_tup (SqT.of z.1) (z.2.1.append z.2.2.1), z.2.2.2⟩, q⟩
theorem b_addS {x y : Str} (hz : x.length + y.length ≤ sizeLine) (q : Q (.str (x ++ y)) M) : BinG Pm X (binaryOp .Add) (.str x) (.str y) M Q := by
  intro v u H F mF ⟨G, s, hM, z1, z2, z3⟩
  exact wOp_of op_add_str ⟨x, y, z1.str_inv, z2.str_inv, hz, _, M, ⟨G, s, hM, rp_str, z3⟩, q⟩
theorem RpL.replicate {K : PySem.W.Frag} {G : Hp} {xs : List D} {vs : List V} (h : RpL K G xs vs) : ∀ n, RpL K G (List.replicate n xs).flatten (List.replicate n vs).flatten
  | 0 => RpL.nil
  | n + 1 => by
    rw [List.replicate_succ, List.replicate_succ, List.flatten_cons, List.flatten_cons]
    exact h.append (RpL.replicate h n)
theorem b_mulL {xs : List D} {k : Int} (h1 : -(2 ^ 63) ≤ k) (h2 : k < 2 ^ 63) (hz : xs.length * k.toNat ≤ sizeLine) (q : Q (.lst (List.replicate k.toNat xs).flatten) M) : BinG Pm X (binaryOp .Mult) (.lst xs) (.int k) M Q := by
  intro v u H F mF ok
  obtain ⟨G, s, hM, z1, z2, z3⟩ := id ok
  obtain ⟨p, vs, rfl, g1, g2⟩ := z1.lst_inv
  refine wOp_of op_rep ⟨p, k, vs, rfl, z2.int_inv, s.at g1, h1, h2, by rw [g2.length]; exact hz, fun r hr => ?_⟩
  have ok2 : Ok X.K M (fun G => RpL X.K G xs vs ∧ F G) H := ⟨G, s, hM, g2, z3⟩
  exact ⟨_, M, (ok2.new (o := .lst _) (MonoF.and mono_rpl mF) hr).imp fun _ _ z => ⟨rp_lst z.1 (z.2.1.replicate _), z.2.2⟩, q⟩

/-! ### equality of data -/
mutual
/-- as plain data, where it is -/
def pd : D → Option PyData
  | .non => some .none
  | .bl b => some (.bool b)
  | .int i => some (.int i)
  | .str x => some (.str x)
  | .lst xs => (pds xs).map .list
  | .tup xs => (pds xs).map .tuple
  | _ => none
def pds : List D → Option (List PyData)
  | [] => some []
  | d :: ds => (pd d).bind fun x => (pds ds).map fun xs => x :: xs
end
theorem pds_nil : pds [] = some [] := by simp only [pds]
theorem pds_cons_inv {d : D} {ds : List D} {y : List PyData} (h : pds (d :: ds) = some y) : ∃ x xs, pd d = some x ∧ pds ds = some xs ∧ y = x :: xs := by
  simp only [pds] at h
  cases e : pd d with
  | none => rw [e] at h; cases h
  | some x =>
    rw [e] at h
    cases e2 : pds ds with
    | none => rw [e2] at h; cases h
    | some xs =>
      rw [e2] at h
      cases h
      exact ⟨x, xs, rfl, rfl, rfl⟩
mutual
theorem dp_of {K : PySem.W.Frag} {G H : Hp} (s : Le G H) : ∀ {d : D} {v : V} {x : PyData}, Rp K G d v → pd d = some x → Dp K H v x
  | .non, v, x, r, h => by
    cases r.non_inv
    simp only [pd] at h
    cases h
    exact .non
  | .bl b, v, x, r, h => by
    cases r.bl_inv
    simp only [pd] at h
    cases h
    exact .bl b
  | .int i, v, x, r, h => by
    cases r.int_inv
    simp only [pd] at h
    cases h
    exact .int i
  | .str y, v, x, r, h => by
    cases r.str_inv
    simp only [pd] at h
    cases h
    exact .str y
  | .lst xs, v, x, r, h => by
    obtain ⟨p, vs, rfl, h1, h2⟩ := r.lst_inv
    simp only [pd] at h
    cases e : pds xs with
    | none => rw [e] at h; cases h
    | some ys =>
      rw [e] at h
      cases h
      exact .lst (SqL.of (s.at h1)) (dps_of s h2 e)
  | .tup xs, v, x, r, h => by
    obtain ⟨p, vs, rfl, h1, h2⟩ := r.tup_inv
    simp only [pd] at h
    cases e : pds xs with
    | none => rw [e] at h; cases h
    | some ys =>
      rw [e] at h
      cases h
      exact .tup (sqt_mono s h1) (dps_of s h2 e)
  | .dct _, _, _, _, h => by simp [pd] at h
  | .dctT _, _, _, _, h => by simp [pd] at h
  | .obj _ _, _, _, _, h => by simp [pd] at h
  | .raw _, _, _, _, h => by simp [pd] at h
  | .own _, _, _, _, h => by simp [pd] at h
  | .xo _ _ _, _, _, _, h => by simp [pd] at h
  | .xf _ _, _, _, _, h => by simp [pd] at h
  | .klst _, _, _, _, h => by simp [pd] at h
theorem dps_of {K : PySem.W.Frag} {G H : Hp} (s : Le G H) : ∀ {d : List D} {v : List V} {x : List PyData}, RpL K G d v → pds d = some x → DpAll K H v x
  | [], v, x, r, h => by
    cases r.nil_inv
    rw [pds_nil] at h
    cases h
    exact .nil
  | d :: ds, v, x, r, h => by
    obtain ⟨w, rs, rfl, r1, r2⟩ := r.cons_inv
    obtain ⟨y, ys, e1, e2, rfl⟩ := pds_cons_inv h
    exact .cons (dp_of s r1 e1) (dps_of s r2 e2)
end
theorem b_eqD (hr : X.A.units + 64 < cLine) {x y : D} {p q : PyData} {k : Bool} (h1 : pd x = some p) (h2 : pd y = some q) (s1 : SeqAt.shaped p = true) (s2 : SeqAt.shaped q = true) (hk : PyData.eqv p q = k) (hq : Q (.bl k) M) : BinG Pm X (compareOp .Eq) x y M Q := by
  intro v u H F mF ⟨G, s, hM, z1, z2, z3⟩
  exact wOp_of (op_eqD hr) ⟨p, q, dp_of s z1 h1, dp_of s z2 h2, s1, s2, .bl k, M, ⟨G, s, hM, by rw [hk]; exact rp_bl, z3⟩, hq⟩
theorem b_neD (hr : X.A.units + 64 < cLine) {x y : D} {p q : PyData} {k : Bool} (h1 : pd x = some p) (h2 : pd y = some q) (s1 : SeqAt.shaped p = true) (s2 : SeqAt.shaped q = true) (hk : PyData.eqv p q = k) (hq : Q (.bl (!k)) M) : BinG Pm X (compareOp .NotEq) x y M Q := by
  intro v u H F mF ⟨G, s, hM, z1, z2, z3⟩
  exact wOp_of (op_neD hr) ⟨p, q, dp_of s z1 h1, dp_of s z2 h2, s1, s2, .bl (!k), M, ⟨G, s, hM, by rw [hk]; exact rp_bl, z3⟩, hq⟩
theorem b_isN {x : D} {k : Bool} (hx : ∀ G v, Rp X.K G x v → decide (v = .non) = k) (q : Q (.bl k) M) : BinG Pm X (compareOp .Is) x .non M Q := by
  intro v u H F mF ⟨G, s, hM, z1, z2, z3⟩
  exact wOp_of op_isN ⟨z2.non_inv, .bl k, M, ⟨G, s, hM, by rw [hx G v z1]; exact rp_bl, z3⟩, q⟩
theorem b_notN {x : D} {k : Bool} (hx : ∀ G v, Rp X.K G x v → decide (v = .non) = k) (q : Q (.bl (!k)) M) : BinG Pm X (compareOp .IsNot) x .non M Q := by
  intro v u H F mF ⟨G, s, hM, z1, z2, z3⟩
  exact wOp_of op_notN ⟨z2.non_inv, .bl (!k), M, ⟨G, s, hM, by rw [hx G v z1]; exact rp_bl, z3⟩, q⟩
theorem nonN {K : PySem.W.Frag} {G : Hp} {v : V} (h : Rp K G .non v) : decide (v = .non) = true := by rw [h.non_inv]; rfl
theorem nonI {K : PySem.W.Frag} {G : Hp} {i : Int} {v : V} (h : Rp K G (.int i) v) : decide (v = .non) = false := by rw [h.int_inv]; rfl
theorem nonT {K : PySem.W.Frag} {G : Hp} {i : List D} {v : V} (h : Rp K G (.tup i) v) : decide (v = .non) = false := by obtain ⟨p, vs, rfl, _⟩ := h.tup_inv; rfl
theorem nonL {K : PySem.W.Frag} {G : Hp} {i : List D} {v : V} (h : Rp K G (.lst i) v) : decide (v = .non) = false := by obtain ⟨p, vs, rfl, _⟩ := h.lst_inv; rfl
theorem b_isB {x y : Bool} (q : Q (.bl (decide (x = y))) M) : BinG Pm X (compareOp .Is) (.bl x) (.bl y) M Q := by
  intro v u H F mF ⟨G, s, hM, z1, z2, z3⟩
  exact wOp_of op_isBl ⟨x, y, z1.bl_inv, z2.bl_inv, _, M, ⟨G, s, hM, rp_bl, z3⟩, q⟩
theorem b_notB {x y : Bool} (q : Q (.bl (!decide (x = y))) M) : BinG Pm X (compareOp .IsNot) (.bl x) (.bl y) M Q := by
  intro v u H F mF ⟨G, s, hM, z1, z2, z3⟩
  exact wOp_of op_notBl ⟨x, y, z1.bl_inv, z2.bl_inv, _, M, ⟨G, s, hM, rp_bl, z3⟩, q⟩

/-! ### in, not in, of a list or tuple of ints -/
abbrev dI (ns : List Int) : List D := ns.map D.int
theorem RpL.ints {K : PySem.W.Frag} {G : Hp} : ∀ {ns : List Int} {vs : List V}, RpL K G (ns.map D.int) vs → vs = ns.map V.int
  | [], _, h => by cases h.nil_inv; rfl
  | n :: ns, _, h => by
    obtain ⟨v, r, rfl, h1, h2⟩ := RpL.cons_inv h
    rw [h1.int_inv, RpL.ints h2]
    rfl
theorem rpl_ints {K : PySem.W.Frag} {G : Hp} : ∀ {ns : List Int}, RpL K G (ns.map D.int) (ns.map V.int)
  | [] => RpL.nil
  | n :: ns => RpL.cons rp_int rpl_ints
theorem flat_ints (ns : List Int) : (ns.map V.int).all flatV = true := by
  rw [List.all_map]
  exact List.all_eq_true.mpr fun _ _ => rfl
theorem inV_ints (i : Int) (ns : List Int) : inV (.int i) (ns.map V.int) = decide (i ∈ ns) := by
  unfold inV
  rw [List.any_map]
  apply Bool.eq_iff_iff.mpr
  simp [List.any_eq_true, eqV]
theorem b_in {i : Int} {ns : List Int} (q : Q (.bl (decide (i ∈ ns))) M) : BinG Pm X (compareOp .In) (.int i) (.lst (ns.map D.int)) M Q := by
  intro v u H F mF ⟨G, s, hM, z1, z2, z3⟩
  obtain ⟨p, vs, rfl, h1, h2⟩ := z2.lst_inv
  cases h2.ints
  cases z1.int_inv
  exact wOp_of op_in_seq ⟨p, _, rfl, .inl (SqL.of (s.at h1)), rfl, flat_ints ns, _, M, ⟨G, s, hM, by rw [if_neg Bool.false_ne_true, inV_ints]; exact rp_bl, z3⟩, q⟩
theorem b_notin {i : Int} {ns : List Int} (q : Q (.bl (!decide (i ∈ ns))) M) : BinG Pm X (compareOp .NotIn) (.int i) (.lst (ns.map D.int)) M Q := by
  intro v u H F mF ⟨G, s, hM, z1, z2, z3⟩
  obtain ⟨p, vs, rfl, h1, h2⟩ := z2.lst_inv
  cases h2.ints
  cases z1.int_inv
  exact wOp_of op_notIn_seq ⟨p, _, rfl, .inl (SqL.of (s.at h1)), rfl, flat_ints ns, _, M, ⟨G, s, hM, by rw [if_pos rfl, inV_ints]; exact rp_bl, z3⟩, q⟩

/-! ### built-ins -/
theorem RpL.one_inv {K : PySem.W.Frag} {G : Hp} {d : D} {vs : List V} (h : RpL K G [d] vs) : ∃ v, vs = [v] ∧ Rp K G d v := by
  obtain ⟨v, r, rfl, h1, h2⟩ := h.cons_inv
  cases h2.nil_inv
  exact ⟨v, rfl, h1⟩
theorem RpL.two_inv {K : PySem.W.Frag} {G : Hp} {d e : D} {vs : List V} (h : RpL K G [d, e] vs) : ∃ v w, vs = [v, w] ∧ Rp K G d v ∧ Rp K G e w := by
  obtain ⟨v, r, rfl, h1, h2⟩ := h.cons_inv
  obtain ⟨w, rfl, h3⟩ := h2.one_inv
  exact ⟨v, w, rfl, h1, h3⟩
theorem c_len {xs : List D} (q : Q (.int xs.length) M) : CallG Pm X (.builtin "len") [.lst xs] M Q := by
  intro vs H F mF ⟨G, s, hM, z1, z3⟩
  obtain ⟨v, rfl, r⟩ := z1.one_inv
  obtain ⟨p, ws, rfl, h1, h2⟩ := r.lst_inv
  exact wCall_of call_len_seq ⟨p, ws, rfl, .inl (SqL.of (s.at h1)), _, M, ⟨G, s, hM, by rw [h2.length]; exact rp_int, z3⟩, q⟩
theorem c_lenT {xs : List D} (q : Q (.int xs.length) M) : CallG Pm X (.builtin "len") [.tup xs] M Q := by
  intro vs H F mF ⟨G, s, hM, z1, z3⟩
  obtain ⟨v, rfl, r⟩ := z1.one_inv
  obtain ⟨p, ws, rfl, h1, h2⟩ := r.tup_inv
  exact wCall_of call_len_seq ⟨p, ws, rfl, .inr (sqt_mono s h1), _, M, ⟨G, s, hM, by rw [h2.length]; exact rp_int, z3⟩, q⟩
theorem c_lenM {p : Addr} {xs : List D} (hp : M p = some (.lst xs)) (q : Q (.int xs.length) M) : CallG Pm X (.builtin "len") [.raw (.ref p)] M Q := by
  intro vs H F mF ⟨G, s, hM, z1, z3⟩
  obtain ⟨v, rfl, r⟩ := z1.one_inv
  cases r.raw_inv
  obtain ⟨_, ws, h1, h2⟩ := hM p _ hp
  exact wCall_of call_len_seq ⟨p, ws, rfl, .inl (SqL.of h1), _, M, ⟨G, s, hM, by rw [h2.length]; exact rp_int, z3⟩, q⟩
theorem c_lenS {x : Str} (hz : x.length ≤ sizeLine) (q : Q (.int x.length) M) : CallG Pm X (.builtin "len") [.str x] M Q := by
  intro vs H F mF ⟨G, s, hM, z1, z3⟩
  obtain ⟨v, rfl, r⟩ := z1.one_inv
  cases r.str_inv
  exact wCall_of call_len_str ⟨x, rfl, hz, _, M, ⟨G, s, hM, rp_int, z3⟩, q⟩
theorem c_int {i : Int} (q : Q (.int i) M) : CallG Pm X (.type "int") [.int i] M Q := by
  intro vs H F mF ⟨G, s, hM, z1, z3⟩
  obtain ⟨v, rfl, r⟩ := z1.one_inv
  cases r.int_inv
  exact wCall_of call_int1 (.inl ⟨i, rfl, _, M, ⟨G, s, hM, rp_int, z3⟩, q⟩)
theorem c_intB {k : Bool} (q : Q (.int (if k then 1 else 0)) M) : CallG Pm X (.type "int") [.bl k] M Q := by
  intro vs H F mF ⟨G, s, hM, z1, z3⟩
  obtain ⟨v, rfl, r⟩ := z1.one_inv
  cases r.bl_inv
  exact wCall_of call_int1 (.inr ⟨k, rfl, _, M, ⟨G, s, hM, rp_int, z3⟩, q⟩)
theorem c_abs {i : Int} (q : Q (.int (if i < 0 then -i else i)) M) : CallG Pm X (.builtin "abs") [.int i] M Q := by
  intro vs H F mF ⟨G, s, hM, z1, z3⟩
  obtain ⟨v, rfl, r⟩ := z1.one_inv
  cases r.int_inv
  exact wCall_of call_abs ⟨i, rfl, _, M, ⟨G, s, hM, rp_int, z3⟩, q⟩
theorem c_str {i : Int} (h : i.natAbs.log2 < 1920) (q : Q (.str (toString i : Str)) M) : CallG Pm X (.type "str") [.int i] M Q := by
  intro vs H F mF ⟨G, s, hM, z1, z3⟩
  obtain ⟨v, rfl, r⟩ := z1.one_inv
  cases r.int_inv
  exact wCall_of call_str_int ⟨i, rfl, h, _, M, ⟨G, s, hM, rp_str, z3⟩, q⟩
theorem c_max2 (hc : X.calm = true) {i j : Int} (q : Q (.int (if j > i then j else i)) M) : CallG Pm X (.builtin "max") [.int i, .int j] M Q := by
  intro vs H F mF ⟨G, s, hM, z1, z3⟩
  obtain ⟨v, w, rfl, r1, r2⟩ := z1.two_inv
  cases r1.int_inv
  cases r2.int_inv
  exact wCall_of (call_max2 hc) ⟨i, j, rfl, _, M, ⟨G, s, hM, rp_int, z3⟩, q⟩
theorem c_min2 (hc : X.calm = true) {i j : Int} (q : Q (.int (if j < i then j else i)) M) : CallG Pm X (.builtin "min") [.int i, .int j] M Q := by
  intro vs H F mF ⟨G, s, hM, z1, z3⟩
  obtain ⟨v, w, rfl, r1, r2⟩ := z1.two_inv
  cases r1.int_inv
  cases r2.int_inv
  exact wCall_of (call_min2 hc) ⟨i, j, rfl, _, M, ⟨G, s, hM, rp_int, z3⟩, q⟩
theorem c_maxL (hc : X.calm = true) {ns : List Int} (h : 0 < ns.length) (q : ∀ m, m ∈ ns → (∀ y ∈ ns, y ≤ m) → Q (.int m) M) : CallG Pm X (.builtin "max") [.lst (ns.map D.int)] M Q := by
  intro vs H F mF ⟨G, s, hM, z1, z3⟩
  obtain ⟨v, rfl, r⟩ := z1.one_inv
  obtain ⟨p, ws, rfl, h1, h2⟩ := r.lst_inv
  cases h2.ints
  exact wCall_of (cr_max hc) ⟨p, ns, rfl, SqL.of (s.at h1), h, fun m hm hy => ⟨_, M, ⟨G, s, hM, rp_int, z3⟩, q m hm hy⟩⟩
theorem c_minL (hc : X.calm = true) {ns : List Int} (h : 0 < ns.length) (q : ∀ m, m ∈ ns → (∀ y ∈ ns, m ≤ y) → Q (.int m) M) : CallG Pm X (.builtin "min") [.lst (ns.map D.int)] M Q := by
  intro vs H F mF ⟨G, s, hM, z1, z3⟩
  obtain ⟨v, rfl, r⟩ := z1.one_inv
  obtain ⟨p, ws, rfl, h1, h2⟩ := r.lst_inv
  cases h2.ints
  exact wCall_of (cr_min hc) ⟨p, ns, rfl, SqL.of (s.at h1), h, fun m hm hy => ⟨_, M, ⟨G, s, hM, rp_int, z3⟩, q m hm hy⟩⟩
theorem c_sum (hc : X.calm = true) {ns : List Int} (q : Q (.int ns.sum) M) : CallG Pm X (.builtin "sum") [.lst (ns.map D.int)] M Q := by
  intro vs H F mF ⟨G, s, hM, z1, z3⟩
  obtain ⟨v, rfl, r⟩ := z1.one_inv
  obtain ⟨p, ws, rfl, h1, h2⟩ := r.lst_inv
  cases h2.ints
  exact wCall_of (cr_sum hc) ⟨p, ns, rfl, SqL.of (s.at h1), _, M, ⟨G, s, hM, rp_int, z3⟩, q⟩
/-- list(xs), of a list or a tuple: frozen -/
theorem c_list {xs : List D} (q : Q (.lst xs) M) : CallG Pm X (.type "list") [.lst xs] M Q := by
  intro vs H F mF ⟨G, s, hM, z1, z3⟩
  obtain ⟨v, rfl, r⟩ := z1.one_inv
  obtain ⟨p, ws, rfl, h1, h2⟩ := r.lst_inv
  refine wCall_of call_list_of ⟨p, ws, rfl, .inl (SqL.of (s.at h1)), fun l hl => ?_⟩
  have ok2 : Ok X.K M (fun G => RpL X.K G xs ws ∧ F G) H := ⟨G, s, hM, h2, z3⟩
  exact ⟨_, M, (ok2.new (o := .lst ws) (MonoF.and mono_rpl mF) hl).imp fun _ _ z => ⟨rp_lst z.1 z.2.1, z.2.2⟩, q⟩
theorem c_listT {xs : List D} (q : Q (.lst xs) M) : CallG Pm X (.type "list") [.tup xs] M Q := by
  intro vs H F mF ⟨G, s, hM, z1, z3⟩
  obtain ⟨v, rfl, r⟩ := z1.one_inv
  obtain ⟨p, ws, rfl, h1, h2⟩ := r.tup_inv
  refine wCall_of call_list_of ⟨p, ws, rfl, .inr (sqt_mono s h1), fun l hl => ?_⟩
  have ok2 : Ok X.K M (fun G => RpL X.K G xs ws ∧ F G) H := ⟨G, s, hM, h2, z3⟩
  exact ⟨_, M, (ok2.new (o := .lst ws) (MonoF.and mono_rpl mF) hl).imp fun _ _ z => ⟨rp_lst z.1 z.2.1, z.2.2⟩, q⟩
/-- list(xs) that will be changed -/
theorem c_listM {xs : List D} (q : ∀ l, M l = none → Q (.raw (.ref l)) (updM M l (.lst xs))) : CallG Pm X (.type "list") [.lst xs] M Q := by
  intro vs H F mF ok
  obtain ⟨G, s, hM, z1, z3⟩ := id ok
  obtain ⟨v, rfl, r⟩ := z1.one_inv
  obtain ⟨p, ws, rfl, h1, h2⟩ := r.lst_inv
  refine wCall_of call_list_of ⟨p, ws, rfl, .inl (SqL.of (s.at h1)), fun l hl => ?_⟩
  have ok2 : Ok X.K M (fun G => RpL X.K G xs ws ∧ F G) H := ⟨G, s, hM, h2, z3⟩
  exact ⟨_, _, (ok2.newM (o := .lst ws) (d := .lst xs) hl fun _ _ z => ⟨ws, rfl, z.1⟩).imp fun _ _ z => ⟨rp_raw, z.2⟩, q l (ok.free hl)⟩
theorem c_tuple {xs : List D} (q : Q (.tup xs) M) : CallG Pm X (.type "tuple") [.lst xs] M Q := by
  intro vs H F mF ⟨G, s, hM, z1, z3⟩
  obtain ⟨v, rfl, r⟩ := z1.one_inv
  obtain ⟨p, ws, rfl, h1, h2⟩ := r.lst_inv
  refine wCall_of call_tuple_of ⟨p, ws, rfl, .inl ⟨SqL.of (s.at h1), fun l hl => ?_⟩⟩
  have ok2 : Ok X.K M (fun G => RpL X.K G xs ws ∧ F G) H := ⟨G, s, hM, h2, z3⟩
  exact ⟨_, M, (ok2.new (o := .tup ws) (MonoF.and mono_rpl mF) hl).imp fun _ _ z => ⟨rp_tup (SqT.of z.1) z.2.1, z.2.2⟩, q⟩
theorem c_tupleT {xs : List D} (q : Q (.tup xs) M) : CallG Pm X (.type "tuple") [.tup xs] M Q := by
  intro vs H F mF ⟨G, s, hM, z1, z3⟩
  obtain ⟨v, rfl, r⟩ := z1.one_inv
  obtain ⟨p, ws, rfl, h1, h2⟩ := r.tup_inv
  exact wCall_of call_tuple_of ⟨p, ws, rfl, .inr ⟨sqt_mono s h1, _, M, ⟨G, s, hM, rp_tup h1 h2, z3⟩, q⟩⟩
theorem c_sortedI {ns : List Int} (q : ∀ ns' : List Int, ns'.Perm ns → ns'.Pairwise (· ≤ ·) → Q (.lst (ns'.map D.int)) M) : CallG Pm X (.builtin "sorted") [.lst (ns.map D.int)] M Q := by
  intro vs H F mF ⟨G, s, hM, z1, z3⟩
  obtain ⟨v, rfl, r⟩ := z1.one_inv
  obtain ⟨p, ws, rfl, h1, h2⟩ := r.lst_inv
  cases h2.ints
  refine wCall_of cr_sortedI ⟨p, ns, rfl, SqL.of (s.at h1), fun ns' l hp ho hl => ?_⟩
  have ok2 : Ok X.K M F H := ⟨G, s, hM, z3⟩
  exact ⟨_, M, (ok2.new (o := .lst _) mF hl).imp fun _ _ z => ⟨rp_lst z.1 rpl_ints, z.2⟩, q ns' hp ho⟩
/-- a set of ints, those of ns -/
def setP (w : World) (ns : List Int) : Addr → HO → Prop := fun a o => ∃ n, n ≤ ns.length ∧ o = SetO w a (fun j => decide (j ∈ ns)) n
theorem nd_ext {φ : Heap → Prop} : Nd (.ext φ) := ⟨rfl, (fun _ h => by cases h), (fun _ h => by cases h)⟩
theorem c_set (hc : X.calm = true) {ns : List Int} (h : ns.length ≤ 4000) (q : Q (.own (setP X.w ns)) M) : CallG Pm X (.type "set") [.lst (ns.map D.int)] M Q := by
  intro vs H F mF ⟨G, s, hM, z1, z3⟩
  obtain ⟨v, rfl, r⟩ := z1.one_inv
  obtain ⟨p, ws, rfl, h1, h2⟩ := r.lst_inv
  cases h2.ints
  refine wCall_of (DLs.cr_setL hc) ⟨p, ns, rfl, SqL.of (s.at h1), h, fun r n hr hn => ?_⟩
  have ok2 : Ok X.K M F H := ⟨G, s, hM, z3⟩
  exact ⟨_, M, (ok2.new mF hr).imp fun _ _ z => ⟨rp_own z.1 nd_ext ⟨n, hn, rfl⟩, z.2⟩, q⟩
/-- sorted(set): below 64 different ones -/
theorem nodup_len {l : List Int} (h : l.Nodup) {m : List Int} (hs : ∀ k, k ∈ l → k ∈ m) : l.length ≤ m.length := by
  induction l generalizing m with
  | nil => exact Nat.zero_le _
  | cons a l ih =>
    obtain ⟨h1, h2⟩ := List.nodup_cons.mp h
    have ha : a ∈ m := hs a List.mem_cons_self
    have := ih h2 (m := m.erase a) fun k hk => (List.mem_erase_of_ne (fun e => h1 (by rw [← e]; exact hk))).mpr (hs k (List.mem_cons_of_mem _ hk))
    rw [List.length_erase_of_mem ha] at this
    have : 0 < m.length := List.length_pos_of_mem ha
    simp only [List.length_cons]
    omega
theorem setR_count {w : World} {h : Heap} {a : Addr} {S : Int → Bool} {n : Nat} (R : SetR w h a S n) : ∃ l : List Int, l.Nodup ∧ l.length = n ∧ ∀ k, k ∈ l ↔ S k = true := by
  obtain ⟨o, es, ep, t, ho, _, _, _, nd, hm, _, _, hn, _⟩ := R
  exact ⟨es.toList.map keyOf, nd, by rw [List.length_map, Array.length_toList]; exact hn, fun k => (hm k).symm⟩
theorem c_sortedSet (hc : X.calm = true) {ns ms : List Int} (hms : ∀ k, k ∈ ns → k ∈ ms) (hl : ms.length < 64)
    (q : ∀ ns' : List Int, ns'.Pairwise (· < ·) → (∀ k, k ∈ ns' ↔ k ∈ ns) → Q (.lst (ns'.map D.int)) M) : CallG Pm X (.builtin "sorted") [.own (setP X.w ns)] M Q := by
  intro vs H F mF ⟨G, s, hM, z1, z3⟩
  obtain ⟨v, rfl, r⟩ := z1.one_inv
  obtain ⟨p, o, rfl, h1, h2, n, hn, rfl⟩ := r.own_inv
  have hH : H p = some (SetO X.w p (fun j => decide (j ∈ ns)) n) := s.at h1 h2.1 h2.2.1 h2.2.2
  intro pins st σ us I rv
  obtain ⟨l, nl, ll, hk⟩ := setR_count (setO_get I hH)
  have hn64 : n < 64 := by
    have := nodup_len nl (m := ms) fun k h => hms k (by simpa using (hk k).mp h)
    omega
  refine wCall_of (cr_sortedSet hc) ⟨p, _, n, rfl, hH, hn64, fun ns' l hp ho _ hl => ?_⟩ pins st σ us I rv
  have ok2 : Ok X.K M F H := ⟨G, s, hM, z3⟩
  exact ⟨_, M, (ok2.new (o := .lst _) mF hl).imp fun _ _ z => ⟨rp_lst z.1 rpl_ints, z.2⟩, q ns' hp fun k => by rw [ho k]; simp⟩
theorem c_gcd {i j : Int} (q : Q (.int ((Nat.gcd i.natAbs j.natAbs : Nat) : Int)) M) : CallG Pm X (.builtin "math.gcd") [.int i, .int j] M Q := by
  intro vs H F mF ⟨G, s, hM, z1, z3⟩
  obtain ⟨v, w, rfl, r1, r2⟩ := z1.two_inv
  cases r1.int_inv
  cases r2.int_inv
  exact wCall_of cr_gcd ⟨i, j, rfl, _, M, ⟨G, s, hM, rp_int, z3⟩, q⟩
def rLcm : List V → Hp → VK → Prop := fun vs H Q => ∃ a b : Int, vs = [.int a, .int b] ∧ (a.natAbs < 2 ^ 64 ∧ b.natAbs < 2 ^ 64) ∧ Q (.int ((Nat.lcm a.natAbs b.natAbs : Nat) : Int)) H
theorem cr_lcm : CallR X (.builtin "math.lcm") rLcm := by
  intro pins s σ H vs us Q I r h
  obtain ⟨a, b, rfl, ⟨h1, h2⟩, q⟩ := h
  obtain ⟨t, u, rfl⟩ := Vals.int2 r
  refine PySem.W.mg_lcm_v (c := ((Nat.lcm a.natAbs b.natAbs : Nat) : Int)) h1 h2 (by rw [Nat.lcm_one_left]) ?_ ⟨.int _, H, I.tok _, ⟨_, rfl⟩, q⟩
  have e1 : Nat.lcm a.natAbs b.natAbs ≤ a.natAbs * b.natAbs := by
    unfold Nat.lcm
    exact Nat.div_le_self _ _
  have e2 : a.natAbs * b.natAbs < 2 ^ 64 * 2 ^ 64 := Nat.mul_lt_mul'' h1 h2
  have e3 : Nat.lcm a.natAbs b.natAbs < 2 ^ 128 := by
    have : (2:Nat) ^ 64 * 2 ^ 64 = 2 ^ 128 := by decide
    omega
  have e4 : (((Nat.lcm a.natAbs b.natAbs : Nat) : Int)).natAbs = Nat.lcm a.natAbs b.natAbs := Int.natAbs_natCast _
  rw [e4]
  have e5 : (Nat.lcm a.natAbs b.natAbs).log2 < 128 := PySem.Flt.log2_lt_of (by decide) e3
  have e6 : bitsLine = 134217728 := by decide
  omega
theorem c_lcm {i j : Int} (h1 : i.natAbs < 2 ^ 64) (h2 : j.natAbs < 2 ^ 64) (q : Q (.int ((Nat.lcm i.natAbs j.natAbs : Nat) : Int)) M) : CallG Pm X (.builtin "math.lcm") [.int i, .int j] M Q := by
  intro vs H F mF ⟨G, s, hM, z1, z3⟩
  obtain ⟨v, w, rfl, r1, r2⟩ := z1.two_inv
  cases r1.int_inv
  cases r2.int_inv
  exact wCall_of cr_lcm ⟨i, j, rfl, ⟨h1, h2⟩, _, M, ⟨G, s, hM, rp_int, z3⟩, q⟩
end
end DL

/-! DL5: statements, loops, comprehensions over data -/
namespace DL
open PySem PySem.Spec L2
open PyProof.Rows hiding St
section
variable {X : Cx} {Pm : Hp → Prop} {M : Mst} {ds : Ds} {Q : QD} {pos : Pos} {a b c e : Expr} {Dn : EndD}

/-! ### blocks, plain statements -/
theorem wss_nil (q : Dn.nx ds M) : WSs Pm X [] M ds Dn := fun σ H F mF ok => wSs_of pss_nil ⟨ds, M, ok, q⟩
theorem wss_cons {st : Stmt} {r : List Stmt} (h : WS Pm X st M ds { Dn with nx := fun ds1 M1 => WSs Pm X r M1 ds1 Dn }) : WSs Pm X (st :: r) M ds Dn := by
  intro σ H F mF ok
  refine wSs_of (pss_cons ps_w pss_w) ?_
  refine wS_mono (h σ H F mF ok) (fun σ' H' ⟨ds1, M1, o1, q1⟩ => q1 σ' H' F mF o1) (fun _ _ z => z) (fun _ _ z => z) (fun _ _ z => z)
theorem wss_one {st : Stmt} (h : WS Pm X st M ds Dn) : WSs Pm X [st] M ds Dn := fun σ H F mF ok => wSs_of (pss_one ps_w) (h σ H F mF ok)
theorem WSs.mono {st : List Stmt} {D1 D2 : EndD} (h : WSs Pm X st M ds D1) (h1 : ∀ ds M, D1.nx ds M → D2.nx ds M) (h2 : ∀ d M, D1.rt d M → D2.rt d M) (h3 : ∀ ds M, D1.bk ds M → D2.bk ds M) (h4 : ∀ ds M, D1.ct ds M → D2.ct ds M) : WSs Pm X st M ds D2 :=
  fun σ H F mF ok => wSs_mono (h σ H F mF ok) (fun _ _ ⟨d, m, o, q⟩ => ⟨d, m, o, h1 _ _ q⟩) (fun _ _ ⟨d, m, o, q⟩ => ⟨d, m, o, h2 _ _ q⟩) (fun _ _ ⟨d, m, o, q⟩ => ⟨d, m, o, h3 _ _ q⟩) (fun _ _ ⟨d, m, o, q⟩ => ⟨d, m, o, h4 _ _ q⟩)
/-- a block, then what is behind it, told once -/
theorem wss_cut {st : Stmt} {r : List Stmt} (Mid : Ds → Mst → Prop) (h : WS Pm X st M ds { Dn with nx := Mid }) (k : ∀ ds1 M1, Mid ds1 M1 → WSs Pm X r M1 ds1 Dn) : WSs Pm X (st :: r) M ds Dn := by
  intro σ H F mF ok
  refine wSs_of (pss_cons ps_w pss_w) ?_
  refine wS_mono (h σ H F mF ok) (fun σ' H' ⟨ds1, M1, o1, q1⟩ => k _ _ q1 σ' H' F mF o1) (fun _ _ z => z) (fun _ _ z => z) (fun _ _ z => z)
theorem ws_pass (q : Dn.nx ds M) : WS Pm X (.Pass pos) M ds Dn := fun σ H F mF ok => wS_of ps_pass ⟨ds, M, ok, q⟩
theorem ws_break (q : Dn.bk ds M) : WS Pm X (.Break pos) M ds Dn := fun σ H F mF ok => wS_of ps_break ⟨ds, M, ok, q⟩
theorem ws_continue (q : Dn.ct ds M) : WS Pm X (.Continue pos) M ds Dn := fun σ H F mF ok => wS_of ps_continue ⟨ds, M, ok, q⟩
theorem ws_expr (h : WE Pm X e M ds fun _ M1 => Dn.nx ds M1) (hs : swapsWith e none pos.line X.env = pure false := by rfl) : WS Pm X (.Expr e pos) M ds Dn := by
  intro σ H F mF ok
  refine wS_of (ps_expr pe_w hs) ?_
  exact wE_mono (h σ H F mF ok) fun v H1 ⟨d, M1, o1, q⟩ => ⟨ds, M1, o1.imp fun _ _ z => z.2, q⟩
theorem ws_ret (h : WE Pm X e M ds Dn.rt) : WS Pm X (.Return (some e) pos) M ds Dn := by
  intro σ H F mF ok
  refine wS_of (ps_ret pe_w) ?_
  exact wE_mono (h σ H F mF ok) fun v H1 ⟨d, M1, o1, q⟩ => ⟨d, M1, o1.imp fun _ _ z => ⟨z.1, z.2.2⟩, q⟩
theorem ws_retN (q : Dn.rt .non M) : WS Pm X (.Return none pos) M ds Dn := fun σ H F mF ok => wS_of ps_retN ⟨.non, M, ok.imp fun _ _ z => ⟨rp_non, z.2⟩, q⟩
theorem ws_if {p q : List Stmt} (h : WT Pm X c M ds fun k M1 => (k = true → WSs Pm X p M1 ds Dn) ∧ (k = false → WSs Pm X q M1 ds Dn)) : WS Pm X (.If c p q pos) M ds Dn := by
  intro σ H F mF ok
  refine wS_of (ps_if pt_w pss_w pss_w) ?_
  refine wT_mono (h σ H F mF ok) fun k H1 ⟨M1, o1, q1, q2⟩ => ?_
  cases k with
  | true => exact iteT (q1 rfl σ H1 F mF o1)
  | false => exact iteF (q2 rfl σ H1 F mF o1)
/-- a mutable list is frozen, its name then holds the data -/
theorem wss_freeze {st : List Stmt} (i : Nat) {p : Addr} {xs : List D} (hi : ds[i]? = some (some (.raw (.ref p)))) (hp : M p = some (.lst xs)) (h : WSs Pm X st (delM M p) (ds.set i (some (.lst xs))) Dn) : WSs Pm X st M ds Dn := by
  intro σ H F mF ok
  obtain ⟨vs, hH⟩ : ∃ vs, H p = some (.lst vs) := (ok.getM hp).use fun G _ z => let ⟨vs, a, _⟩ := z.1; ⟨vs, a⟩
  have ok2 := ok.freeze (mono_x mF) hp hH
  have hv : σ[i]? = some (some (.ref p)) := ok.use fun G _ z => by
    obtain ⟨v, e1, e2⟩ := z.1.get hi
    rw [e2.raw_inv] at e1
    exact e1
  refine h σ H F mF (ok2.imp fun G _ z => ⟨?_, z.2.2.2⟩)
  obtain ⟨g1, ⟨ws, e, r⟩, g2, _⟩ := z
  cases e
  have := EnvR.set (rp_lst g1 r) i g2
  have e2 : σ.set i (some (V.ref p)) = σ := by
    apply List.ext_getElem?
    intro j
    by_cases hj : i = j
    · subst hj
      obtain ⟨hl, _⟩ := List.getElem?_eq_some_iff.mp hv
      rw [List.getElem?_set_self hl, hv]
    · rw [List.getElem?_set_ne hj]
  rw [e2] at this
  exact this
theorem wss_freezeD {st : List Stmt} (i : Nat) {p : Addr} {xs : List (Key × D)} (hi : ds[i]? = some (some (.raw (.ref p)))) (hp : M p = some (.dct xs)) (h : WSs Pm X st (delM M p) (ds.set i (some (.dct xs))) Dn) : WSs Pm X st M ds Dn := by
  intro σ H F mF ok
  obtain ⟨vs, hH⟩ : ∃ vs, H p = some (.dK vs) := (ok.getM hp).use fun G _ z => let ⟨vs, a, _⟩ := z.1; ⟨vs, a⟩
  have ok2 := ok.freeze (mono_x mF) hp hH
  have hv : σ[i]? = some (some (.ref p)) := ok.use fun G _ z => by
    obtain ⟨v, e1, e2⟩ := z.1.get hi
    rw [e2.raw_inv] at e1
    exact e1
  refine h σ H F mF (ok2.imp fun G _ z => ⟨?_, z.2.2.2⟩)
  obtain ⟨g1, ⟨ws, e, r⟩, g2, _⟩ := z
  cases e
  have := EnvR.set (rp_dct ⟨_, g1, rfl⟩ r) i g2
  have e2 : σ.set i (some (V.ref p)) = σ := by
    apply List.ext_getElem?
    intro j
    by_cases hj : i = j
    · subst hj
      obtain ⟨hl, _⟩ := List.getElem?_eq_some_iff.mp hv
      rw [List.getElem?_set_self hl, hv]
    · rw [List.getElem?_set_ne hj]
  rw [e2] at this
  exact this
/-- a mutable object that nobody names any more is forgotten -/
theorem wss_forget {st : List Stmt} {p : Addr} {d : D} (hp : M p = some d) (h : WSs Pm X st (delM M p) ds Dn) : WSs Pm X st M ds Dn := by
  intro σ H F mF ok
  obtain ⟨u, hH⟩ : ∃ u, H p = some u := (ok.getM hp).use fun G _ z => z.1.some
  exact h σ H F mF ((ok.freeze (mono_x mF) hp hH).imp fun G _ z => z.2.2)

/-! ### targets -/
/-- x = e -/
theorem ws_set (i : Nat) {x : Str} {pos' : Pos} (hN : X.N.Nodup) (hi : X.N[i]? = some x) (h : WE Pm X e M ds fun d M1 => Dn.nx (ds.set i (some d)) M1) (hx : Loc X.env.scope x := by first | exact Or.inl rfl | exact Or.inr rfl)
    (hs : swapsWith e (some (.Name x pos')) pos.line X.env = pure false := by rfl) (hf : X.fn x = true ∨ X.env.scope.names.lookup x = some .local := by first | exact .inl rfl | exact .inr rfl) : WS Pm X (.Assign [.Name x pos'] e pos) M ds Dn := by
  intro σ H F mF ok
  refine wS_of (ps_set (i := i) hN hi hx pe_w hs hf) ?_
  exact wE_mono (h σ H F mF ok) fun v H1 ⟨d, M1, o1, q⟩ => ⟨_, M1, o1.imp fun _ _ z => ⟨EnvR.set z.1 i z.2.1, z.2.2⟩, q⟩
/-- targets of names -/
inductive Tg where
  | nm (j : Nat) | tp (js : List Nat) | ls (js : List Nat)
def gNs : List Nat → TGs
  | [] => gNil
  | j :: js => gCons (gName j) (gNs js)
def gOf (K : PySem.W.Frag) : Tg → TG
  | .nm j => gName j
  | .tp js => gTup K js.length (gNs js)
  | .ls js => gUnl K js.length (gNs js)
def setAll (ds : Ds) : List Nat → List D → Ds
  | j :: js, d :: xs => setAll (ds.set j (some d)) js xs
  | _, _ => ds
def setAllV (σ : L2.St) : List Nat → List V → L2.St
  | j :: js, d :: xs => setAllV (σ.set j (some d)) js xs
  | _, _ => σ
def bindT (ds : Ds) : Tg → D → Option Ds
  | .nm j, d => some (ds.set j (some d))
  | .tp js, .tup xs => if xs.length = js.length then some (setAll ds js xs) else none
  | .ls js, .lst xs => if xs.length = js.length then some (setAll ds js xs) else none
  | _, _ => none
def slots : Tg → List Nat
  | .nm j => [j]
  | .tp js => js
  | .ls js => js
theorem gNs_ok {K : PySem.W.Frag} {H : Hp} {P : L2.St → Hp → Prop} : ∀ {js : List Nat} {vs : List V} {σ : L2.St}, vs.length = js.length → P (setAllV σ js vs) H → gNs js vs σ H P
  | [], [], σ, _, h => ⟨rfl, h⟩
  | [], _ :: _, _, h, _ => by simp at h
  | _ :: _, [], _, h, _ => by simp at h
  | j :: js, v :: vs, σ, h, q => ⟨v, vs, rfl, gNs_ok (K := K) (js := js) (vs := vs) (by simpa using h) q⟩
theorem EnvR.setAll {K : PySem.W.Frag} {G : Hp} : ∀ {js : List Nat} {xs : List D} {vs : List V} {ds : Ds} {σ : L2.St}, RpL K G xs vs → EnvR K G ds σ → EnvR K G (DL.setAll ds js xs) (setAllV σ js vs)
  | [], _, _, _, _, _, h => h
  | _ :: _, [], _, _, _, r, h => by
    cases r.nil_inv
    exact h
  | j :: js, x :: xs, _, ds, σ, r, h => by
    obtain ⟨v, rs, rfl, r1, r2⟩ := r.cons_inv
    exact EnvR.setAll (js := js) r2 (EnvR.set r1 j h)
/-- the target is stored; σ' is σ but for its slots -/
theorem bind_ok {σ : L2.St} {H : Hp} {F : Hp → Prop} {t : Tg} {d : D} {v : V} {ds' : Ds} {P : L2.St → Hp → Prop} (ok : Ok X.K M (fun G => Rp X.K G d v ∧ EnvR X.K G ds σ ∧ F G) H) (hb : bindT ds t d = some ds')
    (h : ∀ σ', (∃ vs, σ' = setAllV σ (slots t) vs) → Ok X.K M (fun G => EnvR X.K G ds' σ' ∧ F G) H → P σ' H) : gOf X.K t v σ H P := by
  cases t with
  | nm j =>
    cases hb
    exact h _ ⟨[v], rfl⟩ (ok.imp fun _ _ z => ⟨EnvR.set z.1 j z.2.1, z.2.2⟩)
  | tp js =>
    cases d with
    | tup xs =>
      simp only [bindT] at hb
      by_cases hl : xs.length = js.length
      · rw [if_pos hl] at hb
        cases hb
        obtain ⟨G, s, hM, z1, z2, z3⟩ := ok
        obtain ⟨p, vs, rfl, h1, h2⟩ := z1.tup_inv
        have hlv : vs.length = js.length := h2.length.trans hl
        exact ⟨p, vs, rfl, sqt_mono s h1, hlv, gNs_ok (K := X.K) hlv (h _ ⟨vs, rfl⟩ ⟨G, s, hM, EnvR.setAll h2 z2, z3⟩)⟩
      · rw [if_neg hl] at hb
        cases hb
    | _ => cases hb
  | ls js =>
    cases d with
    | lst xs =>
      simp only [bindT] at hb
      by_cases hl : xs.length = js.length
      · rw [if_pos hl] at hb
        cases hb
        obtain ⟨G, s, hM, z1, z2, z3⟩ := ok
        obtain ⟨p, vs, rfl, h1, h2⟩ := z1.lst_inv
        have hlv : vs.length = js.length := h2.length.trans hl
        exact ⟨p, vs, rfl, SqL.of (s.at h1), hlv, gNs_ok (K := X.K) hlv (h _ ⟨vs, rfl⟩ ⟨G, s, hM, EnvR.setAll h2 z2, z3⟩)⟩
      · rw [if_neg hl] at hb
        cases hb
    | _ => cases hb
/-- (x, y, ..) = e, x = e -/
theorem ws_asg {tg : Expr} (t : Tg) (hg : PG X tg (gOf X.K t)) (h : WE Pm X e M ds fun d M1 => ∃ ds', bindT ds t d = some ds' ∧ Dn.nx ds' M1)
    (hs : swapsWithSole [tg] e pos.line X.env = pure false := by rfl) (hw : swappedStores [tg] e X.env = pure none := by rfl) (h1 : (assignEach [tg] X.env).map (·.2) = [assign tg X.env] := by rfl) : WS Pm X (.Assign [tg] e pos) M ds Dn := by
  intro σ H F mF ok
  refine wS_of (ps_asg pe_w hg hs hw h1) ?_
  refine wE_mono (h σ H F mF ok) fun v H1 ⟨d, M1, o1, ds', hb, q⟩ => ?_
  exact bind_ok o1 hb fun σ' _ o2 => ⟨ds', M1, o2, q⟩
/-- x, y = a, b with plain local names -/
theorem ws_par2 (i j : Nat) {x y : Str} {px py pt : Pos} {kt k2 pt2} (hc : X.calm = true) (hN : X.N.Nodup) (hi : X.N[i]? = some x) (hj : X.N[j]? = some y) (h : WA Pm X [a, b] M ds fun xs M1 => ∃ d1 d2, xs = [d1, d2] ∧ Dn.nx ((ds.set i (some d1)).set j (some d2)) M1)
    (hij : i ≠ j := by decide) (hx : X.env.scope.names.lookup x = some .local := by rfl) (hy : X.env.scope.names.lookup y = some .local := by rfl)
    (hw : swappedStores [.Tuple [.Name x px, .Name y py] kt pt] (.Tuple [a, b] k2 pt2) X.env = pure (some [x, y]) := by with_unfolding_all rfl)
    (hs : swapsWithSole [.Tuple [.Name x px, .Name y py] kt pt] (.Tuple [a, b] k2 pt2) pos.line X.env = pure false := by rfl) :
    WS Pm X (.Assign [.Tuple [.Name x px, .Name y py] kt pt] (.Tuple [a, b] k2 pt2) pos) M ds Dn := by
  intro σ H F mF ok
  refine wS_of (ps_par (i := i) (j := j) hc hN hi hj hij hx hy pa_w hw hs) ?_
  refine wA_mono (h σ H F mF ok) fun vs H1 ⟨xs, M1, o1, d1, d2, e, q⟩ => ?_
  subst e
  obtain ⟨v, w, rfl⟩ : ∃ v w, vs = [v, w] := o1.use fun _ _ z => let ⟨v, w, a, _⟩ := z.1.two_inv; ⟨v, w, a⟩
  refine ⟨v, w, rfl, _, M1, o1.imp fun _ _ z => ?_, q⟩
  obtain ⟨v', w', e, r1, r2⟩ := z.1.two_inv
  cases e
  exact ⟨EnvR.set r2 j (EnvR.set r1 i z.2.1), z.2.2⟩
theorem RpL.three_inv {K : PySem.W.Frag} {G : Hp} {d e f : D} {vs : List V} (h : RpL K G [d, e, f] vs) : ∃ v w u, vs = [v, w, u] ∧ Rp K G d v ∧ Rp K G e w ∧ Rp K G f u := by
  obtain ⟨v, r, rfl, h1, h2⟩ := h.cons_inv
  obtain ⟨w, u, rfl, h3, h4⟩ := h2.two_inv
  exact ⟨v, w, u, rfl, h1, h3, h4⟩
theorem ws_par3 (i j l : Nat) {x y z : Str} {px py pz pt : Pos} {kt k2 pt2} (hc : X.calm = true) (hN : X.N.Nodup) (hi : X.N[i]? = some x) (hj : X.N[j]? = some y) (hl : X.N[l]? = some z)
    (h : WA Pm X [a, b, c] M ds fun xs M1 => ∃ d1 d2 d3, xs = [d1, d2, d3] ∧ Dn.nx (((ds.set i (some d1)).set j (some d2)).set l (some d3)) M1)
    (hij : i ≠ j := by decide) (hil : i ≠ l := by decide) (hjl : j ≠ l := by decide) (hx : X.env.scope.names.lookup x = some .local := by rfl) (hy : X.env.scope.names.lookup y = some .local := by rfl) (hz : X.env.scope.names.lookup z = some .local := by rfl)
    (hw : swappedStores [.Tuple [.Name x px, .Name y py, .Name z pz] kt pt] (.Tuple [a, b, c] k2 pt2) X.env = pure (some [x, y, z]) := by with_unfolding_all rfl)
    (hs : swapsWithSole [.Tuple [.Name x px, .Name y py, .Name z pz] kt pt] (.Tuple [a, b, c] k2 pt2) pos.line X.env = pure false := by rfl) :
    WS Pm X (.Assign [.Tuple [.Name x px, .Name y py, .Name z pz] kt pt] (.Tuple [a, b, c] k2 pt2) pos) M ds Dn := by
  intro σ H F mF ok
  refine wS_of (ps_par3 (i := i) (j := j) (l := l) hc hN hi hj hl hij hil hjl hx hy hz pa_w hw hs) ?_
  refine wA_mono (h σ H F mF ok) fun vs H1 ⟨xs, M1, o1, d1, d2, d3, e, q⟩ => ?_
  subst e
  obtain ⟨v, w, u, rfl⟩ : ∃ v w u, vs = [v, w, u] := o1.use fun _ _ z => let ⟨v, w, u, a, _⟩ := z.1.three_inv; ⟨v, w, u, a⟩
  refine ⟨v, w, u, rfl, _, M1, o1.imp fun _ _ z => ?_, q⟩
  obtain ⟨v', w', u', e, r1, r2, r3⟩ := z.1.three_inv
  cases e
  exact ⟨EnvR.set r3 l (EnvR.set r2 j (EnvR.set r1 i z.2.1)), z.2.2⟩
/-- x op= e -/
theorem ws_aug (i : Nat) {x : Str} {op : Operator} {pos' : Pos} {d0 : D} (hN : X.N.Nodup) (hi : X.N[i]? = some x) (hd : ds[i]? = some (some d0)) (h : WE Pm X e M ds fun y M1 => BinG Pm X (inplaceOp op) d0 y M1 fun z M2 => Dn.nx (ds.set i (some z)) M2)
    (hx : Loc X.env.scope x := by first | exact Or.inl rfl | exact Or.inr rfl) (hf : X.fn x = true ∨ X.env.scope.names.lookup x = some .local := by first | exact .inl rfl | exact .inr rfl) : WS Pm X (.AugAssign (.Name x pos') op e pos) M ds Dn := by
  intro σ H F mF ok
  refine wS_of (ps_aug (i := i) (ti := fun x y H Q => wOp X (inplaceOp op) x y H Q) hN hi hx pe_w (fun pins s σ H x y v u Q I r1 r2 h => h pins s σ v u I r1 r2) hf) ?_
  obtain ⟨v, hv⟩ : ∃ v, σ[i]? = some (some v) := ok.use fun G _ z => let ⟨v, a, _⟩ := z.1.get hd; ⟨v, a⟩
  refine ⟨v, hv, ?_⟩
  refine wE_mono (h σ H F mF ok) fun u H1 ⟨y, M1, o1, q⟩ => ?_
  refine wOp_mono (q v u H1 _ (mono_x mF) (o1.imp fun G _ z => ⟨?_, z⟩)) fun w H2 ⟨z, M2, o2, q2⟩ => ⟨_, M2, o2.imp fun _ _ z => ⟨EnvR.set z.1 i z.2.1, z.2.2⟩, q2⟩
  obtain ⟨v', e1, e2⟩ := z.2.1.get hd
  rw [hv] at e1
  cases e1
  exact e2

/-! ### what is walked -/
/-- J gives the n items, while F0 holds of the frozen part -/
structure Feeds (K : PySem.W.Frag) (J : It) (n : Nat) (item : Nat → D) (F0 : Hp → Prop) : Prop where
  mono : Mono1 F0
  goes : ∀ i H G, Le G H → F0 G → i < n → J.go i H
  stops : ∀ H G, Le G H → F0 G → J.stop n H
  gives : ∀ {Pm : Hp → Prop} i H M F, MonoF Pm F → Ok K M (fun G => F0 G ∧ F G) H → i < n → ∀ x H', J.yld i H x H' → Ok K M (fun G => Rp K G (item i) x ∧ F0 G ∧ F G) H'
def WI (Pm : Hp → Prop) (X : Cx) (tg iter : Expr) (M : Mst) (ds : Ds) (R : (n : Nat) → (Nat → D) → Mst → Prop) : Prop :=
  ∀ σ H F, MonoF Pm F → Ok X.K M (fun G => EnvR X.K G ds σ ∧ F G) H → ∃ wi, PI X tg iter wi ∧ ∀ R' : It → Hp → Prop, (∀ J H1 n item M1 F0, Feeds X.K J n item F0 → Ok X.K M1 (fun G => F0 G ∧ EnvR X.K G ds σ ∧ F G) H1 → R n item M1 → R' J H1) → wi σ H R'
theorem wE_inv {e : Expr} {σ : L2.St} {H : Hp} {Q : VK} (h : wE X e σ H Q) : wE X e σ H fun v H1 => (∃ pins s, Inv X pins σ H1 s) ∧ Q v H1 :=
  fun pins s I => thn (h pins s I) fun u s' ⟨v, H', a, b, c⟩ => ⟨v, H', a, b, ⟨pins, s', a⟩, c⟩
theorem wi_list {tg : Expr} {R : (n : Nat) → (Nat → D) → Mst → Prop} (h : WE Pm X e M ds fun d M1 => ∃ xs, d = .lst xs ∧ (xs.length ≤ sizeLine → R xs.length (fun i => xs.getD i .non) M1)) : WI Pm X tg e M ds R := by
  intro σ H F mF ok
  refine ⟨_, pi_list pe_w, fun R' k => ?_⟩
  refine wE_mono (wE_inv (h σ H F mF ok)) fun v H1 ⟨⟨pi, st, I⟩, d, M1, o1, xs, e, q⟩ => ?_
  subst e
  obtain ⟨p, vs, rfl, hH, hl⟩ : ∃ p vs, v = .ref p ∧ H1 p = some (.lst vs) ∧ vs.length = xs.length := o1.use fun G s z => by
    obtain ⟨p, vs, rfl, h1, h2⟩ := z.1.lst_inv
    exact ⟨p, vs, rfl, s.at h1, h2.length⟩
  have hz : xs.length ≤ sizeLine := by
    obtain ⟨its, r', pl, hz⟩ := I.list (SqL.of hH)
    omega
  refine ⟨p, rfl, ⟨vs, SqL.of hH⟩, k _ _ xs.length _ M1 (fun G => G p = some (.lst vs) ∧ RpL X.K G xs vs) ⟨fun G G' s z => ⟨s.at z.1, z.2.mono s⟩, fun i H G s z hi => ?_, fun H G s z => ?_, fun i H M F mF ok hi x H' y => ?_⟩ (o1.imp fun G s z => ⟨?_, z.2⟩) (q hz)⟩
  · exact walk_list.goes i H (by rw [hl]; exact hi) (SqL.of (s.at z.1))
  · rw [← hl]
    exact walk_list.stops H (SqL.of (s.at z.1))
  · obtain ⟨G, s, hM, z, zF⟩ := ok
    obtain ⟨rfl, e⟩ := walk_list.yields i H x H' (by rw [hl]; exact hi) (SqL.of (s.at z.1)) y
    obtain ⟨d, e1, e2⟩ := z.2.getV e
    refine ⟨G, s, hM, ?_, z, zF⟩
    rw [List.getD_eq_getElem?_getD, e1]
    exact e2
  · obtain ⟨p', vs', e0, h1, h2⟩ := z.1.lst_inv
    cases e0
    have e3 := s.at h1
    rw [hH] at e3
    cases e3
    exact ⟨h1, h2⟩
theorem wi_tup {tg : Expr} {R : (n : Nat) → (Nat → D) → Mst → Prop} (h : WE Pm X e M ds fun d M1 => ∃ xs, d = .tup xs ∧ (xs.length ≤ sizeLine → R xs.length (fun i => xs.getD i .non) M1)) : WI Pm X tg e M ds R := by
  intro σ H F mF ok
  refine ⟨_, pi_tup pe_w, fun R' k => ?_⟩
  refine wE_mono (wE_inv (h σ H F mF ok)) fun v H1 ⟨⟨pi, st, I⟩, d, M1, o1, xs, e, q⟩ => ?_
  subst e
  obtain ⟨G, s, hM, z1, z2⟩ := id o1
  obtain ⟨p, vs, rfl, h1, h2⟩ := z1.tup_inv
  have hl := h2.length
  have hz : xs.length ≤ sizeLine := by
    obtain ⟨its, r', pl, hz⟩ := I.tuple (sqt_mono s h1)
    omega
  refine ⟨p, rfl, ⟨vs, sqt_mono s h1⟩, k _ _ xs.length _ M1 (fun G => SqT X.K G p vs ∧ RpL X.K G xs vs) ⟨fun G G' s z => ⟨sqt_mono s z.1, z.2.mono s⟩, fun i H G s z hi => ?_, fun H G s z => ?_, fun i H M F mF ok hi x H' y => ?_⟩ ⟨G, s, hM, ⟨h1, h2⟩, z2⟩ (q hz)⟩
  · exact walk_tup.goes i H (by rw [hl]; exact hi) (sqt_mono s z.1)
  · rw [← hl]
    exact walk_tup.stops H (sqt_mono s z.1)
  · obtain ⟨G, s, hM, z, zF⟩ := ok
    obtain ⟨rfl, e⟩ := walk_tup.yields i H x H' (by rw [hl]; exact hi) (sqt_mono s z.1) y
    obtain ⟨d, e1, e2⟩ := z.2.getV e
    refine ⟨G, s, hM, ?_, z, zF⟩
    rw [List.getD_eq_getElem?_getD, e1]
    exact e2
theorem feeds_range {lo : Int} {n : Nat} : Feeds X.K (Itr lo n) n (fun i => .int (lo + i)) (fun _ => True) :=
  ⟨fun _ _ _ z => z, fun i H G s z hi => hi, fun H G s z => Nat.le_refl _, fun i H M F mF ok hi x H' y => by
    obtain ⟨rfl, rfl⟩ := y
    exact ok.imp fun _ _ z => ⟨rp_int, z⟩⟩
theorem wi_range1 {tg : Expr} {R : (n : Nat) → (Nat → D) → Mst → Prop} {p : Pos} (hm : X.mg "range" = none) (h : WA Pm X [e] M ds fun xs M1 => ∃ j : Int, xs = [.int j] ∧ -(2 ^ 62) ≤ j ∧ j < 2 ^ 62 ∧ R j.toNat (fun i => .int i) M1) (hg : Gl X "range" := by rfl)
    (hs : starEach [e] X.env = [(false, eval e X.env)] := by rfl) : WI Pm X tg (.Call (.Name "range" p) [e] [] pos) M ds R := by
  intro σ H F mF ok
  refine ⟨_, pi_range1 hg hm pa_w hs, fun R' kk => ?_⟩
  refine wA_mono (h σ H F mF ok) fun vs H1 ⟨xs, M1, o1, j, e, h1, h2, q⟩ => ?_
  subst e
  obtain rfl : vs = [.int j] := o1.use fun _ _ z => by
    obtain ⟨v, rfl, r⟩ := z.1.one_inv
    rw [r.int_inv]
  refine ⟨j, rfl, h1, h2, kk _ _ j.toNat _ M1 _ feeds_range (o1.imp fun _ _ z => ⟨trivial, z.2⟩) ?_⟩
  simpa using q
theorem wi_range2 {tg : Expr} {R : (n : Nat) → (Nat → D) → Mst → Prop} {p : Pos} (hm : X.mg "range" = none) (h : WA Pm X [a, b] M ds fun xs M1 => ∃ i j : Int, xs = [.int i, .int j] ∧ (-(2 ^ 62) ≤ i ∧ i < 2 ^ 62 ∧ -(2 ^ 62) ≤ j ∧ j < 2 ^ 62) ∧ R (j - i).toNat (fun k => .int (i + k)) M1) (hg : Gl X "range" := by rfl)
    (hs : starEach [a, b] X.env = [(false, eval a X.env), (false, eval b X.env)] := by rfl) (hs2 : starEach [b] X.env = [(false, eval b X.env)] := by rfl) : WI Pm X tg (.Call (.Name "range" p) [a, b] [] pos) M ds R := by
  intro σ H F mF ok
  refine ⟨_, pi_range2 hg hm pa_w hs hs2, fun R' kk => ?_⟩
  refine wA_mono (h σ H F mF ok) fun vs H1 ⟨xs, M1, o1, i, j, e, h1, q⟩ => ?_
  subst e
  obtain rfl : vs = [.int i, .int j] := o1.use fun _ _ z => by
    obtain ⟨v, w, rfl, r1, r2⟩ := z.1.two_inv
    rw [r1.int_inv, r2.int_inv]
  exact ⟨i, j, rfl, h1, kk _ _ _ _ M1 _ feeds_range (o1.imp fun _ _ z => ⟨trivial, z.2⟩) q⟩
theorem wi_range3 {tg : Expr} {R : (n : Nat) → (Nat → D) → Mst → Prop} {p : Pos} (hm : X.mg "range" = none) (h : WA Pm X [a, b, c] M ds fun xs M1 => ∃ (i j k : Int) (n : Nat), xs = [.int i, .int j, .int k] ∧ RgC i j k n ∧ R n (fun l => .int (i + (l : Nat) * k)) M1) (hg : Gl X "range" := by rfl)
    (hs : starEach [a, b, c] X.env = (false, eval a X.env) :: starEach [b, c] X.env := by rfl) (hpl : (backTo pos (starEach [b, c] X.env)).any (·.1) = false := by rfl) : WI Pm X tg (.Call (.Name "range" p) [a, b, c] [] pos) M ds R := by
  intro σ H F mF ok
  refine ⟨_, pi_range3 hg hm pa_w hs hpl, fun R' kk => ?_⟩
  refine wA_mono (h σ H F mF ok) fun vs H1 ⟨xs, M1, o1, i, j, k, n, e, h1, q⟩ => ?_
  subst e
  obtain rfl : vs = [.int i, .int j, .int k] := o1.use fun _ _ z => by
    obtain ⟨v, w, u, rfl, r1, r2, r3⟩ := z.1.three_inv
    rw [r1.int_inv, r2.int_inv, r3.int_inv]
  refine ⟨i, j, k, n, rfl, h1, kk _ _ n _ M1 (fun _ => True) ⟨fun _ _ _ z => z, fun i H G s z hi => hi, fun H G s z => Nat.le_refl _, fun i H M F mF ok hi x H' y => ?_⟩ (o1.imp fun _ _ z => ⟨trivial, z.2⟩) q⟩
  obtain ⟨rfl, rfl⟩ := y
  exact ok.imp fun _ _ z => ⟨rp_int, z⟩
end
end DL

/-! DL6: loops and comprehensions over data -/
namespace DL
open PySem PySem.Spec L2
open PyProof.Rows hiding St
section
variable {X : Cx} {Pm : Hp → Prop} {M : Mst} {ds : Ds} {Q : QD} {pos : Pos} {a b c e : Expr} {Dn : EndD}

/-! ### for, while -/
theorem ws_for (t : Tg) {tg iter : Expr} {body : List Stmt} (hp : PassesOwn (model X.prog X.w) X.A X.env X.xe) (hc : X.calm = true) (hg : PG X tg (gOf X.K t))
    (h : WI Pm X tg iter M ds fun n item M1 => ∃ Iv : Nat → Ds → Mst → Prop, Iv 0 ds M1 ∧ (∀ ds M, Iv n ds M → Dn.nx ds M) ∧
      ∀ i ds M, i < n → Iv i ds M → ∃ ds', bindT ds t (item i) = some ds' ∧ WSs Pm X body M ds' { Dn with nx := Iv (i + 1), ct := Iv (i + 1), bk := Dn.nx })
    (hs : ∀ x, foldedSetIterable iter X.env x = pure x := by intro _; rfl) : WS Pm X (.For tg iter body [] pos) M ds Dn := by
  intro σ H F mF ok
  obtain ⟨wi, pi, hw⟩ := h σ H F mF ok
  refine wS_of (ps_for hp hc pi hg pss_w hs) ?_
  refine hw _ fun J H1 n item M1 F0 fd o1 ⟨Iv, h0, hn, hs⟩ => ?_
  refine ⟨fun i m σ' H' => m = n - i ∧ i ≤ n ∧ ∃ ds' M', Ok X.K M' (fun G => F0 G ∧ EnvR X.K G ds' σ' ∧ F G) H' ∧ Iv i ds' M', ⟨n, by simp, Nat.zero_le _, ds, M1, o1, h0⟩, ?_⟩
  rintro i m σ' H' ⟨rfl, hi, ds', M', o', iv⟩
  by_cases hlt : i < n
  · refine .inr ⟨o'.use fun G s z => fd.goes i H' G s z.1 hlt, fun σ2 H2 => ∃ ds2 M2, Ok X.K M2 (fun G => F0 G ∧ EnvR X.K G ds2 σ2 ∧ F G) H2 ∧ Iv (i + 1) ds2 M2, fun σ2 H2 ⟨ds2, M2, o2, iv2⟩ => ⟨n - (i + 1), by omega, rfl, hlt, ds2, M2, o2, iv2⟩, fun x H2 y => ?_⟩
    have o2 := fd.gives i H' M' (fun G => EnvR X.K G ds' σ' ∧ F G) (mono_x mF) o' hlt x H2 y
    obtain ⟨ds2, hb, hbody⟩ := hs i ds' M' hlt iv
    refine bind_ok (F := fun G => F0 G ∧ F G) (o2.imp fun _ _ ⟨z1, z2, z3, z4⟩ => ⟨z1, z3, z2, z4⟩) hb fun σ3 _ o3 => ?_
    exact wSs_mono (hbody σ3 H2 (fun G => F0 G ∧ F G) (fd.mono.and mF) o3) (fun _ _ ⟨d, m, o, q⟩ => ⟨d, m, o.imp fun _ _ ⟨z1, z2, z3⟩ => ⟨z2, z1, z3⟩, q⟩) (fun _ _ ⟨d, m, o, q⟩ => ⟨d, m, o.imp fun _ _ ⟨z1, z2, z3⟩ => ⟨z1, z3⟩, q⟩)
      (fun _ _ ⟨d, m, o, q⟩ => ⟨d, m, o.imp fun _ _ ⟨z1, z2, z3⟩ => ⟨z1, z3⟩, q⟩) (fun _ _ ⟨d, m, o, q⟩ => ⟨d, m, o.imp fun _ _ ⟨z1, z2, z3⟩ => ⟨z2, z1, z3⟩, q⟩)
  · have e : i = n := by omega
    subst e
    exact .inl ⟨o'.use fun G s z => fd.stops H' G s z.1, ds', M', o'.imp fun _ _ z => z.2, hn _ _ iv⟩
theorem ws_while (Iv : Nat → Ds → Mst → Prop) {body : List Stmt} (hp : PassesOwn (model X.prog X.w) X.A X.env X.xe) (h0 : ∃ m, Iv m ds M)
    (hs : ∀ m ds M, Iv m ds M → WT Pm X c M ds fun k M1 => (k = true → WSs Pm X body M1 ds { Dn with nx := fun ds M => ∃ m', m' < m ∧ Iv m' ds M, ct := fun ds M => ∃ m', m' < m ∧ Iv m' ds M, bk := Dn.nx }) ∧ (k = false → Dn.nx ds M1)) : WS Pm X (.While c body [] pos) M ds Dn := by
  intro σ H F mF ok
  refine wS_of (ps_while hp pt_w pss_w) ?_
  refine ⟨fun m σ' H' => ∃ ds' M', Ok X.K M' (fun G => EnvR X.K G ds' σ' ∧ F G) H' ∧ Iv m ds' M', let ⟨m, h⟩ := h0; ⟨m, ds, M, ok, h⟩, ?_⟩
  rintro m σ' H' ⟨ds', M', o', iv⟩
  refine wT_mono (hs m ds' M' iv σ' H' F mF o') fun k H1 ⟨M1, o1, q1, q2⟩ => ?_
  cases k with
  | false => exact iteF ⟨ds', M1, o1, q2 rfl⟩
  | true =>
    refine iteT ⟨fun σ2 H2 => ∃ m', m' < m ∧ ∃ ds2 M2, Ok X.K M2 (fun G => EnvR X.K G ds2 σ2 ∧ F G) H2 ∧ Iv m' ds2 M2, fun σ2 H2 ⟨m', hm, ds2, M2, o2, iv2⟩ => ⟨m', hm, ds2, M2, o2, iv2⟩, ?_⟩
    exact wSs_mono (q1 rfl σ' H1 F mF o1) (fun _ _ ⟨d, M, o, m', hm, q⟩ => ⟨m', hm, d, M, o, q⟩) (fun _ _ z => z) (fun _ _ z => z) (fun _ _ ⟨d, M, o, m', hm, q⟩ => ⟨m', hm, d, M, o, q⟩)

/-- the n items are those of ys -/
def LI {α : Type} (ys : List α) (g : α → D) (n : Nat) (item : Nat → D) : Prop := n = ys.length ∧ ∀ i (h : i < ys.length), item i = g ys[i]
theorem li_map {α : Type} (ys : List α) (g : α → D) : LI ys g (ys.map g).length (fun i => (ys.map g).getD i .non) :=
  ⟨by simp, fun i h => by simp [List.getD_eq_getElem?_getD, List.getElem?_map, List.getElem?_eq_getElem h]⟩
theorem li_self (ys : List D) : LI ys id ys.length (fun i => ys.getD i .non) := ⟨rfl, fun i h => by simp [List.getD_eq_getElem?_getD, List.getElem?_eq_getElem h]⟩
theorem li_range (n : Nat) (g : Nat → D) : LI (List.range n) g n g := ⟨by simp, fun i h => by simp⟩
theorem ws_forL {α : Type} (t : Tg) (ys : List α) (g : α → D) (Iv : List α → Ds → Mst → Prop) {tg iter : Expr} {body : List Stmt} (hp : PassesOwn (model X.prog X.w) X.A X.env X.xe) (hc : X.calm = true) (hg : PG X tg (gOf X.K t))
    (h : WI Pm X tg iter M ds fun n item M1 => LI ys g n item ∧ Iv ys ds M1)
    (hn : ∀ ds M, Iv [] ds M → Dn.nx ds M)
    (hst : ∀ y r ds M, Iv (y :: r) ds M → ∃ ds', bindT ds t (g y) = some ds' ∧ WSs Pm X body M ds' { Dn with nx := Iv r, ct := Iv r, bk := Dn.nx })
    (hs : ∀ x, foldedSetIterable iter X.env x = pure x := by intro _; rfl) : WS Pm X (.For tg iter body [] pos) M ds Dn := by
  refine ws_for t hp hc hg ?_ hs
  intro σ H F mF ok
  obtain ⟨wi, pi, hw⟩ := h σ H F mF ok
  refine ⟨wi, pi, fun R' k => hw R' fun J H1 n item M1 F0 fd o1 ⟨⟨l1, l2⟩, iv⟩ => k J H1 n item M1 F0 fd o1 ⟨fun i ds M => Iv (ys.drop i) ds M, by simpa using iv, fun ds M q => hn ds M (by rw [l1, List.drop_length] at q; exact q), fun i ds M hi q => ?_⟩⟩
  have hi' : i < ys.length := by rw [l1] at hi; exact hi
  replace q : Iv (ys.drop i) ds M := q
  rw [List.drop_eq_getElem_cons hi'] at q
  obtain ⟨ds', h1, h2⟩ := hst _ _ ds M q
  exact ⟨ds', by rw [l2 i hi']; exact h1, h2⟩

/-! ### comprehensions -/
def wipeD (ds : Ds) : List Nat → Ds
  | [] => ds
  | v :: vs => (wipeD ds vs).set v none
theorem EnvR.setN {K : PySem.W.Frag} {G : Hp} : ∀ {ds : Ds} {σ : L2.St} (i : Nat), EnvR K G ds σ → EnvR K G (ds.set i none) (σ.set i none)
  | [], _, _, h => by
    have h : _ = [] := h
    subst h
    rfl
  | o :: ds, _, 0, ⟨s, q, e, _, h3⟩ => by subst e; exact ⟨none, q, rfl, trivial, h3⟩
  | o :: ds, _, i + 1, ⟨s, q, e, h2, h3⟩ => by subst e; exact ⟨s, _, rfl, h2, EnvR.setN i h3⟩
theorem EnvR.wipe {K : PySem.W.Frag} {G : Hp} {ds : Ds} {σ : L2.St} (h : EnvR K G ds σ) : ∀ vs : List Nat, EnvR K G (wipeD ds vs) (L2.wipe σ vs)
  | [] => h
  | v :: vs => EnvR.setN v (EnvR.wipe h vs)
theorem wipe_in {σ : L2.St} {i : Nat} : ∀ {vs : List Nat}, i ∈ vs → (wipe σ vs)[i]? = (σ[i]?).map fun _ => none
  | [], h => by cases h
  | v :: vs, h => by
    unfold wipe
    by_cases e : v = i
    · subst e
      by_cases hl : v < σ.length
      · rw [List.getElem?_set_self (by rw [wipe_length]; exact hl), List.getElem?_eq_getElem hl]; rfl
      · rw [List.getElem?_eq_none (by rw [List.length_set, wipe_length]; omega), List.getElem?_eq_none (by omega)]; rfl
    · rw [List.getElem?_set_ne e]
      exact wipe_in ((List.mem_cons.mp h).resolve_left fun q => e q.symm)
theorem wipe_set {σ : L2.St} {j : Nat} {x : Option V} {vs : List Nat} (h : j ∈ vs) : wipe (σ.set j x) vs = wipe σ vs := by
  apply List.ext_getElem?
  intro i
  by_cases hi : i ∈ vs
  · rw [wipe_in hi, wipe_in hi]
    by_cases e : j = i
    · subst e
      by_cases hl : j < σ.length
      · rw [List.getElem?_set_self hl, List.getElem?_eq_getElem hl]; rfl
      · rw [List.getElem?_eq_none (by rw [List.length_set]; omega), List.getElem?_eq_none (by omega)]
    · rw [List.getElem?_set_ne e]
  · rw [wipe_out hi, wipe_out hi, List.getElem?_set_ne (fun e => hi (by rw [← e]; exact h))]
theorem wipe_setAll {vs : List Nat} : ∀ {js : List Nat} {us : List V} {σ : L2.St}, (∀ j ∈ js, j ∈ vs) → wipe (setAllV σ js us) vs = wipe σ vs
  | [], _, _, _ => by unfold setAllV; rfl
  | j :: js, [], _, _ => rfl
  | j :: js, u :: us, σ, h => by
    show wipe (setAllV (σ.set j (some u)) js us) vs = _
    rw [wipe_setAll fun i hi => h i (List.mem_cons_of_mem _ hi), wipe_set (h j List.mem_cons_self)]
theorem wipe_wipe {σ : L2.St} {vs : List Nat} : wipe (wipe σ vs) vs = wipe σ vs := by
  apply List.ext_getElem?
  intro i
  by_cases hi : i ∈ vs
  · rw [wipe_in hi, wipe_in hi]; cases σ[i]? <;> rfl
  · rw [wipe_out hi, wipe_out hi]
theorem delM_updM' {M : Mst} {p : Addr} {d : D} (h : M p = none) : delM (updM M p d) p = M := by
  funext b
  unfold delM updM
  by_cases e : b = p
  · subst e; rw [if_pos rfl, h]
  · rw [if_neg e, if_neg e]
abbrev wTs (X : Cx) (ifs : List Expr) : TT := fun σ H Q => ∀ pins s, Inv X pins σ H s →
  wpAny (model X.prog X.w) X.A (forIn ifs true fun c r => if r = true then do let ok ← isTrue c X.env (eval c X.env); pure (ForInStep.yield ok) else pure (ForInStep.yield r)) (TP X pins σ Q) X.xe s
def WTs (Pm : Hp → Prop) (X : Cx) (ifs : List Expr) (M : Mst) (ds : Ds) (Q : Bool → Mst → Prop) : Prop :=
  ∀ σ H F, MonoF Pm F → Ok X.K M (fun G => EnvR X.K G ds σ ∧ F G) H → wTs X ifs σ H (EndT X.K (fun G => EnvR X.K G ds σ ∧ F G) Q)
theorem wts_nil {Q : Bool → Mst → Prop} (q : Q true M) : WTs Pm X [] M ds Q := fun σ H F mF ok pins s I => pts_nil.run pins s σ H _ I ⟨M, ok, q⟩
theorem wts_one {Q : Bool → Mst → Prop} (h : WT Pm X c M ds Q) : WTs Pm X [c] M ds Q := fun σ H F mF ok pins s I => (pts_one pt_w).run pins s σ H _ I (h σ H F mF ok)
/-- the readings of all contexts of a block -/
abbrev uE (X : Cx) (scope : Scope) (e : Expr) : TE := fun σ H Q => ∀ s0 H0 C cl fp, wE (X.blk s0 H0 scope (compEnvC scope cl C X.env) fp) e σ H Q
abbrev uTs (X : Cx) (scope : Scope) (ifs : List Expr) : TT := fun σ H Q => ∀ s0 H0 C cl fp, wTs (X.blk s0 H0 scope (compEnvC scope cl C X.env) fp) ifs σ H Q
/-- a judgement in all contexts of a block -/
abbrev InB (X : Cx) (scope : Scope) (P : Cx → Prop) : Prop := ∀ (s0 : Shared) (H0 : Hp) (C : Addr) (cl : List (Str × Addr)) (fp : List Addr), P (X.blk s0 H0 scope (compEnvC scope cl C X.env) fp)
/-- what a list comprehension's turns do: Iv by the turn, the items so far, the state -/
def LcT (Pm : Hp → Prop) (X : Cx) (scope : Scope) (t : Tg) (vs : List Nat) (ifs : List Expr) (elt : Expr) (ds : Ds) (n : Nat) (item : Nat → D) (Iv : Nat → List D → Mst → Prop) : Prop :=
  ∀ i acc M p, i < n → Iv i acc M → M p = none → ∃ ds', bindT (wipeD ds vs) t (item i) = some ds' ∧
    InB X scope fun Y => WTs Pm Y ifs (updM M p (.lst acc)) ds' fun k M2 => ∃ M3, M2 = updM M3 p (.lst acc) ∧ M3 p = none ∧
      (k = true → InB X scope fun Y => WE Pm Y elt (updM M3 p (.lst acc)) ds' fun d M4 => ∃ M5, M4 = updM M5 p (.lst acc) ∧ M5 p = none ∧ Iv (i + 1) (acc ++ [d]) M5) ∧ (k = false → Iv (i + 1) acc M3)
theorem lc_core {tg iter elt : Expr} {ifs : List Expr} {scope : Scope} {vs : List Nat} (t : Tg) (hsub : ∀ j ∈ slots t, j ∈ vs) {R : Nat → (Nat → D) → Mst → Prop} (h : WI Pm X tg iter M ds R) {Q : QD}
    (hR : ∀ n item M1, R n item M1 → n ≤ sizeLine ∧ ∃ Iv : Nat → List D → Mst → Prop, Iv 0 [] M1 ∧ (∀ acc M2, Iv n acc M2 → Q (.lst acc) M2) ∧ LcT Pm X scope t vs ifs elt ds n item Iv)
    {σ : L2.St} {H : Hp} {F : Hp → Prop} {Qf : VK} (mF : MonoF Pm F) (ok : Ok X.K M (fun G => EnvR X.K G ds σ ∧ F G) H) (hf : ∀ v H', EndE X.K (fun G => EnvR X.K G ds σ ∧ F G) Q v H' → Qf v H') :
    ∃ wi, PI X tg iter wi ∧ tLc wi (gOf X.K t) (uTs X scope ifs) (uE X scope elt) vs σ H Qf := by
  obtain ⟨wi, pi, hw⟩ := h σ H F mF ok
  refine ⟨wi, pi, hw _ fun J H1 n item M1 F0 fd o1 r => ?_⟩
  obtain ⟨hz, Iv, h0, hend, step⟩ := hR n item M1 r
  intro p hp
  have hp1 : M1 p = none := o1.free hp
  have o1' : Ok X.K (updM M1 p (.lst [])) (fun G => F0 G ∧ EnvR X.K G ds σ ∧ F G) (upd H1 p (.lst [])) := o1.newM hp fun _ _ _ => ⟨[], rfl, RpL.nil⟩
  have mAll : MonoF Pm (fun G => F0 G ∧ EnvR X.K G ds σ ∧ F G) := fd.mono.and (mono_x mF)
  refine ⟨fun i m H' => m = n - i ∧ i ≤ n ∧ ∃ acc M', Ok X.K (updM M' p (.lst acc)) (fun G => F0 G ∧ EnvR X.K G ds σ ∧ F G) H' ∧ M' p = none ∧ acc.length ≤ i ∧ Iv i acc M', ⟨n, by simp, Nat.zero_le _, [], M1, o1', hp1, Nat.le_refl _, h0⟩, ?_⟩
  rintro i m H' ⟨rfl, hi, acc, M', o', hM', hacc, iv⟩
  by_cases hlt : i < n
  · refine .inr ⟨o'.use fun G s z => fd.goes i H' G s z.1 hlt, fun H2 => ∃ acc2 M2, Ok X.K (updM M2 p (.lst acc2)) (fun G => F0 G ∧ EnvR X.K G ds σ ∧ F G) H2 ∧ M2 p = none ∧ acc2.length ≤ i + 1 ∧ Iv (i + 1) acc2 M2,
      fun H2 ⟨acc2, M2, o2, a2, b2, iv2⟩ => ⟨n - (i + 1), by omega, rfl, hlt, acc2, M2, o2, a2, b2, iv2⟩, fun x H2 y => ?_⟩
    have o2 := fd.gives i H' _ (fun G => EnvR X.K G ds σ ∧ F G) (mono_x mF) o' hlt x H2 y
    obtain ⟨ds', hb, htest⟩ := step i acc M' p hlt iv hM'
    refine bind_ok (F := fun G => F0 G ∧ EnvR X.K G ds σ ∧ F G) (o2.imp fun _ _ ⟨z1, z2, z3, z4⟩ => ⟨z1, z3.wipe vs, z2, z3, z4⟩) hb fun σ3 ⟨us, e3⟩ o3 => ?_
    refine ⟨by rw [e3, wipe_setAll hsub, wipe_wipe], fun s0 H0 C cl fp => ?_⟩
    intro pins s I
    refine thn (htest s0 H0 C cl fp σ3 H2 _ mAll o3 pins s I) fun k s1 ⟨H3, I3, M2, o4, M3, e4, hM3, q1, q2⟩ => ⟨H3, I3, ?_⟩
    subst e4
    cases k with
    | false => exact iteF ⟨acc, M3, o4.imp fun _ _ z => z.2, hM3, by omega, q2 rfl⟩
    | true =>
      refine iteT fun s0 H0 C cl fp => ?_
      refine wE_mono (q1 rfl s0 H0 C cl fp σ3 H3 _ mAll o4) fun v H4 ⟨d, M4, o5, M5, e5, hM5, q⟩ => ?_
      subst e5
      obtain ⟨G, s, hM, z⟩ := id o5
      obtain ⟨_, ws, hw, hr⟩ := hM p _ updM_same
      have hl := hr.length
      refine ⟨ws, hw, by omega, acc ++ [d], M5, ?_, hM5, by simp; omega, q⟩
      have o6 := o5.setM (o := .lst (ws ++ [v])) (d := .lst (acc ++ [d])) updM_same fun G' s' z' ⟨ws', e', r'⟩ => by
        rw [hw] at e'
        cases e'
        exact ⟨_, rfl, r'.append (RpL.cons z'.1 RpL.nil)⟩
      rw [updM_updM] at o6
      exact o6.imp fun _ _ z => z.2.2
  · have e : i = n := by omega
    subst e
    refine .inl ⟨o'.use fun G s z => fd.stops H' G s z.1, hf _ _ ⟨.lst acc, M', ?_, hend _ _ iv⟩⟩
    obtain ⟨G, s, hM, z⟩ := id o'
    obtain ⟨_, ws, hw, hr⟩ := hM p _ updM_same
    have o7 := o'.freeze mAll updM_same hw
    rw [delM_updM' hM'] at o7
    refine o7.imp fun G s z => ?_
    obtain ⟨g1, ⟨ws', e', r'⟩, g2, g3, g4⟩ := z
    cases e'
    exact ⟨rp_lst g1 r', g3, g4⟩
theorem we_lcG {tg iter elt : Expr} {ifs : List Expr} {scope : Scope} {own : List (Str × Nat)} (t : Tg) (hc : X.calm = true) (hN : X.N.Nodup) (ok : BlkOk X.N X.env.scope scope own) (hsub : ∀ j ∈ slots t, j ∈ own.map (·.2))
    (hg : InB X scope fun Y => PG Y tg (gOf X.K t)) {R : Nat → (Nat → D) → Mst → Prop} (h : WI Pm X tg iter M ds R)
    (hR : ∀ n item M1, R n item M1 → n ≤ sizeLine ∧ ∃ Iv : Nat → List D → Mst → Prop, Iv 0 [] M1 ∧ (∀ acc M2, Iv n acc M2 → Q (.lst acc) M2) ∧ LcT Pm X scope t (own.map (·.2)) ifs elt ds n item Iv)
    (hs : ∀ x, foldedSetIterable iter X.env x = pure x := by intro _; rfl) : WE Pm X (.ListComp elt [⟨tg, iter, ifs, 0⟩] scope pos) M ds Q := by
  intro σ H F mF o
  obtain ⟨wi, pi, hw⟩ := lc_core t hsub h hR mF o (fun _ _ z => z)
  exact wE_of (pe_lc hc hN pi ok hg (tt := uTs X scope ifs) (te := uE X scope elt) (fun s H C cl fp => ⟨fun pins s' σ H Q I h => h _ _ _ _ _ pins s' I⟩) (fun s H C cl fp => ⟨fun pins s' σ H Q I h => h _ _ _ _ _ pins s' I⟩) hs) hw
/-- y = [..] on one line -/
theorem ws_lcG (i : Nat) {y : Str} {py : Pos} {spos : Pos} {tg iter elt : Expr} {ifs : List Expr} {scope : Scope} {own : List (Str × Nat)} (t : Tg) (hc : X.calm = true) (hN : X.N.Nodup) (hy : X.N[i]? = some y) (ok : BlkOk X.N X.env.scope scope own) (hsub : ∀ j ∈ slots t, j ∈ own.map (·.2))
    (hg : InB X scope fun Y => PG Y tg (gOf X.K t)) {R : Nat → (Nat → D) → Mst → Prop} (h : WI Pm X tg iter M ds R)
    (hR : ∀ n item M1, R n item M1 → n ≤ sizeLine ∧ ∃ Iv : Nat → List D → Mst → Prop, Iv 0 [] M1 ∧ (∀ acc M2, Iv n acc M2 → Dn.nx (ds.set i (some (.lst acc))) M2) ∧ LcT Pm X scope t (own.map (·.2)) ifs elt ds n item Iv)
    (hyl : X.env.scope.names.lookup y = some .local := by rfl) (hsw : swapsWith (.ListComp elt [⟨tg, iter, ifs, 0⟩] scope pos) (some (.Name y py)) spos.line X.env = pure true := by exact sw_true rfl rfl rfl rfl)
    (hs : ∀ x, foldedSetIterable iter X.env x = pure x := by intro _; rfl) : WS Pm X (.Assign [.Name y py] (.ListComp elt [⟨tg, iter, ifs, 0⟩] scope pos) spos) M ds Dn := by
  intro σ H F mF o
  obtain ⟨wi, pi, hw⟩ := lc_core t hsub h (Q := fun d M2 => ∃ acc, d = .lst acc ∧ Dn.nx (ds.set i (some (.lst acc))) M2) (Qf := fun x H1 => gName i x σ H1 (Dn.to X.K F).nx)
    (fun n item M1 r => let ⟨a, Iv, b, c, d⟩ := hR n item M1 r; ⟨a, Iv, b, fun acc M2 z => ⟨acc, rfl, c acc M2 z⟩, d⟩) mF o fun v H' z => by
      obtain ⟨d, M2, o2, acc, e, q⟩ := z
      subst e
      exact ⟨_, M2, o2.imp fun _ _ z => ⟨EnvR.set z.1 i z.2.1, z.2.2⟩, q⟩
  exact wS_of (ps_setLc (i := i) hc hN hy hyl hsw pi ok hg (tt := uTs X scope ifs) (te := uE X scope elt) (fun s H C cl fp => ⟨fun pins s' σ H Q I h => h _ _ _ _ _ pins s' I⟩) (fun s H C cl fp => ⟨fun pins s' σ H Q I h => h _ _ _ _ _ pins s' I⟩) hs) hw
end
end DL

/-! DL7: pure comprehensions, dicts, methods, slices, texts -/
namespace DL
open PySem PySem.Spec L2
open PyProof.Rows hiding St
section
variable {X : Cx} {Pm : Hp → Prop} {M : Mst} {ds : Ds} {Q : QD} {pos : Pos} {a b c e : Expr} {Dn : EndD}

/-! ### pure list comprehensions -/
def Sub (M M' : Mst) : Prop := ∀ q d, M q = some d → M' q = some d
theorem sub_upd {M : Mst} {p : Addr} {d : D} (h : M p = none) : Sub M (updM M p d) := fun q e hq => by
  rw [updM_ne (fun z => by rw [z, h] at hq; cases hq)]; exact hq
def PureT {α : Type} (Pm : Hp → Prop) (X : Cx) (scope : Scope) (t : Tg) (vs : List Nat) (ifs : List Expr) (elt : Expr) (ds : Ds) (M1 : Mst) (ys : List α) (g : α → D) (p : α → Bool) (f : α → D) : Prop :=
  ∀ y, y ∈ ys → ∀ M', Sub M1 M' → ∃ ds', bindT (wipeD ds vs) t (g y) = some ds' ∧ (InB X scope fun Y => WTs Pm Y ifs M' ds' fun k M2 => k = p y ∧ M2 = M') ∧ (p y = true → InB X scope fun Y => WE Pm Y elt M' ds' fun d M2 => d = f y ∧ M2 = M')
theorem lct_pure {α : Type} {scope : Scope} {t : Tg} {vs : List Nat} {ifs : List Expr} {elt : Expr} {n : Nat} {item : Nat → D} {M1 : Mst} {ys : List α} {g : α → D} {p : α → Bool} {f : α → D} (l : LI ys g n item) (h : PureT Pm X scope t vs ifs elt ds M1 ys g p f) :
    LcT Pm X scope t vs ifs elt ds n item fun i acc M2 => M2 = M1 ∧ acc = ((ys.take i).filter p).map f := by
  rintro i acc M p' hi ⟨rfl, rfl⟩ hp
  obtain ⟨l1, l2⟩ := l
  have hi' : i < ys.length := by omega
  obtain ⟨ds', hb, h1, h2⟩ := h ys[i] (List.getElem_mem hi') _ (sub_upd (d := .lst (((ys.take i).filter p).map f)) hp)
  have e1 : ys.take (i + 1) = ys.take i ++ [ys[i]] := by rw [List.take_add_one, List.getElem?_eq_getElem hi']; rfl
  have e2 : ((ys.take (i + 1)).filter p).map f = ((ys.take i).filter p).map f ++ (if p ys[i] = true then [f ys[i]] else []) := by
    rw [e1, List.filter_append, List.map_append]
    by_cases q : p ys[i] = true <;> simp [q]
  refine ⟨ds', by rw [l2 i hi']; exact hb, fun s0 H0 C cl fp σ H F mF ok => ?_⟩
  refine fun pins s I => thn (h1 s0 H0 C cl fp σ H F mF ok pins s I) fun k s' ⟨H', I', M2, o2, k1, k2⟩ => ⟨H', I', M2, o2, M, k2, hp, fun hk => ?_, fun hk => ⟨rfl, ?_⟩⟩
  · have hp' : p ys[i] = true := by rw [← k1]; exact hk
    intro s0 H0 C cl fp σ H F mF ok
    refine wE_mono (h2 hp' s0 H0 C cl fp σ H F mF ok) fun v H2 ⟨d, M4, o4, d1, d2⟩ => ⟨d, M4, o4, M, d2, hp, rfl, ?_⟩
    rw [e2, if_pos hp', d1]
  · have hp' : ¬ p ys[i] = true := by rw [← k1, hk]; exact Bool.false_ne_true
    rw [e2, if_neg hp', List.append_nil]
theorem we_lcP {α : Type} (t : Tg) (ys : List α) (g : α → D) (p : α → Bool) (f : α → D) {tg iter elt : Expr} {ifs : List Expr} {scope : Scope} {own : List (Str × Nat)} (hc : X.calm = true) (hN : X.N.Nodup) (ok : BlkOk X.N X.env.scope scope own) (hsub : ∀ j ∈ slots t, j ∈ own.map (·.2))
    (hg : InB X scope fun Y => PG Y tg (gOf X.K t))
    (h : WI Pm X tg iter M ds fun n item M1 => n ≤ sizeLine ∧ LI ys g n item ∧ PureT Pm X scope t (own.map (·.2)) ifs elt ds M1 ys g p f ∧ Q (.lst ((ys.filter p).map f)) M1)
    (hs : ∀ x, foldedSetIterable iter X.env x = pure x := by intro _; rfl) : WE Pm X (.ListComp elt [⟨tg, iter, ifs, 0⟩] scope pos) M ds Q :=
  we_lcG t hc hN ok hsub hg h (fun n item M1 ⟨hz, l, hp, q⟩ => ⟨hz, _, ⟨rfl, rfl⟩, fun acc M2 ⟨e1, e2⟩ => by subst e1; rw [e2, l.1, List.take_length]; exact q, lct_pure l hp⟩) hs
theorem ws_lcP (i : Nat) {α : Type} (t : Tg) (ys : List α) (g : α → D) (p : α → Bool) (f : α → D) {y : Str} {py : Pos} {spos : Pos} {tg iter elt : Expr} {ifs : List Expr} {scope : Scope} {own : List (Str × Nat)} (hc : X.calm = true) (hN : X.N.Nodup) (hy : X.N[i]? = some y) (ok : BlkOk X.N X.env.scope scope own) (hsub : ∀ j ∈ slots t, j ∈ own.map (·.2))
    (hg : InB X scope fun Y => PG Y tg (gOf X.K t))
    (h : WI Pm X tg iter M ds fun n item M1 => n ≤ sizeLine ∧ LI ys g n item ∧ PureT Pm X scope t (own.map (·.2)) ifs elt ds M1 ys g p f ∧ Dn.nx (ds.set i (some (.lst ((ys.filter p).map f)))) M1)
    (hyl : X.env.scope.names.lookup y = some .local := by rfl) (hsw : swapsWith (.ListComp elt [⟨tg, iter, ifs, 0⟩] scope pos) (some (.Name y py)) spos.line X.env = pure true := by exact sw_true rfl rfl rfl rfl)
    (hs : ∀ x, foldedSetIterable iter X.env x = pure x := by intro _; rfl) : WS Pm X (.Assign [.Name y py] (.ListComp elt [⟨tg, iter, ifs, 0⟩] scope pos) spos) M ds Dn :=
  ws_lcG i t hc hN hy ok hsub hg h (fun n item M1 ⟨hz, l, hp, q⟩ => ⟨hz, _, ⟨rfl, rfl⟩, fun acc M2 ⟨e1, e2⟩ => by subst e1; rw [e2, l.1, List.take_length]; exact q, lct_pure l hp⟩) hyl hsw hs

/-! ### dicts: keys ints or texts -/
def keyD : Key → D
  | .inl i => .int i
  | .inr x => .str x
theorem Rp.key {K : PySem.W.Frag} {G : Hp} {k : Key} {v : V} (h : Rp K G (keyD k) v) : v = kV k := by
  cases k with
  | inl i => exact h.int_inv
  | inr x => exact h.str_inv
def getD (kvs : List (Key × D)) (k : Key) : Option D := (kvs.find? fun kv => decide (kv.1 = k)).map (·.2)
def putD (kvs : List (Key × D)) (k : Key) (v : D) : List (Key × D) :=
  if (kvs.any fun kv => decide (kv.1 = k)) = true then kvs.map (fun kv => if kv.1 = k then (kv.1, v) else kv) else kvs ++ [(k, v)]
theorem RpK.nil_inv {K : PySem.W.Frag} {G : Hp} {ws : List (Key × V)} (h : RpK K G [] ws) : ws = [] := by simpa only [RpK] using h
theorem RpK.cons_inv {K : PySem.W.Frag} {G : Hp} {k : Key} {d : D} {kvs : List (Key × D)} {ws : List (Key × V)} (h : RpK K G ((k, d) :: kvs) ws) : ∃ v r, ws = (k, v) :: r ∧ Rp K G d v ∧ RpK K G kvs r := by simpa only [RpK] using h
theorem RpK.nil {K : PySem.W.Frag} {G : Hp} : RpK K G [] [] := by simp only [RpK]
theorem RpK.cons {K : PySem.W.Frag} {G : Hp} {k : Key} {d : D} {v : V} {kvs : List (Key × D)} {ws : List (Key × V)} (h : Rp K G d v) (t : RpK K G kvs ws) : RpK K G ((k, d) :: kvs) ((k, v) :: ws) := by
  simp only [RpK]; exact ⟨v, ws, rfl, h, t⟩
theorem RpK.get {K : PySem.W.Frag} {G : Hp} {k : Key} : ∀ {kvs : List (Key × D)} {ws : List (Key × V)}, RpK K G kvs ws → (match getD kvs k with | some d => ∃ v, valV ws k = some v ∧ Rp K G d v | none => valV ws k = none)
  | [], _, h => by cases h.nil_inv; rfl
  | (k', d) :: kvs, _, h => by
    obtain ⟨v, r, rfl, h1, h2⟩ := h.cons_inv
    have ih := RpK.get (k := k) h2
    by_cases e : k' = k
    · subst e
      simp only [getD, valV, List.find?_cons, decide_true, Option.map_some]
      exact ⟨v, rfl, h1⟩
    · simp only [getD, valV, List.find?_cons, decide_eq_false e] at ih ⊢
      exact ih
theorem RpK.any {K : PySem.W.Frag} {G : Hp} {k : Key} : ∀ {kvs : List (Key × D)} {ws : List (Key × V)}, RpK K G kvs ws → (ws.any fun kv => decide (kv.1 = k)) = kvs.any fun kv => decide (kv.1 = k)
  | [], _, h => by cases h.nil_inv; rfl
  | (k', d) :: kvs, _, h => by
    obtain ⟨v, r, rfl, h1, h2⟩ := h.cons_inv
    simp only [List.any_cons, RpK.any h2]
theorem RpK.length {K : PySem.W.Frag} {G : Hp} : ∀ {kvs : List (Key × D)} {ws : List (Key × V)}, RpK K G kvs ws → ws.length = kvs.length
  | [], _, h => by cases h.nil_inv; rfl
  | (k', d) :: kvs, _, h => by
    obtain ⟨v, r, rfl, h1, h2⟩ := h.cons_inv
    simp [RpK.length h2]
theorem RpK.app {K : PySem.W.Frag} {G : Hp} {k : Key} {d : D} {v : V} (q : Rp K G d v) : ∀ {kvs : List (Key × D)} {ws : List (Key × V)}, RpK K G kvs ws → RpK K G (kvs ++ [(k, d)]) (ws ++ [(k, v)])
  | [], _, h => by cases h.nil_inv; exact RpK.cons q RpK.nil
  | (k', d') :: kvs, _, h => by
    obtain ⟨v', r, rfl, h1, h2⟩ := h.cons_inv
    exact RpK.cons h1 (RpK.app q h2)
theorem RpK.repl {K : PySem.W.Frag} {G : Hp} {k : Key} {d : D} {v : V} (q : Rp K G d v) : ∀ {kvs : List (Key × D)} {ws : List (Key × V)}, RpK K G kvs ws → RpK K G (kvs.map fun kv => if kv.1 = k then (kv.1, d) else kv) (ws.map fun kv => if kv.1 = k then (kv.1, v) else kv)
  | [], _, h => by cases h.nil_inv; exact RpK.nil
  | (k', d') :: kvs, _, h => by
    obtain ⟨v', r, rfl, h1, h2⟩ := h.cons_inv
    by_cases e : k' = k
    · simp only [List.map_cons, if_pos e]
      exact RpK.cons q (RpK.repl q h2)
    · simp only [List.map_cons, if_neg e]
      exact RpK.cons h1 (RpK.repl q h2)
theorem RpK.put {K : PySem.W.Frag} {G : Hp} {k : Key} {d : D} {v : V} {kvs : List (Key × D)} {ws : List (Key × V)} (h : RpK K G kvs ws) (q : Rp K G d v) : RpK K G (putD kvs k d) (putK ws k v) := by
  unfold putD putK
  rw [h.any]
  by_cases e : (kvs.any fun kv => decide (kv.1 = k)) = true
  · rw [if_pos e, if_pos e]; exact RpK.repl q h
  · rw [if_neg e, if_neg e]; exact RpK.app q h
theorem rd_of {H : Hp} {p : Addr} {ws : List (Key × V)} {o : HO} (h : H p = some o) (e : uf o = .dK ws) : Rd H p (.dK ws) := by
  unfold uf at e
  split at e
  · cases e; exact .inr ⟨_, h⟩
  · cases e
  · subst e; exact .inl h
theorem rd_frz {G H : Hp} (s : Le G H) {p : Addr} {ws : List (Key × V)} (h : DcK G p (.dK ws)) : Rd H p (.dK ws) := by
  obtain ⟨o, h1, h2⟩ := h
  obtain ⟨o', h3, h4⟩ := s p o h1
  exact rd_of h3 (h4.trans h2)
/-- where a dict is: written out, or mutable at an address -/
def IsDct (M : Mst) (x : D) (kvs : List (Key × D)) : Prop := x = .dct kvs ∨ ∃ p, x = .raw (.ref p) ∧ M p = some (.dct kvs)
theorem isDct_at {F : Hp → Prop} {H : Hp} {x : D} {v : V} {kvs : List (Key × D)} (h : IsDct M x kvs) (ok : Ok X.K M (fun G => Rp X.K G x v ∧ F G) H) : ∃ p ws, v = .ref p ∧ Rd H p (.dK ws) ∧ Ok X.K M (fun G => RpK X.K G kvs ws ∧ Rp X.K G x v ∧ F G) H := by
  obtain ⟨G, s, hM, z1, z2⟩ := ok
  rcases h with rfl | ⟨p, rfl, hp⟩
  · obtain ⟨p, ws, rfl, h1, h2⟩ := z1.dct_inv
    exact ⟨p, ws, rfl, rd_frz s h1, G, s, hM, h2, z1, z2⟩
  · cases z1.raw_inv
    obtain ⟨_, ws, h1, h2⟩ := hM p _ hp
    exact ⟨p, ws, rfl, .inl h1, G, s, hM, h2, rp_raw, z2⟩
/-- k in d, k not in d -/
theorem we_din (hu : X.A.units + 1 < cLine) (h : WE Pm X a M ds fun y M1 => WE Pm X b M1 ds fun x M2 => ∃ k kvs, y = keyD k ∧ IsDct M2 x kvs ∧ Q (.bl (getD kvs k).isSome) M2) (hm : behindInMarks .In b = false := by first | exact nobehind _ (by decide) (by decide) | rfl | with_unfolding_all rfl) : WE Pm X (.Compare a [.In] [b] pos) M ds Q := by
  intro σ H F mF ok
  refine wE_of (pe_cmp (pc_din hu pe_w pe_w) hm) ?_
  refine run2 mF ok h fun v u H' y x M' ok' ⟨k, kvs, ey, hx, q⟩ => ?_
  subst ey
  obtain ⟨p, ws, rfl, hr, o2⟩ := isDct_at (F := fun G => Rp X.K G (keyD k) v ∧ EnvR X.K G ds σ ∧ F G) hx (ok'.imp fun _ _ ⟨z1, z2, z3⟩ => ⟨z2, z1, z3⟩)
  obtain rfl : v = kV k := o2.use fun _ _ z => z.2.2.1.key
  have e : (valV ws k).isSome = (getD kvs k).isSome := o2.use fun _ _ z => by
    have := z.1.get (k := k)
    cases q2 : getD kvs k with
    | none => rw [q2] at this; rw [show valV ws k = none from this]; rfl
    | some d => rw [q2] at this; obtain ⟨v, e, _⟩ := this; rw [e]; rfl
  refine ⟨p, valV ws k, rfl, .inl ⟨ws, k, hr, rfl, rfl⟩, _, M', o2.imp fun _ _ z => ⟨?_, z.2.2.2⟩, q⟩
  rw [e]; exact rp_bl
theorem we_dnotin (hu : X.A.units + 1 < cLine) (h : WE Pm X a M ds fun y M1 => WE Pm X b M1 ds fun x M2 => ∃ k kvs, y = keyD k ∧ IsDct M2 x kvs ∧ Q (.bl (!(getD kvs k).isSome)) M2) (hm : behindInMarks .NotIn b = false := by first | exact nobehind _ (by decide) (by decide) | rfl | with_unfolding_all rfl) : WE Pm X (.Compare a [.NotIn] [b] pos) M ds Q := by
  intro σ H F mF ok
  refine wE_of (pe_cmp (pc_dnotin hu pe_w pe_w) hm) ?_
  refine run2 mF ok h fun v u H' y x M' ok' ⟨k, kvs, ey, hx, q⟩ => ?_
  subst ey
  obtain ⟨p, ws, rfl, hr, o2⟩ := isDct_at (F := fun G => Rp X.K G (keyD k) v ∧ EnvR X.K G ds σ ∧ F G) hx (ok'.imp fun _ _ ⟨z1, z2, z3⟩ => ⟨z2, z1, z3⟩)
  obtain rfl : v = kV k := o2.use fun _ _ z => z.2.2.1.key
  have e : (valV ws k).isSome = (getD kvs k).isSome := o2.use fun _ _ z => by
    have := z.1.get (k := k)
    cases q2 : getD kvs k with
    | none => rw [q2] at this; rw [show valV ws k = none from this]; rfl
    | some d => rw [q2] at this; obtain ⟨v, e, _⟩ := this; rw [e]; rfl
  refine ⟨p, valV ws k, rfl, .inl ⟨ws, k, hr, rfl, rfl⟩, _, M', o2.imp fun _ _ z => ⟨?_, z.2.2.2⟩, q⟩
  rw [e]; exact rp_bl
/-- the truth of a flat test whose value is a bool -/
theorem wt_bl {Q : Bool → Mst → Prop} (h : WE Pm X a M ds fun d M1 => ∃ k, d = .bl k ∧ Q k M1) (he : ∀ whole, isTrue a X.env whole = (do let v ← whole; standAt a.pos; holding [v] (truthy v)) := by intro _; rfl) : WT Pm X a M ds Q :=
  wt_truth (fun σ H F mF ok => wE_mono (h σ H F mF ok) fun v H1 ⟨d, M1, o, k, e, q⟩ => ⟨d, M1, o, by subst e; exact tru_is rfl q⟩) he
/-- d[k] -/
theorem we_dget (hu : X.A.units + 1 < cLine) (h : WE Pm X a M ds fun x M1 => WE Pm X b M1 ds fun y M2 => ∃ k kvs d, y = keyD k ∧ IsDct M2 x kvs ∧ getD kvs k = some d ∧ Q d M2) (hs : NoSl b := by exact fun _ _ => rfl) : WE Pm X (.Subscript a b pos) M ds Q := by
  intro σ H F mF ok
  refine wE_of (pe_dget hu pe_w pe_w hs) ?_
  refine run2 mF ok h fun v u H' x y M' ok' ⟨k, kvs, d, ey, hx, hd, q⟩ => ?_
  subst ey
  obtain ⟨p, ws, rfl, hr, o2⟩ := isDct_at hx ok'
  obtain rfl : u = kV k := o2.use fun _ _ z => z.2.2.1.key
  obtain ⟨w, hw⟩ : ∃ w, valV ws k = some w := o2.use fun _ _ z => by
    have := z.1.get (k := k)
    rw [hd] at this
    exact ⟨this.choose, this.choose_spec.1⟩
  refine ⟨p, w, rfl, .inl ⟨ws, k, hr, rfl, hw.symm⟩, d, M', o2.imp fun _ _ z => ⟨?_, z.2.2.2⟩, q⟩
  have := z.1.get (k := k)
  rw [hd, hw] at this
  obtain ⟨v, e, r⟩ := this
  cases e
  exact r
/-- d[k] = v -/
theorem ws_dput (hu : X.A.units + 1 < cLine) {o i value : Expr} {pos' : Pos} (h : WE Pm X value M ds fun v M1 => WE Pm X o M1 ds fun x M2 => WE Pm X i M2 ds fun y M3 => ∃ k kvs p, y = keyD k ∧ x = .raw (.ref p) ∧ M3 p = some (.dct kvs) ∧ kvs.length < sizeLine ∧ Dn.nx ds (updM M3 p (.dct (putD kvs k v))))
    (hs : swapsWith value (some (.Subscript o i pos')) pos.line X.env = pure false := by rfl) : WS Pm X (.Assign [.Subscript o i pos'] value pos) M ds Dn := by
  intro σ H F mF ok
  refine wS_of (ps_dput hu pe_w pe_w pe_w hs) ?_
  refine wE_mono (h σ H F mF ok) fun v H1 ⟨d, M1, o1, h1⟩ => ?_
  refine wE_mono (h1 σ H1 (fun G => Rp X.K G d v ∧ F G) (mono_rp.and mF) (o1.imp fun _ _ ⟨p, q, r⟩ => ⟨q, p, r⟩)) fun u H2 ⟨x, M2, o2, h2⟩ => ?_
  refine wE_mono (h2 σ H2 (fun G => Rp X.K G x u ∧ Rp X.K G d v ∧ F G) (mono_rp.and (mono_rp.and mF)) (o2.imp fun _ _ ⟨p, q, r⟩ => ⟨q, p, r⟩)) fun y H3 ⟨dy, M3, o3, k, kvs, p, e1, e2, hp, hl, q⟩ => ?_
  subst e1 e2
  obtain rfl : u = .ref p := o3.use fun _ _ z => z.2.2.1.raw_inv
  obtain rfl : y = kV k := o3.use fun _ _ z => z.1.key
  obtain ⟨G, s, hM, z⟩ := id o3
  obtain ⟨_, ws, hw, hr⟩ := hM p _ hp
  refine ⟨p, _, rfl, .inl ⟨ws, k, hw, rfl, by rw [hr.length]; exact hl, rfl⟩, ds, _, ?_, q⟩
  exact (o3.setM (o := .dK (putK ws k v)) (d := .dct (putD kvs k d)) hp fun G' s' z' ⟨ws', e', r'⟩ => by
    rw [hw] at e'
    cases e'
    exact ⟨_, rfl, r'.put z'.2.2.2.1⟩).imp fun _ _ z => ⟨z.2.1, z.2.2.2.2⟩
theorem c_lenD (kvs : List (Key × D)) {x : D} (hx : IsDct M x kvs) (q : Q (.int kvs.length) M) : CallG Pm X (.builtin "len") [x] M Q := by
  intro vs H F mF ok
  obtain ⟨v, rfl⟩ : ∃ v, vs = [v] := ok.use fun _ _ z => let ⟨v, a, _⟩ := z.1.one_inv; ⟨v, a⟩
  obtain ⟨p, ws, rfl, hr, o2⟩ := isDct_at (F := F) hx (ok.imp fun _ _ z => ⟨by obtain ⟨v', e, r⟩ := z.1.one_inv; cases e; exact r, z.2⟩)
  intro pins s σ us I rv
  obtain ⟨u, rfl, r⟩ := vals1 rv
  cases r
  have hl : ws.length = kvs.length := o2.use fun _ _ z => z.1.length
  refine d_len I hr fun t s' I' => ⟨.int kvs.length, H, I', ⟨t, by rw [hl]⟩, _, M, o2.imp fun _ _ z => ⟨rp_int, z.2.2⟩, q⟩
/-! ### dict comprehensions, pure -/
theorem dct_len (kvs : List (Key × D)) (k : Key) (v : D) : (putD kvs k v).length ≤ kvs.length + 1 := by
  unfold putD
  split <;> simp
def foldDc {α : Type} (p : α → Bool) (kf : α → Key) (f : α → D) : List α → List (Key × D) := fun ys => ys.foldl (fun acc y => if p y = true then putD acc (kf y) (f y) else acc) []
def PureD {α : Type} (Pm : Hp → Prop) (X : Cx) (scope : Scope) (t : Tg) (vs : List Nat) (ifs : List Expr) (kx vx : Expr) (ds : Ds) (M1 : Mst) (ys : List α) (g : α → D) (p : α → Bool) (kf : α → Key) (f : α → D) : Prop :=
  ∀ y, y ∈ ys → ∀ M', Sub M1 M' → ∃ ds', bindT (wipeD ds vs) t (g y) = some ds' ∧ (InB X scope fun Y => WTs Pm Y ifs M' ds' fun k M2 => k = p y ∧ M2 = M') ∧ (p y = true → (InB X scope fun Y => WE Pm Y kx M' ds' fun d M2 => d = keyD (kf y) ∧ M2 = M') ∧ InB X scope fun Y => WE Pm Y vx M' ds' fun d M2 => d = f y ∧ M2 = M')
theorem we_dcP {α : Type} (t : Tg) (ys : List α) (g : α → D) (p : α → Bool) (kf : α → Key) (f : α → D) {tg iter kx vx : Expr} {ifs : List Expr} {scope : Scope} {own : List (Str × Nat)} (hc : X.calm = true) (hN : X.N.Nodup) (ok : BlkOk X.N X.env.scope scope own) (hsub : ∀ j ∈ slots t, j ∈ own.map (·.2))
    (hg : InB X scope fun Y => PG Y tg (gOf X.K t))
    (h : WI Pm X tg iter M ds fun n item M1 => n ≤ sizeLine ∧ LI ys g n item ∧ PureD Pm X scope t (own.map (·.2)) ifs kx vx ds M1 ys g p kf f ∧ Q (.dct (foldDc p kf f ys)) M1)
    (hs : ∀ x, foldedSetIterable iter X.env x = pure x := by intro _; rfl) : WE Pm X (.DictComp kx vx [⟨tg, iter, ifs, 0⟩] scope pos) M ds Q := by
  intro σ H F mF o
  obtain ⟨wi, pi, hw⟩ := h σ H F mF o
  refine wE_of (pe_dc hc hN pi ok hg (tt := uTs X scope ifs) (tk := uE X scope kx) (tv := uE X scope vx) (fun s H C cl fp => ⟨fun pins s' σ H Q I h => h _ _ _ _ _ pins s' I⟩) (fun s H C cl fp => ⟨fun pins s' σ H Q I h => h _ _ _ _ _ pins s' I⟩) (fun s H C cl fp => ⟨fun pins s' σ H Q I h => h _ _ _ _ _ pins s' I⟩) hs) ?_
  refine hw _ fun J H1 n item M1 F0 fd o1 ⟨hz, ⟨l1, l2⟩, hp, q⟩ => ?_
  intro P hP
  have hP1 : M1 P = none := o1.free hP
  have o1' : Ok X.K (updM M1 P (.dct [])) (fun G => F0 G ∧ EnvR X.K G ds σ ∧ F G) (upd H1 P (.dK [])) := o1.newM hP fun _ _ _ => ⟨[], rfl, RpK.nil⟩
  have mAll : MonoF Pm (fun G => F0 G ∧ EnvR X.K G ds σ ∧ F G) := fd.mono.and (mono_x mF)
  refine ⟨fun i m H' => m = n - i ∧ i ≤ n ∧ Ok X.K (updM M1 P (.dct (foldDc p kf f (ys.take i)))) (fun G => F0 G ∧ EnvR X.K G ds σ ∧ F G) H' ∧ (foldDc p kf f (ys.take i)).length ≤ i, ⟨n, by simp, Nat.zero_le _, o1', Nat.le_refl _⟩, ?_⟩
  rintro i m H' ⟨rfl, hi, o', hl⟩
  by_cases hlt : i < n
  · have hi' : i < ys.length := by omega
    have e1 : ys.take (i + 1) = ys.take i ++ [ys[i]] := by rw [List.take_add_one, List.getElem?_eq_getElem hi']; rfl
    have e2 : foldDc p kf f (ys.take (i + 1)) = if p ys[i] = true then putD (foldDc p kf f (ys.take i)) (kf ys[i]) (f ys[i]) else foldDc p kf f (ys.take i) := by
      unfold foldDc
      rw [e1, List.foldl_append]
      rfl
    obtain ⟨ds', hb, ht, hkv⟩ := hp ys[i] (List.getElem_mem hi') _ (sub_upd (d := .dct (foldDc p kf f (ys.take i))) hP1)
    refine .inr ⟨o'.use fun G s z => fd.goes i H' G s z.1 hlt, fun H2 => Ok X.K (updM M1 P (.dct (foldDc p kf f (ys.take (i + 1))))) (fun G => F0 G ∧ EnvR X.K G ds σ ∧ F G) H2 ∧ (foldDc p kf f (ys.take (i + 1))).length ≤ i + 1,
      fun H2 ⟨o2, b2⟩ => ⟨n - (i + 1), by omega, rfl, hlt, o2, b2⟩, fun x H2 y => ?_⟩
    have o2 := fd.gives i H' _ (fun G => EnvR X.K G ds σ ∧ F G) (mono_x mF) o' hlt x H2 y
    rw [l2 i hi'] at o2
    refine bind_ok (F := fun G => F0 G ∧ EnvR X.K G ds σ ∧ F G) (o2.imp fun _ _ ⟨z1, z2, z3, z4⟩ => ⟨z1, z3.wipe _, z2, z3, z4⟩) hb fun σ3 ⟨us, e3⟩ o3 => ?_
    refine ⟨by rw [e3, wipe_setAll hsub, wipe_wipe], fun s0 H0 C cl fp => ?_⟩
    intro pins s I
    refine thn (ht s0 H0 C cl fp σ3 H2 _ mAll o3 pins s I) fun k s1 ⟨H3, I3, M2, o4, k1, k2⟩ => ⟨H3, I3, ?_⟩
    subst k2
    cases k with
    | false =>
      have hn : ¬ p ys[i] = true := by rw [← k1]; exact Bool.false_ne_true
      rw [if_neg hn] at e2
      exact iteF ⟨by rw [e2]; exact o4.imp fun _ _ z => z.2, by rw [e2]; omega⟩
    | true =>
      obtain ⟨hk, hv⟩ := hkv k1.symm
      rw [if_pos k1.symm] at e2
      refine iteT fun s0 H0 C cl fp => ?_
      refine wE_mono (hk s0 H0 C cl fp σ3 H3 _ mAll o4) fun vk H4 ⟨dk, M4, o5, d1, d2⟩ => ?_
      subst d1 d2
      intro s0 H0 C cl fp
      refine wE_mono (hv s0 H0 C cl fp σ3 H4 (fun G => Rp X.K G (keyD (kf ys[i])) vk ∧ F0 G ∧ EnvR X.K G ds σ ∧ F G) (mono_rp.and mAll) (o5.imp fun _ _ ⟨z1, z2, z3⟩ => ⟨z2, z1, z3⟩)) fun vv H5 ⟨dv, M5, o6, d1, d2⟩ => ?_
      subst d1 d2
      obtain ⟨G, s, hM, z⟩ := id o6
      obtain ⟨_, ws, hw, hr⟩ := hM P _ updM_same
      have hl2 := hr.length
      refine ⟨ws, kf ys[i], z.2.2.1.key, hw, by omega, ?_, by rw [e2]; have := dct_len (foldDc p kf f (ys.take i)) (kf ys[i]) (f ys[i]); omega⟩
      have o7 := o6.setM (o := .dK (putK ws (kf ys[i]) vv)) (d := .dct (putD (foldDc p kf f (ys.take i)) (kf ys[i]) (f ys[i]))) updM_same fun G' s' z' ⟨ws', e', r'⟩ => by
        rw [hw] at e'
        cases e'
        exact ⟨_, rfl, r'.put z'.1⟩
      rw [updM_updM] at o7
      rw [e2]
      exact o7.imp fun _ _ z => z.2.2.2
  · have e : i = n := by omega
    subst e
    refine .inl ⟨o'.use fun G s z => fd.stops H' G s z.1, .dct (foldDc p kf f ys), M1, ?_, q⟩
    obtain ⟨G, s, hM, z⟩ := id o'
    obtain ⟨_, ws, hw, hr⟩ := hM P _ updM_same
    have o7 := o'.freeze mAll updM_same hw
    rw [delM_updM' hP1] at o7
    refine o7.imp fun G s z => ?_
    obtain ⟨g1, ⟨ws', e', r'⟩, g2, g3, g4⟩ := z
    cases e'
    rw [l1, List.take_length] at r'
    exact ⟨rp_dct ⟨_, g1, rfl⟩ r', g3, g4⟩
/-- all keys new: the dict is the list -/
theorem foldDc_map {α : Type} (kf : α → Key) (f : α → D) (ys : List α) (h : (ys.map kf).Nodup) : foldDc (fun _ => true) kf f ys = ys.map fun y => (kf y, f y) := by
  have gen : ∀ (ys : List α) (acc : List (Key × D)), (acc.map (·.1) ++ ys.map kf).Nodup → ys.foldl (fun acc y => if true = true then putD acc (kf y) (f y) else acc) acc = acc ++ ys.map fun y => (kf y, f y) := by
    intro ys
    induction ys with
    | nil => intro acc _; simp
    | cons y ys ih =>
      intro acc hn
      rw [List.foldl_cons, if_pos rfl]
      have hy : ¬ (acc.any fun kv => decide (kv.1 = kf y)) = true := by
        intro q
        obtain ⟨kv, h1, h2⟩ := List.any_eq_true.mp q
        rw [List.map_cons] at hn
        obtain ⟨_, _, h3⟩ := List.nodup_append.mp hn
        exact h3 _ (List.mem_map.mpr ⟨kv, h1, rfl⟩) _ List.mem_cons_self (of_decide_eq_true h2)
      have e : putD acc (kf y) (f y) = acc ++ [(kf y, f y)] := by unfold putD; rw [if_neg hy]
      rw [e, ih _ (by rw [List.map_append]; simpa using hn)]
      simp
  have := gen ys [] (by simpa using h)
  simpa [foldDc] using this
end
end DL
namespace DL
open PySem PySem.Spec L2
open PyProof.Rows hiding St
section
variable {X : Cx} {Pm : Hp → Prop} {M : Mst} {ds : Ds} {pos : Pos} {a b : Expr}
theorem wt_din (hu : X.A.units + 1 < cLine) {Q : Bool → Mst → Prop} (h : WE Pm X a M ds fun y M1 => WE Pm X b M1 ds fun x M2 => ∃ k kvs, y = keyD k ∧ IsDct M2 x kvs ∧ Q (getD kvs k).isSome M2) (hm : behindInMarks .In b = false := by first | exact nobehind _ (by decide) (by decide) | rfl | with_unfolding_all rfl) : WT Pm X (.Compare a [.In] [b] pos) M ds Q := by
  intro σ H F mF ok
  refine wT_of (pt_cmp (pc_din hu pe_w pe_w) hm) ?_
  refine run2 mF ok h fun v u H' y x M' ok' ⟨k, kvs, ey, hx, q⟩ => ?_
  subst ey
  obtain ⟨p, ws, rfl, hr, o2⟩ := isDct_at (F := fun G => Rp X.K G (keyD k) v ∧ EnvR X.K G ds σ ∧ F G) hx (ok'.imp fun _ _ ⟨z1, z2, z3⟩ => ⟨z2, z1, z3⟩)
  obtain rfl : v = kV k := o2.use fun _ _ z => z.2.2.1.key
  have e : (valV ws k).isSome = (getD kvs k).isSome := o2.use fun _ _ z => by
    have := z.1.get (k := k)
    cases q2 : getD kvs k with
    | none => rw [q2] at this; rw [show valV ws k = none from this]; rfl
    | some d => rw [q2] at this; obtain ⟨v, e, _⟩ := this; rw [e]; rfl
  exact ⟨p, valV ws k, rfl, .inl ⟨ws, k, hr, rfl, rfl⟩, (valV ws k).isSome, rfl, M', o2.imp fun _ _ z => z.2.2.2, by rw [e]; exact q⟩
theorem wt_dnotin (hu : X.A.units + 1 < cLine) {Q : Bool → Mst → Prop} (h : WE Pm X a M ds fun y M1 => WE Pm X b M1 ds fun x M2 => ∃ k kvs, y = keyD k ∧ IsDct M2 x kvs ∧ Q (!(getD kvs k).isSome) M2) (hm : behindInMarks .NotIn b = false := by first | exact nobehind _ (by decide) (by decide) | rfl | with_unfolding_all rfl) : WT Pm X (.Compare a [.NotIn] [b] pos) M ds Q := by
  intro σ H F mF ok
  refine wT_of (pt_cmp (pc_dnotin hu pe_w pe_w) hm) ?_
  refine run2 mF ok h fun v u H' y x M' ok' ⟨k, kvs, ey, hx, q⟩ => ?_
  subst ey
  obtain ⟨p, ws, rfl, hr, o2⟩ := isDct_at (F := fun G => Rp X.K G (keyD k) v ∧ EnvR X.K G ds σ ∧ F G) hx (ok'.imp fun _ _ ⟨z1, z2, z3⟩ => ⟨z2, z1, z3⟩)
  obtain rfl : v = kV k := o2.use fun _ _ z => z.2.2.1.key
  have e : (valV ws k).isSome = (getD kvs k).isSome := o2.use fun _ _ z => by
    have := z.1.get (k := k)
    cases q2 : getD kvs k with
    | none => rw [q2] at this; rw [show valV ws k = none from this]; rfl
    | some d => rw [q2] at this; obtain ⟨v, e, _⟩ := this; rw [e]; rfl
  exact ⟨p, valV ws k, rfl, .inl ⟨ws, k, hr, rfl, rfl⟩, !(valV ws k).isSome, rfl, M', o2.imp fun _ _ z => z.2.2.2, by rw [e]; exact q⟩
end
end DL

/-! DL8: objects, calls of the text's defs, over data -/
namespace DL
open PySem PySem.Spec L2
open PyProof.Rows hiding St
section
variable {X : Cx} {Pm : Hp → Prop} {M : Mst} {ds : Ds} {Q : QD} {pos : Pos} {a b c e : Expr} {Dn : EndD}

/-! ### objects -/
theorem RpF.nil_inv {K : PySem.W.Frag} {G : Hp} {ws : List (Str × V)} (h : RpF K G [] ws) : ws = [] := by simpa only [RpF] using h
theorem RpF.cons_inv {K : PySem.W.Frag} {G : Hp} {k : Str} {d : D} {kvs : List (Str × D)} {ws : List (Str × V)} (h : RpF K G ((k, d) :: kvs) ws) : ∃ v r, ws = (k, v) :: r ∧ Rp K G d v ∧ RpF K G kvs r := by simpa only [RpF] using h
theorem RpF.nil {K : PySem.W.Frag} {G : Hp} : RpF K G [] [] := by simp only [RpF]
theorem RpF.cons {K : PySem.W.Frag} {G : Hp} {k : Str} {d : D} {v : V} {kvs : List (Str × D)} {ws : List (Str × V)} (h : Rp K G d v) (t : RpF K G kvs ws) : RpF K G ((k, d) :: kvs) ((k, v) :: ws) := by
  simp only [RpF]; exact ⟨v, ws, rfl, h, t⟩
theorem RpF.some {K : PySem.W.Frag} {G : Hp} {f : Str} {d : D} : ∀ {fs : List (Str × D)} {ws : List (Str × V)}, RpF K G fs ws → fs.lookup f = some d → ∃ v, ws.lookup f = some v ∧ Rp K G d v
  | [], _, _, e => by cases e
  | (k, d') :: fs, _, h, e => by
    obtain ⟨v, r, rfl, h1, h2⟩ := h.cons_inv
    cases q : (f == k) with
    | true =>
      simp only [List.lookup_cons, q] at e ⊢
      cases e
      exact ⟨v, rfl, h1⟩
    | false =>
      simp only [List.lookup_cons, q] at e ⊢
      exact RpF.some h2 e
theorem RpF.none {K : PySem.W.Frag} {G : Hp} {f : Str} : ∀ {fs : List (Str × D)} {ws : List (Str × V)}, RpF K G fs ws → fs.lookup f = none → ws.lookup f = none
  | [], _, h, _ => by cases h.nil_inv; rfl
  | (k, d') :: fs, _, h, e => by
    obtain ⟨v, r, rfl, h1, h2⟩ := h.cons_inv
    cases q : (f == k) with
    | true =>
      simp only [List.lookup_cons, q] at e
      cases e
    | false =>
      simp only [List.lookup_cons, q] at e ⊢
      exact RpF.none h2 e
def putFD (f : Str) (v : D) : List (Str × D) → List (Str × D)
  | [] => [(f, v)]
  | (g, x) :: r => if g = f then (g, v) :: r else (g, x) :: putFD f v r
theorem RpF.put {K : PySem.W.Frag} {G : Hp} {f : Str} {d : D} {v : V} (q : Rp K G d v) : ∀ {fs : List (Str × D)} {ws : List (Str × V)}, RpF K G fs ws → RpF K G (putFD f d fs) (putF f v ws)
  | [], _, h => by cases h.nil_inv; exact RpF.cons q RpF.nil
  | (k, d') :: fs, _, h => by
    obtain ⟨v', r, rfl, h1, h2⟩ := h.cons_inv
    unfold putFD putF
    by_cases e : k = f
    · rw [if_pos e, if_pos e]; exact RpF.cons q h2
    · rw [if_neg e, if_neg e]; exact RpF.cons h1 (RpF.put q h2)
theorem RpF.length {K : PySem.W.Frag} {G : Hp} : ∀ {fs : List (Str × D)} {ws : List (Str × V)}, RpF K G fs ws → ws.length = fs.length
  | [], _, h => by cases h.nil_inv; rfl
  | (k, d) :: kvs, _, h => by
    obtain ⟨v, r, rfl, h1, h2⟩ := h.cons_inv
    simp [RpF.length h2]
/-- an object, written out or mutable at an address -/
def IsObj (M : Mst) (x : D) (C : Addr) (fs : List (Str × D)) : Prop := x = .obj C fs ∨ ∃ p, x = .raw (.ref p) ∧ M p = some (.obj C fs)
theorem isObj_at {F : Hp → Prop} {H : Hp} {x : D} {v : V} {C : Addr} {fs : List (Str × D)} (h : IsObj M x C fs) (ok : Ok X.K M (fun G => Rp X.K G x v ∧ F G) H) : ∃ p dx ws, v = .ref p ∧ H p = some (.ins C dx ws) ∧ Ok X.K M (fun G => RpF X.K G fs ws ∧ Rp X.K G x v ∧ F G) H := by
  obtain ⟨G, s, hM, z1, z2⟩ := ok
  rcases h with rfl | ⟨p, rfl, hp⟩
  · obtain ⟨p, dx, ws, rfl, h1, h2⟩ := z1.obj_inv
    exact ⟨p, dx, ws, rfl, s.at h1, G, s, hM, h2, z1, z2⟩
  · cases z1.raw_inv
    obtain ⟨_, dx, ws, h1, h2⟩ := hM p _ hp
    exact ⟨p, dx, ws, rfl, h1, G, s, hM, h2, rp_raw, z2⟩
/-- o.f -/
theorem we_fld {f : Str} (h : WE Pm X a M ds fun x M1 => ∃ C fs d, IsObj M1 x C fs ∧ Cls X.K C ∧ NoAttr X.K C f ∧ fs.lookup f = some d ∧ Q d M1) (hb : attributeBase a f X.env (eval a X.env) = eval a X.env := by rfl) : WE Pm X (.Attribute a f pos) M ds Q := by
  intro σ H F mF ok
  refine wE_of (pe_fld pe_w hb) ?_
  refine wE_mono (h σ H F mF ok) fun v H1 ⟨x, M1, o1, C, fs, d, hx, cl, na, hl, q⟩ => ?_
  obtain ⟨p, dx, ws, rfl, hH, o2⟩ := isObj_at hx o1
  obtain ⟨w, hw⟩ : ∃ w, ws.lookup f = some w := o2.use fun _ _ z => let ⟨w, e, _⟩ := z.1.some hl; ⟨w, e⟩
  refine ⟨p, C, dx, ws, w, rfl, hH, cl, na, hw, d, M1, o2.imp fun _ _ z => ⟨?_, z.2.2⟩, q⟩
  obtain ⟨w', e, r⟩ := z.1.some hl
  rw [hw] at e
  cases e
  exact r
/-- o.f = e, o mutable -/
theorem ws_fld {f : Str} {pos' : Pos} (h : WE Pm X e M ds fun d M1 => WE Pm X a M1 ds fun x M2 => ∃ p C fs, x = .raw (.ref p) ∧ M2 p = some (.obj C fs) ∧ Cls X.K C ∧ NoAttr X.K C f ∧ fs.length < 1000 ∧ Dn.nx ds (updM M2 p (.obj C (putFD f d fs))))
    (hs : swapsWith e (some (.Attribute a f pos')) pos.line X.env = pure false := by rfl) : WS Pm X (.Assign [.Attribute a f pos'] e pos) M ds Dn := by
  intro σ H F mF ok
  refine wS_of (ps_fld pe_w pe_w hs) ?_
  refine wE_mono (h σ H F mF ok) fun v H1 ⟨d, M1, o1, h1⟩ => ?_
  refine wE_mono (h1 σ H1 (fun G => Rp X.K G d v ∧ F G) (mono_rp.and mF) (o1.imp fun _ _ ⟨p, q, r⟩ => ⟨q, p, r⟩)) fun u H2 ⟨x, M2, o2, p, C, fs, e1, hp, cl, na, hl, q⟩ => ?_
  subst e1
  obtain rfl : u = .ref p := o2.use fun _ _ z => z.1.raw_inv
  obtain ⟨G, s, hM, z⟩ := id o2
  obtain ⟨_, dx, ws, hw, hr⟩ := hM p _ hp
  refine ⟨p, C, dx, ws, rfl, hw, cl, na, by rw [hr.length]; exact hl, ds, _, ?_, q⟩
  exact (o2.setM (o := .ins C dx (putF f v ws)) (d := .obj C (putFD f d fs)) hp fun G' s' z' ⟨dx', ws', e', r'⟩ => by
    rw [hw] at e'
    cases e'
    exact ⟨dx, _, rfl, r'.put z'.2.2.1⟩).imp fun _ _ z => ⟨z.2.1, z.2.2.2⟩

/-! ### what a def promises, over data -/
abbrev SpD := List D → Mst → QD → Prop
def toSp (K : PySem.W.Frag) (sp : SpD) : Sp := fun vs H Q _ => ∃ xs M F Q0, Mono1 F ∧ Ok K M (fun G => RpL K G xs vs ∧ F G) H ∧ sp xs M Q0 ∧ ∀ v H', EndE K F Q0 v H' → Q v H'
section
variable {P : Program} {w : World} {K : PySem.W.Frag} {mg : Str → Option Value} {base : Heap} {x qual : Str} {params : Arguments} {body : List Stmt} {scope : Scope} {dvs : List V} {kws : List (Str × V)} {f : Addr} {fd : FuncData}
/-- the context of a body that lets no exception out -/
abbrev cx0 (P : Program) (w : World) (K : PySem.W.Frag) (mg : Str → Option Value) (base : Heap) (N : List Str) (qual : Str) (scope : Scope) (f : Addr) (cdv : Value) (A : Around) (outer : List Env) (s : Shared) (H : Hp) (E : XK) : Cx := (cxOf CX0 P w K mg base N qual scope f cdv A outer s H E).nox
theorem fnD {N ps : List Str} {k : Nat} {sp : SpD} (F : FunD K x qual params body scope dvs kws f fd) (S : FnScope N ps scope) (len : ∀ xs M Q, sp xs M Q → xs.length = ps.length)
    (hb : ∀ (cdv : Value) (A : Around) (outer : List Env) (s : Shared) (H : Hp) (E : XK), Room k (cx0 P w K mg base N qual scope f cdv A outer s H E).A → ∀ xs M Q, sp xs M Q →
      WSs PmT (cx0 P w K mg base N qual scope f cdv A outer s H E) body M (xs.map some ++ List.replicate (N.length - ps.length) none) { nx := fun _ M' => Q .non M', rt := Q }) : FnOk P w K mg base CX0 (k + 1) f fd ps (toSp K sp) := by
  refine F.ok S (fun vs H Q E ⟨xs, M, F0, Q0, mF, ok, hsp, hq⟩ => ?_) (fun cdv A outer s H vs Q E hr h => ⟨wSs (cx0 P w K mg base N qual scope f cdv A outer s H E) body, PSs.nox pss_w, ?_⟩)
  · have := len xs M Q0 hsp
    exact ok.use fun _ _ z => by rw [z.1.length, this]
  · obtain ⟨xs, M, F0, Q0, mF, ok, hsp, hq⟩ := h
    have hl := len xs M Q0 hsp
    have hv : vs.length = ps.length := ok.use fun _ _ z => by rw [z.1.length, hl]
    have h1 := hb cdv A outer s H E hr xs M Q0 hsp (L2.start N vs) H F0 mF.to (ok.imp fun G _ z => ⟨by
      unfold L2.start
      rw [hv]
      exact EnvR.start z.1, z.2⟩)
    exact wSs_mono h1 (fun σ' H' ⟨ds', M', o, q⟩ => hq .non H' ⟨.non, M', o.imp fun _ _ z => ⟨rp_non, z.2⟩, q⟩) (fun v H' z => hq v H' z) (fun σ' H' ⟨_, _, _, z⟩ => z) (fun σ' H' ⟨_, _, _, z⟩ => z)
end
structure CalD (P : Program) (w : World) (K : PySem.W.Frag) (mg : Str → Option Value) (base : Heap) (k : Nat) (x : Str) (sp : SpD) (dd : List D) : Prop where
  ex : ∃ (f : Addr) (fd : FuncData) (ps : List Str) (dvs : List V) (us : List Value), FnOk P w K mg base CX0 k f fd ps (toSp K sp) ∧ mg x = some (.ref f) ∧ PySem.W.keepIn K (.ref f) = true ∧ Binds K fd ps us ∧ Vals dvs us ∧ ∀ G, RpL K G dd dvs
structure MetD (P : Program) (w : World) (K : PySem.W.Frag) (mg : Str → Option Value) (base : Heap) (k : Nat) (C : Addr) (m : Str) (sp : SpD) (dd : List D) : Prop where
  ex : ∃ (f : Addr) (fd : FuncData) (ps : List Str) (dvs : List V) (us : List Value), FnOk P w K mg base CX0 k f fd ps (toSp K sp) ∧ Cls K C ∧ Meth K C m f ∧ Binds K fd ps us ∧ Vals dvs us ∧ ∀ G, RpL K G dd dvs
structure MakD (P : Program) (w : World) (K : PySem.W.Frag) (mg : Str → Option Value) (base : Heap) (k : Nat) (x : Str) (C : Addr) (sp : SpD) (dd : List D) : Prop where
  ex : ∃ (f : Addr) (fd : FuncData) (ps : List Str) (dvs : List V) (us : List Value), FnOk P w K mg base CX0 k f fd ps (toSp K sp) ∧ Mk K C f ∧ mg x = some (.ref C) ∧ Binds K fd ps us ∧ Vals dvs us ∧ ∀ G, RpL K G dd dvs
section
variable {j k : Nat} {x m : Str} {sp : SpD} {dd : List D} {p apos : Pos} {o : Expr} {es : List Expr} {C : Addr}
theorem we_cal (g : CalD X.prog X.w X.K X.mg X.base k x sp dd) (hr : Room j X.A) (hk : k ≤ j) (h : WA Pm X (e :: es) M ds fun xs M1 => sp (xs ++ dd) M1 Q) (hg : Gl X x := by rfl) (hdb : (x == ("__debug__" : Str)) = false := by decide)
    (he : starEach (e :: es) X.env = (false, eval e X.env) :: starEach es X.env := by rfl) (hpl : (backTo pos (starEach es X.env)).any (·.1) = false := by rfl) : WE Pm X (.Call (.Name x p) (e :: es) [] pos) M ds Q := by
  intro σ H F mF ok
  obtain ⟨f, fd, ps, dvs, us, F1, hm, kp, hb, hd, hdd⟩ := g.ex
  refine wE_of (pe_call F1 (hr.mono hk) hg hm kp hb hd (E := E0) pass0 pa_w hdb he hpl) ?_
  exact wA_mono (h σ H F mF ok) fun vs H1 ⟨xs, M1, o1, q⟩ => ⟨xs ++ dd, M1, _, Q, (mono_x mF).m, o1.imp fun G _ z => ⟨z.1.append (hdd G), z.2⟩, q, fun v H' z => z⟩
theorem we_cal0 (g : CalD X.prog X.w X.K X.mg X.base k x sp dd) (hr : Room j X.A) (hk : k ≤ j) (h : sp dd M Q) (hg : Gl X x := by rfl) (hdb : (x == ("__debug__" : Str)) = false := by decide) : WE Pm X (.Call (.Name x p) [] [] pos) M ds Q := by
  intro σ H F mF ok
  obtain ⟨f, fd, ps, dvs, us, F1, hm, kp, hb, hd, hdd⟩ := g.ex
  exact wE_of (pe_call0 F1 (hr.mono hk) hg hm kp hb hd (E := E0) pass0 hdb) ⟨dd, M, _, Q, (mono_x mF).m, ok.imp fun G _ z => ⟨hdd G, z⟩, h, fun v H' z => z⟩
theorem we_met {pl : Sem Bool} (g : MetD X.prog X.w X.K X.mg X.base k C m sp dd) (hr : Room j X.A) (hk : k ≤ j) (h : WE Pm X o M ds fun x M1 => ∃ fs, IsObj M1 x C fs ∧ fs.lookup m = none ∧ WA Pm X (e :: es) M1 ds fun xs M2 => sp (x :: (xs ++ dd)) M2 Q)
    (hst : starEach (e :: es) X.env = (false, eval e X.env) :: starEach es X.env := by rfl) (hpl : (backTo pos (starEach es X.env)).any (·.1) = false := by rfl)
    (ht : eval (.Call (.Attribute o m apos) (e :: es) [] pos) X.env = (do
      let ov ← eval o X.env
      standAt apos.atName
      let (f, first) ← holding [ov] (getMethod ov m pl)
      callWith pos f first (backTo pos (starEach (e :: es) X.env)) (backToKw pos (keywordEach [] X.env))) := by rfl) : WE Pm X (.Call (.Attribute o m apos) (e :: es) [] pos) M ds Q := by
  intro σ H F mF ok
  obtain ⟨f, fd, ps, dvs, us, F1, cl, hm, hb, hd, hdd⟩ := g.ex
  refine wE_of (pe_meth (pl := pl) pe_w cl hm F1 (hr.mono hk) hb hd (E := E0) pass0 pa_w hst hpl ht) ?_
  refine wE_mono (h σ H F mF ok) fun v H1 ⟨d, M1, o1, fs, hx, hl, h2⟩ => ?_
  obtain ⟨q, dx, ws, rfl, hH, o2⟩ := isObj_at hx o1
  refine ⟨q, dx, ws, rfl, hH, o2.use fun _ _ z => z.1.none hl, ?_⟩
  exact wA_mono (h2 σ H1 (fun G => Rp X.K G d (.ref q) ∧ F G) (mono_rp.and mF) (o1.imp fun _ _ ⟨z1, z2, z3⟩ => ⟨z2, z1, z3⟩)) fun vs H2 ⟨xs, M2, o3, q2⟩ =>
    ⟨d :: (xs ++ dd), M2, _, Q, (mono_x mF).m, o3.imp fun G _ z => ⟨RpL.cons z.2.2.1 (z.1.append (hdd G)), z.2.1, z.2.2.2⟩, q2, fun v H' z => z⟩
theorem we_met0 {pl : Sem Bool} (g : MetD X.prog X.w X.K X.mg X.base k C m sp dd) (hr : Room j X.A) (hk : k ≤ j) (h : WE Pm X o M ds fun x M1 => ∃ fs, IsObj M1 x C fs ∧ fs.lookup m = none ∧ sp (x :: dd) M1 Q)
    (ht : eval (.Call (.Attribute o m apos) [] [] pos) X.env = (do
      let ov ← eval o X.env
      standAt apos.atName
      let (f, first) ← holding [ov] (getMethod ov m pl)
      callWith pos f first (backTo pos (starEach [] X.env)) (backToKw pos (keywordEach [] X.env))) := by rfl) : WE Pm X (.Call (.Attribute o m apos) [] [] pos) M ds Q := by
  intro σ H F mF ok
  obtain ⟨f, fd, ps, dvs, us, F1, cl, hm, hb, hd, hdd⟩ := g.ex
  refine wE_of (pe_meth0 (pl := pl) pe_w cl hm F1 (hr.mono hk) hb hd (E := E0) pass0 ht) ?_
  refine wE_mono (h σ H F mF ok) fun v H1 ⟨d, M1, o1, fs, hx, hl, h2⟩ => ?_
  obtain ⟨q, dx, ws, rfl, hH, o2⟩ := isObj_at hx o1
  exact ⟨q, dx, ws, rfl, hH, o2.use fun _ _ z => z.1.none hl, d :: dd, M1, _, Q, (mono_x mF).m, o1.imp fun G _ z => ⟨RpL.cons z.1 (hdd G), z.2⟩, h2, fun v H' z => z⟩
/-- what a constructor's call asks of __init__: the new object, frozen behind it -/
def MkEnd (C : Addr) (q : Addr) (Q : QD) : QD := fun d M2 => d = .non ∧ ∃ fs, M2 q = some (.obj C fs) ∧ Q (.obj C fs) (delM M2 q)
theorem mk_core {H1 : Hp} {F : Hp → Prop} {vs : List V} {xs : List D} {M1 : Mst} {dvs : List V} (mF : MonoF Pm F) (o1 : Ok X.K M1 (fun G => RpL X.K G xs vs ∧ F G) H1) (hdd : ∀ G, RpL X.K G dd dvs)
    (q : ∀ q, M1 q = none → sp (.raw (.ref q) :: (xs ++ dd)) (updM M1 q (.obj C [])) (MkEnd C q Q)) (x dx : Addr) (hx : H1 x = none) (hdx : H1 dx = none) (ne : dx ≠ x) :
    toSp X.K sp (.ref x :: (vs ++ dvs)) (upd (upd H1 dx (.own x)) x (.ins C dx [])) (fun v H2 => v = .non ∧ EndE X.K F Q (.ref x) H2) E0 := by
  have o2 := o1.new (o := .own x) (mono_rpl.and mF) hdx
  have o3 := o2.newM (p := x) (o := .ins C dx []) (d := .obj C []) (by rw [upd_ne (Ne.symm ne)]; exact hx) fun _ _ _ => ⟨dx, [], rfl, RpF.nil⟩
  refine ⟨.raw (.ref x) :: (xs ++ dd), _, F, _, mF.m, o3.imp fun G _ z => ⟨RpL.cons rp_raw (z.2.1.append (hdd G)), z.2.2⟩, q x (o1.free hx), fun v H' ⟨d, M2, o4, e, fs, hfs, q2⟩ => ?_⟩
  subst e
  have ev : v = .non := o4.use fun _ _ z => z.1.non_inv
  refine ⟨ev, .obj C fs, delM M2 x, ?_, q2⟩
  obtain ⟨G, s, hM, z⟩ := id o4
  obtain ⟨_, dx', ws, hw, hr⟩ := hM x _ hfs
  refine (o4.freeze (mono_rp.and mF) hfs hw).imp fun G s z => ?_
  obtain ⟨g1, ⟨dx2, ws', e', r'⟩, g2, g3⟩ := z
  cases e'
  exact ⟨rp_obj g1 r', g3⟩
theorem we_mak (g : MakD X.prog X.w X.K X.mg X.base k x C sp dd) (hr : Room j X.A) (hk : k + 1 ≤ j) (h : WA Pm X (e :: es) M ds fun xs M1 => ∀ q, M1 q = none → sp (.raw (.ref q) :: (xs ++ dd)) (updM M1 q (.obj C [])) (MkEnd C q Q)) (hg : Gl X x := by rfl) (hdb : (x == ("__debug__" : Str)) = false := by decide)
    (he : starEach (e :: es) X.env = (false, eval e X.env) :: starEach es X.env := by rfl) (hpl : (backTo pos (starEach es X.env)).any (·.1) = false := by rfl) : WE Pm X (.Call (.Name x p) (e :: es) [] pos) M ds Q := by
  intro σ H F mF ok
  obtain ⟨f, fd, ps, dvs, us, F1, mk, hm, hb, hd, hdd⟩ := g.ex
  refine wE_of (pe_make mk F1 (hr.mono hk) hg hm hb hd (E := E0) pass0 pa_w hdb he hpl) ?_
  exact wA_mono (h σ H F mF ok) fun vs H1 ⟨xs, M1, o1, q⟩ x dx hx hdx ne => mk_core (mono_x mF) o1 hdd q x dx hx hdx ne
theorem we_mak0 (g : MakD X.prog X.w X.K X.mg X.base k x C sp dd) (hr : Room j X.A) (hk : k + 1 ≤ j) (h : ∀ q, M q = none → sp (.raw (.ref q) :: dd) (updM M q (.obj C [])) (MkEnd C q Q)) (hg : Gl X x := by rfl) (hdb : (x == ("__debug__" : Str)) = false := by decide) : WE Pm X (.Call (.Name x p) [] [] pos) M ds Q := by
  intro σ H F mF ok
  obtain ⟨f, fd, ps, dvs, us, F1, mk, hm, hb, hd, hdd⟩ := g.ex
  refine wE_of (pe_make0 mk F1 (hr.mono hk) hg hm hb hd (E := E0) pass0 hdb) ?_
  exact fun x dx hx hdx ne => mk_core (xs := []) (vs := []) (mono_x mF) (ok.imp fun _ _ z => ⟨RpL.nil, z⟩) hdd h x dx hx hdx ne
/-! ### own ==, in, str -/
/-- the callee of an operator, by its values -/
theorem run_own {pins : List (Addr × Obj)} {σ : L2.St} {H : Hp} {s : Shared} {f : Addr} {fd : FuncData} {ps : List Str} {us : List Value} {vs : List V} {xs : List D} {F : Hp → Prop} (F1 : FnOk X.prog X.w X.K X.mg X.base CX0 k f fd ps (toSp X.K sp)) (hb : Binds X.K fd ps []) (hr : Room k X.A)
    (I : Inv X pins σ H s) (r : Vals vs us) (mF : MonoF Pm F) (ok : Ok X.K M (fun G => RpL X.K G xs vs ∧ F G) H) (h : sp xs M Q) : wpAny (model X.prog X.w) X.A (call (.ref f) us) (EP X pins σ (EndE X.K F Q)) X.xe s :=
  run_fn (E := E0) F1 hr hb .nil pass0 I r (by rw [List.append_nil]; exact ⟨xs, M, F, Q, mF.m, ok, h, fun v H' z => z⟩)
theorem inst_at {pins : List (Addr × Obj)} {σ : L2.St} {H : Hp} {s : Shared} {q dx : Addr} {ws : List (Str × V)} (I : Inv X pins σ H s) (h : H q = some (.ins C dx ws)) : ∃ od, PySem.W.InstAt s.heap q (PySem.W.instObj C dx) C (some od) := by
  obtain ⟨mA, O, _⟩ := ins_get I.hok h
  obtain ⟨od, J, _⟩ := O.look
  exact ⟨od, J⟩
theorem b_own {op : CmpOp} {f : Addr} {fd : FuncData} {ps : List Str} {C' : Addr} {x y : D} {fs gs : List (Str × D)} (hop : ∀ a b, compareOp op a b = richCompare op a b) (hs : PySem.W.findIn X.K (.ref C) (cmpInfo op).2.1 = some (some (.ref f))) (hf : PySem.W.isFn X.K (.ref f) = true) (hn : PySem.W.notFirst X.K C (.ref C') = true)
    (F1 : FnOk X.prog X.w X.K X.mg X.base CX0 k f fd ps (toSp X.K sp)) (hb : Binds X.K fd ps []) (hr : Room j X.A) (hk : k ≤ j) (hx : IsObj M x C fs) (hy : IsObj M y C' gs) (h : sp [x, y] M Q) : BinG Pm X (compareOp op) x y M Q := by
  intro v u H F mF ok
  obtain ⟨p, dx, ws, rfl, hp, o2⟩ := isObj_at hx ok
  obtain ⟨q, dy, zs, rfl, hq, o3⟩ := isObj_at (F := fun G => Rp X.K G x (.ref p) ∧ F G) hy (ok.imp fun _ _ ⟨z1, z2, z3⟩ => ⟨z2, z1, z3⟩)
  intro pins s σ v' u' I r1 r2
  cases (show v' = Value.ref p from r1)
  cases (show u' = Value.ref q from r2)
  obtain ⟨od, J⟩ := inst_at I hp
  obtain ⟨od', J'⟩ := inst_at I hq
  obtain ⟨m, hF⟩ := I.fr
  rw [hop]
  refine PySem.W.cmp_K (op := op) (tb := .ref C') (hr.mono hk).units0 hF I.ok.mod.kin J J'.type hn hs hf ?_
  refine wpAny_mono (run_own F1 hb (hr.mono hk) I (vs := [.ref p, .ref q]) (.cons rfl (.cons rfl .nil)) mF (ok.imp fun _ _ ⟨z1, z2, z3⟩ => ⟨RpL.cons z1 (RpL.cons z2 RpL.nil), z3⟩) h) (fun w s' z => ?_) fun _ _ x => x
  obtain ⟨z', H', I', rz, qz⟩ := z
  exact SlX.cmpback rz ⟨z', H', I', rz, qz⟩
theorem cmp_eq (a b : Value) : compareOp .Eq a b = richCompare .Eq a b := rfl
theorem cmp_ne (a b : Value) : compareOp .NotEq a b = richCompare .NotEq a b := rfl
/-- y in x, by an own __contains__ that answers a bool -/
theorem b_inOwn {f : Addr} {fd : FuncData} {ps : List Str} {x y : D} {fs : List (Str × D)} (hs : PySem.W.findIn X.K (.ref C) "__contains__" = some (some (.ref f))) (hf : PySem.W.isFn X.K (.ref f) = true)
    (F1 : FnOk X.prog X.w X.K X.mg X.base CX0 k f fd ps (toSp X.K sp)) (hb : Binds X.K fd ps []) (hr : Room j X.A) (hk : k ≤ j) (hx : IsObj M x C fs) (h : sp [x, y] M fun d M1 => ∃ t, d = .bl t ∧ Q (.bl t) M1) : BinG Pm X (compareOp .In) y x M Q := by
  intro v u H F mF ok
  obtain ⟨p, dx, ws, rfl, hp, o2⟩ := isObj_at (F := fun G => Rp X.K G y v ∧ F G) hx (ok.imp fun _ _ ⟨z1, z2, z3⟩ => ⟨z2, z1, z3⟩)
  intro pins s σ v' u' I r1 r2
  cases (show u' = Value.ref p from r2)
  obtain ⟨od, J⟩ := inst_at I hp
  obtain ⟨m, hF⟩ := I.fr
  refine PySem.W.in_K hF I.ok.mod.kin J hs hf ?_
  refine wpAny_mono (run_own F1 hb (hr.mono hk) I (vs := [.ref p, v]) (us := [.ref p, v']) (.cons rfl (.cons r1 .nil)) mF (ok.imp fun _ _ ⟨z1, z2, z3⟩ => ⟨RpL.cons z2 (RpL.cons z1 RpL.nil), z3⟩) h) (fun w s' z => ?_) fun _ _ x => x
  obtain ⟨z', H', I', rz, d, M', o', t, e, q⟩ := z
  subst e
  obtain rfl : z' = .bl t := o'.use fun _ _ z => z.1.bl_inv
  cases (show w = Value.bool t from rz)
  exact wpAny_pure ⟨.bl t, H', I', rfl, .bl t, M', o', q⟩
theorem b_notinOwn {f : Addr} {fd : FuncData} {ps : List Str} {x y : D} {fs : List (Str × D)} (hs : PySem.W.findIn X.K (.ref C) "__contains__" = some (some (.ref f))) (hf : PySem.W.isFn X.K (.ref f) = true)
    (F1 : FnOk X.prog X.w X.K X.mg X.base CX0 k f fd ps (toSp X.K sp)) (hb : Binds X.K fd ps []) (hr : Room j X.A) (hk : k ≤ j) (hx : IsObj M x C fs) (h : sp [x, y] M fun d M1 => ∃ t, d = .bl t ∧ Q (.bl (!t)) M1) : BinG Pm X (compareOp .NotIn) y x M Q := by
  intro v u H F mF ok
  obtain ⟨p, dx, ws, rfl, hp, o2⟩ := isObj_at (F := fun G => Rp X.K G y v ∧ F G) hx (ok.imp fun _ _ ⟨z1, z2, z3⟩ => ⟨z2, z1, z3⟩)
  intro pins s σ v' u' I r1 r2
  cases (show u' = Value.ref p from r2)
  obtain ⟨od, J⟩ := inst_at I hp
  obtain ⟨m, hF⟩ := I.fr
  refine PySem.W.notIn_K hF I.ok.mod.kin J hs hf ?_
  refine wpAny_mono (run_own F1 hb (hr.mono hk) I (vs := [.ref p, v]) (us := [.ref p, v']) (.cons rfl (.cons r1 .nil)) mF (ok.imp fun _ _ ⟨z1, z2, z3⟩ => ⟨RpL.cons z2 (RpL.cons z1 RpL.nil), z3⟩) h) (fun w s' z => ?_) fun _ _ x => x
  obtain ⟨z', H', I', rz, d, M', o', t, e, q⟩ := z
  subst e
  obtain rfl : z' = .bl t := o'.use fun _ _ z => z.1.bl_inv
  cases (show w = Value.bool t from rz)
  exact wpAny_pure ⟨.bl (!t), H', I', rfl, .bl (!t), M', o'.imp fun _ _ z => ⟨rp_bl, z.2⟩, q⟩
/-- str(x), by an own __str__ that answers a text -/
theorem c_strOwn {f : Addr} {fd : FuncData} {ps : List Str} {x : D} {fs : List (Str × D)} (hs : PySem.W.findIn X.K (.ref C) "__str__" = some (some (.ref f))) (hf : PySem.W.isFn X.K (.ref f) = true)
    (F1 : FnOk X.prog X.w X.K X.mg X.base CX0 k f fd ps (toSp X.K sp)) (hb : Binds X.K fd ps []) (hr : Room j X.A) (hk : k + 2 ≤ j) (hx : IsObj M x C fs) (h : sp [x] M fun d M1 => ∃ t, d = .str t ∧ Q (.str t) M1) : CallG Pm X (.type "str") [x] M Q := by
  intro vs H F mF ok
  obtain ⟨v, rfl⟩ : ∃ v, vs = [v] := ok.use fun _ _ z => let ⟨v, a, _⟩ := z.1.one_inv; ⟨v, a⟩
  obtain ⟨p, dx, ws, rfl, hp, o2⟩ := isObj_at (F := F) hx (ok.imp fun _ _ z => ⟨by obtain ⟨v', e, r⟩ := z.1.one_inv; cases e; exact r, z.2⟩)
  intro pins s σ us I rv
  obtain ⟨u, rfl, r⟩ := vals1 rv
  cases (show u = Value.ref p from r)
  obtain ⟨od, J⟩ := inst_at I hp
  have hr2 : Room (k + 2) X.A := hr.mono hk
  have hr3 : Room k X.A.in1.in1 := (Room.in1 (k := k + 1) hr2).in1
  refine PySem.W.kso_call hr3.units0 I.kIn J hs hf ?_
  have e0 : Env0 X.prog X.w X.K X.mg X.base X.A.in1.in1 X.stack s H := I.env0.in1.in1
  have hl := F1.len [.ref p] H _ E0 ⟨[x], M, F, _, mF.m, ok, h, fun v H' z => z⟩
  refine wpAny_call (codeAny_mono (F1.run X.A.in1.in1 X.stack s H ⟨[.ref p], []⟩ [.ref p] [.ref p] _ E0 hr3 e0 (by have := hb s [.ref p] I.kIn (by rw [List.append_nil]; exact hl); rwa [List.append_nil] at this) (.cons rfl .nil) ⟨[x], M, F, _, mF.m, ok, h, fun v H' z => z⟩) fun r s' hq => ?_)
  cases r with
  | error e => exact False.elim hq
  | ok fl =>
    cases fl with
    | ret u =>
      obtain ⟨v, H', I', rv', d, M', o', t, e, q⟩ := I.after hq
      subst e
      obtain rfl : v = .str t := o'.use fun _ _ z => z.1.str_inv
      obtain ⟨tk, rfl⟩ := rv'
      exact ⟨.str t, H', I', ⟨tk, rfl⟩, .str t, M', o', q⟩
    | next => exact False.elim hq
    | brk => exact False.elim hq
    | cont => exact False.elim hq
/-! ### isinstance -/
/-- the type of data -/
def TyD (K : PySem.W.Frag) (M : Mst) : D → Value → Prop
  | .non, t => t = .type "NoneType"
  | .bl _, t => t = .type "bool"
  | .int _, t => t = .type "int"
  | .str _, t => t = .type "str"
  | .lst _, t => t = .type "list"
  | .tup _, t => t = .type "tuple"
  | .obj C _, t => C8.InsC K C ∧ t = .ref C
  | .raw (.ref p), t => (∃ xs, M p = some (.lst xs) ∧ t = .type "list") ∨ (∃ xs, M p = some (.dct xs) ∧ t = .type "dict")
  | _, _ => False
theorem tyD_of {G H : Hp} {x : D} {v : V} {t : Value} (s : Le G H) (hM : ∀ a o, M a = some o → G a = none ∧ MRp X.K G o (H a)) (r : Rp X.K G x v) (h : TyD X.K M x t) : TyX X.K H v t := by
  cases x with
  | non => cases r.non_inv; cases h; exact .base .non
  | bl k => cases r.bl_inv; cases h; exact .base (.bl k)
  | int i => cases r.int_inv; cases h; exact .base (.int i)
  | str z => cases r.str_inv; cases h; exact .base (.str z)
  | lst xs =>
    obtain ⟨p, vs, rfl, h1, h2⟩ := r.lst_inv
    cases h
    exact .base (.lst (s.at h1))
  | tup xs =>
    obtain ⟨p, vs, rfl, h1, h2⟩ := r.tup_inv
    cases h
    rcases sqt_mono s h1 with (h | ⟨o, h⟩) | h
    · exact .base (.tup h)
    · exact .fTuple h
    · obtain ⟨o, its, n, e, c, _⟩ := h
      exact .kTuple e c
  | obj C fs =>
    obtain ⟨p, dx, vs, rfl, h1, h2⟩ := r.obj_inv
    obtain ⟨ic, rfl⟩ := h
    exact .base (.ins (s.at h1) ic.cl ic.ha ic.hn ic.htk ic.hm)
  | raw w =>
    obtain rfl : v = w := r.raw_inv
    cases v with
    | ref p =>
      rcases h with ⟨xs, hp, rfl⟩ | ⟨xs, hp, rfl⟩
      · obtain ⟨_, ws, h1, h2⟩ := hM p _ hp
        exact .base (.lst h1)
      · obtain ⟨_, ws, h1, h2⟩ := hM p _ hp
        exact .base (.dK h1)
    | _ => exact h.elim
  | _ => exact h.elim
theorem c_isi {x : D} {c : V} {t u : Value} {k : Bool} (hc : ClsV c u) (ht : TyD X.K M x t) (hk : PySem.W.kitOne X.K t u = some k) (q : Q (.bl k) M) : CallG Pm X (.builtin "isinstance") [x, .raw c] M Q := by
  intro vs H F mF ⟨G, s, hM, z1, z3⟩
  obtain ⟨v, w, rfl, r1, r2⟩ := z1.two_inv
  cases r2.raw_inv
  exact wCall_of call_isi ⟨v, c, t, u, k, rfl, hc, tyD_of s hM r1 ht, hk, .bl k, M, ⟨G, s, hM, rp_bl, z3⟩, q⟩
end
end
end DL

/-! DL9: slices, list methods, items set, texts -/
namespace DL
open PySem PySem.Spec L2
open PyProof.Rows hiding St
section
variable {X : Cx} {Pm : Hp → Prop} {M : Mst} {ds : Ds} {Q : QD} {pos : Pos} {a b c e : Expr} {Dn : EndD}
/-! ### slices -/
abbrev wO (X : Cx) (e : Option Expr) : TO := fun σ H Q => ∀ pins s, Inv X pins σ H s → wpAny (model X.prog X.w) X.A (evalPart e X.env) (fun u s' => ∃ o H', Inv X pins σ H' s' ∧ IsPart u o ∧ Q o H') X.xe s
theorem po_w {e : Option Expr} : PO X e (wO X e) := ⟨fun pins s σ H Q I h => h pins s I⟩
def WO (Pm : Hp → Prop) (X : Cx) (e : Option Expr) (M : Mst) (ds : Ds) (Q : Option Int → Mst → Prop) : Prop :=
  ∀ σ H F, MonoF Pm F → Ok X.K M (fun G => EnvR X.K G ds σ ∧ F G) H → wO X e σ H fun o H' => ∃ M', Ok X.K M' (fun G => EnvR X.K G ds σ ∧ F G) H' ∧ Q o M'
theorem wO_mono {e : Option Expr} {σ : L2.St} {H : Hp} {Q Q' : Option Int → Hp → Prop} (h : wO X e σ H Q) (f : ∀ o H', Q o H' → Q' o H') : wO X e σ H Q' := fun pins s I =>
  thn (h pins s I) fun u s' ⟨o, H', a, b, c⟩ => ⟨o, H', a, b, f o H' c⟩
theorem wo_none {Q : Option Int → Mst → Prop} (q : Q none M) : WO Pm X none M ds Q := fun σ H F mF ok pins s I => po_none.run pins s σ H _ I ⟨M, ok, q⟩
theorem wo_some {Q : Option Int → Mst → Prop} (h : WE Pm X e M ds fun d M1 => ∃ i, d = .int i ∧ Q (some i) M1) : WO Pm X (some e) M ds Q := fun σ H F mF ok pins s I => (po_some pe_w).run pins s σ H _ I (by
  refine wE_mono (h σ H F mF ok) fun v H1 ⟨d, M1, o1, i, e, q⟩ => ?_
  subst e
  obtain rfl : v = .int i := o1.use fun _ _ z => z.1.int_inv
  exact ⟨i, rfl, M1, o1.imp fun _ _ z => z.2, q⟩)
/-- what a slice is -/
inductive SlD (M : Mst) : D → Option Int → Option Int → D → Prop where
  | lst (xs lo hi) : SlD M (.lst xs) lo hi (.lst (cutD xs lo hi))
  | mlst (p xs lo hi) (h : M p = some (.lst xs)) : SlD M (.raw (.ref p)) lo hi (.lst (cutD xs lo hi))
  | klst (xs lo hi) : SlD M (.klst xs) lo hi (.lst (cutD xs lo hi))
  | tup (xs lo hi) : SlD M (.tup xs) lo hi (.tup (cutD xs lo hi))
  | str (z lo hi) (h : z.length ≤ sizeLine) : SlD M (.str z) lo hi (.str (Txt.slice z lo hi))
theorem cutV_whole {xs : List V} {lo hi : Option Int} (h : HT.sIx xs.length 0 lo = 0 ∧ HT.sIx xs.length xs.length hi = xs.length) : cutV xs lo hi = xs := by
  unfold cutV
  rw [h.1, h.2]
  simp
theorem we_slice {lo hi : Option Expr} {p2 : Pos} (h : WE Pm X a M ds fun x M1 => WO Pm X lo M1 ds fun l M2 => WO Pm X hi M2 ds fun u M3 => ∃ d, SlD M3 x l u d ∧ Q d M3) : WE Pm X (.Subscript a (.Slice lo hi none p2) pos) M ds Q := by
  intro σ H F mF ok
  refine wE_of (pe_slice ((SlR.or sl_list sl_tupA).or C8.sl_txt) pe_w po_w po_w) ?_
  refine wE_mono (h σ H F mF ok) fun v H1 ⟨x, M1, o1, h1⟩ => ?_
  refine wO_mono (h1 σ H1 (fun G => Rp X.K G x v ∧ F G) (mono_rp.and mF) (o1.imp fun _ _ ⟨p, q, r⟩ => ⟨q, p, r⟩)) fun l H2 ⟨M2, o2, h2⟩ => ?_
  refine wO_mono (h2 σ H2 (fun G => Rp X.K G x v ∧ F G) (mono_rp.and mF) o2) fun u H3 ⟨M3, o3, d, hs, q⟩ => ?_
  obtain ⟨G, s, hM, z1, z2, z3⟩ := id o3
  cases hs with
  | lst xs =>
    obtain ⟨p, vs, rfl, g1, g2⟩ := z2.lst_inv
    refine .inl (.inl ⟨p, vs, rfl, SqL.of (s.at g1), fun r hr => ⟨_, M3, ?_, q⟩⟩)
    have ok2 : Ok X.K M3 (fun G => RpL X.K G xs vs ∧ EnvR X.K G ds σ ∧ F G) H3 := ⟨G, s, hM, g2, z1, z3⟩
    exact (ok2.new (o := .lst (cutV vs l u)) (mono_rpl.and (mono_x mF)) hr).imp fun _ _ z => ⟨rp_lst z.1 (z.2.1.cut l u), z.2.2⟩
  | klst xs =>
    obtain ⟨p, vs, rfl, g1, g2⟩ := z2.klst_inv
    refine .inl (.inl ⟨p, vs, rfl, sql_mono s g1, fun r hr => ⟨_, M3, ?_, q⟩⟩)
    have ok2 : Ok X.K M3 (fun G => RpL X.K G xs vs ∧ EnvR X.K G ds σ ∧ F G) H3 := ⟨G, s, hM, g2, z1, z3⟩
    exact (ok2.new (o := .lst (cutV vs l u)) (mono_rpl.and (mono_x mF)) hr).imp fun _ _ z => ⟨rp_lst z.1 (z.2.1.cut l u), z.2.2⟩
  | mlst p xs _ _ hp =>
    cases z2.raw_inv
    obtain ⟨_, vs, g1, g2⟩ := hM p _ hp
    refine .inl (.inl ⟨p, vs, rfl, SqL.of g1, fun r hr => ⟨_, M3, ?_, q⟩⟩)
    have ok2 : Ok X.K M3 (fun G => RpL X.K G xs vs ∧ EnvR X.K G ds σ ∧ F G) H3 := ⟨G, s, hM, g2, z1, z3⟩
    exact (ok2.new (o := .lst (cutV vs l u)) (mono_rpl.and (mono_x mF)) hr).imp fun _ _ z => ⟨rp_lst z.1 (z.2.1.cut l u), z.2.2⟩
  | tup xs =>
    obtain ⟨p, vs, rfl, g1, g2⟩ := z2.tup_inv
    refine .inl (.inr ⟨p, vs, rfl, sqt_mono s g1, fun hw => ⟨_, M3, ⟨G, s, hM, ?_, z1, z3⟩, q⟩, fun hw r hr => ⟨_, M3, ?_, q⟩⟩)
    · have := g2.cut l u
      rw [cutV_whole hw] at this
      exact rp_tup g1 this
    · have ok2 : Ok X.K M3 (fun G => RpL X.K G xs vs ∧ EnvR X.K G ds σ ∧ F G) H3 := ⟨G, s, hM, g2, z1, z3⟩
      exact (ok2.new (o := .tup (cutV vs l u)) (mono_rpl.and (mono_x mF)) hr).imp fun _ _ z => ⟨rp_tup (SqT.of z.1) (z.2.1.cut l u), z.2.2⟩
  | str z _ _ hz =>
    cases z2.str_inv
    exact .inr ⟨z, rfl, hz, _, M3, ⟨G, s, hM, rp_str, z1, z3⟩, q⟩

/-! ### methods of mutable lists -/
theorem we_append {o : Expr} {apos cpos : Pos} (h : WE Pm X o M ds fun x M1 => ∃ p xs0, x = .raw (.ref p) ∧ M1 p = some (.lst xs0) ∧ WE Pm X e M1 ds fun d M2 => ∃ xs, M2 p = some (.lst xs) ∧ xs.length < sizeLine ∧ Q .non (updM M2 p (.lst (xs ++ [d]))))
    (hbase : attributeBase o "append" X.env (eval o X.env) = eval o X.env := by rfl)
    (hfew : ((backTo cpos (starEach [e] X.env)).all (fun x => !x.1) && (backToKw cpos (keywordEach [] X.env)).all (fun x => x.1.isSome)
      && decide (([e] : List Expr).length + ([] : List Keyword).length + (if ([] : List Keyword).isEmpty then 0 else 1) < 30)) = true := by rfl)
    (hline : (apos.endLine == cpos.line) = true := by rfl) (hs : starEach [e] X.env = (false, eval e X.env) :: starEach [] X.env := by rfl) (hplain : (backTo cpos (starEach [] X.env)).any (·.1) = false := by rfl) :
    WE Pm X (.Call (.Attribute o "append" apos) [e] [] cpos) M ds Q := by
  intro σ H F mF ok
  refine wE_of (pe_bm PySem.F.plainAttrs_list PySem.F.slot_list_append PySem.F.type_list_append mt_append pe_w (pa_cons pe_w pa_nil hs) hbase hfew hline hs hplain) ?_
  refine wE_mono (h σ H F mF ok) fun v H1 ⟨x, M1, o1, p, xs0, e1, hp0, h1⟩ => ?_
  subst e1
  obtain rfl : v = .ref p := o1.use fun _ _ z => z.1.raw_inv
  obtain ⟨vs0, hH0⟩ : ∃ vs, H1 p = some (.lst vs) := (o1.getM hp0).use fun G _ z => let ⟨vs, a, _⟩ := z.1; ⟨vs, a⟩
  refine ⟨.inl ⟨rfl, vs0, SqL.of hH0⟩, ?_⟩
  refine wE_mono (h1 σ H1 F mF (o1.imp fun _ _ z => z.2)) fun u H2 ⟨d, M2, o2, xs, hp, hl, q⟩ => ?_
  obtain ⟨G, s, hM, z⟩ := id o2
  obtain ⟨_, ws, hw, hr⟩ := hM p _ hp
  refine ⟨p, ws, u, rfl, rfl, hw, by rw [hr.length]; exact hl, .non, _, ?_, q⟩
  exact (o2.setM (o := .lst (ws ++ [u])) (d := .lst (xs ++ [d])) hp fun G' s' z' ⟨ws', e', r'⟩ => by
    rw [hw] at e'
    cases e'
    exact ⟨_, rfl, r'.append (RpL.cons z'.1 RpL.nil)⟩).imp fun _ _ z => ⟨rp_non, z.2⟩
theorem we_popAt {o : Expr} {apos cpos : Pos} (h : WE Pm X o M ds fun x M1 => ∃ p xs0, x = .raw (.ref p) ∧ M1 p = some (.lst xs0) ∧ WE Pm X e M1 ds fun d M2 => ∃ xs k y, d = .int ((k : Nat) : Int) ∧ M2 p = some (.lst xs) ∧ xs.length < 2 ^ 62 ∧ xs[k]? = some y ∧ Q y (updM M2 p (.lst (xs.eraseIdx k))))
    (hbase : attributeBase o "pop" X.env (eval o X.env) = eval o X.env := by rfl)
    (hfew : ((backTo cpos (starEach [e] X.env)).all (fun x => !x.1) && (backToKw cpos (keywordEach [] X.env)).all (fun x => x.1.isSome)
      && decide (([e] : List Expr).length + ([] : List Keyword).length + (if ([] : List Keyword).isEmpty then 0 else 1) < 30)) = true := by rfl)
    (hline : (apos.endLine == cpos.line) = true := by rfl) (hs : starEach [e] X.env = (false, eval e X.env) :: starEach [] X.env := by rfl) (hplain : (backTo cpos (starEach [] X.env)).any (·.1) = false := by rfl) :
    WE Pm X (.Call (.Attribute o "pop" apos) [e] [] cpos) M ds Q := by
  intro σ H F mF ok
  refine wE_of (pe_bm PySem.F.plainAttrs_list PySem.F.slot_list_pop PySem.F.type_list_pop mt_popAt pe_w (pa_cons pe_w pa_nil hs) hbase hfew hline hs hplain) ?_
  refine wE_mono (h σ H F mF ok) fun v H1 ⟨x, M1, o1, p, xs0, e1, hp0, h1⟩ => ?_
  subst e1
  obtain rfl : v = .ref p := o1.use fun _ _ z => z.1.raw_inv
  obtain ⟨vs0, hH0⟩ : ∃ vs, H1 p = some (.lst vs) := (o1.getM hp0).use fun G _ z => let ⟨vs, a, _⟩ := z.1; ⟨vs, a⟩
  refine ⟨.inl ⟨rfl, vs0, SqL.of hH0⟩, ?_⟩
  refine wE_mono (h1 σ H1 F mF (o1.imp fun _ _ z => z.2)) fun u H2 ⟨d, M2, o2, xs, k, y, ed, hp, hz, hy, q⟩ => ?_
  subst ed
  obtain rfl : u = .int (k : Nat) := o2.use fun _ _ z => z.1.int_inv
  obtain ⟨G, s, hM, z⟩ := id o2
  obtain ⟨_, ws, hw, hr⟩ := hM p _ hp
  obtain ⟨w, hw2, rw2⟩ := hr.get hy
  have hk : k < xs.length := (List.getElem?_eq_some_iff.mp hy).1
  have hl := hr.length
  refine ⟨p, ws, (k : Nat), k, w, rfl, rfl, hw, by omega, by omega, seqIndex_of (by omega) (by omega), hw2, y, _, ?_, q⟩
  have o3 : Ok X.K M2 (fun G => Rp X.K G y w ∧ EnvR X.K G ds σ ∧ F G) H2 := ⟨G, s, hM, rw2, z.2⟩
  exact (o3.setM (o := .lst (ws.eraseIdx k)) (d := .lst (xs.eraseIdx k)) hp fun G' s' z' ⟨ws', e', r'⟩ => by
    rw [hw] at e'
    cases e'
    exact ⟨_, rfl, r'.eraseIdx k⟩)
/-- xs[i] = e, xs mutable -/
theorem ws_setIx {o i value : Expr} {pos' : Pos} (h : WE Pm X value M ds fun v M1 => WE Pm X o M1 ds fun x M2 => WE Pm X i M2 ds fun y M3 => ∃ p k j xs, x = .raw (.ref p) ∧ y = .int k ∧ M3 p = some (.lst xs) ∧ ixN xs.length k = some j ∧ Dn.nx ds (updM M3 p (.lst (xs.set j v))))
    (ha : ∀ v, assign (.Subscript o i pos') X.env v = (do
      let ov ← holding [v] (eval o X.env)
      let iv ← holding [v, ov] (eval i X.env)
      standAt pos'
      holding [v, ov, iv] (setItem ov iv v)
      release [v, ov, iv] []) := by intro _; rfl)
    (hs : swapsWithSole [.Subscript o i pos'] value pos.line X.env = pure false := by rfl) (hw : swappedStores [.Subscript o i pos'] value X.env = pure none := by rfl) (h1 : (assignEach [.Subscript o i pos'] X.env).map (·.2) = [assign (.Subscript o i pos') X.env] := by rfl) :
    WS Pm X (.Assign [.Subscript o i pos'] value pos) M ds Dn := by
  intro σ H F mF ok
  refine wS_of (ps_asg pe_w (pg_sub pe_w pe_w set_list ha) hs hw h1) ?_
  refine wE_mono (h σ H F mF ok) fun v H1 ⟨d, M1, o1, h1⟩ => ?_
  refine wE_mono (h1 σ H1 (fun G => Rp X.K G d v ∧ F G) (mono_rp.and mF) (o1.imp fun _ _ ⟨p, q, r⟩ => ⟨q, p, r⟩)) fun u H2 ⟨x, M2, o2, h2⟩ => ?_
  refine wE_mono (h2 σ H2 (fun G => Rp X.K G x u ∧ Rp X.K G d v ∧ F G) (mono_rp.and (mono_rp.and mF)) (o2.imp fun _ _ ⟨p, q, r⟩ => ⟨q, p, r⟩)) fun y H3 ⟨dy, M3, o3, p, k, j, xs, e1, e2, hp, hj, q⟩ => ?_
  subst e1 e2
  obtain rfl : u = .ref p := o3.use fun _ _ z => z.2.2.1.raw_inv
  obtain rfl : y = .int k := o3.use fun _ _ z => z.1.int_inv
  obtain ⟨G, s, hM, z⟩ := id o3
  obtain ⟨_, ws, hw, hr⟩ := hM p _ hp
  refine ⟨p, ws, k, j, rfl, rfl, hw, by rw [hr.length]; exact hj, ds, _, ?_, q⟩
  exact (o3.setM (o := .lst (ws.set j v)) (d := .lst (xs.set j d)) hp fun G' s' z' ⟨ws', e', r'⟩ => by
    rw [hw] at e'
    cases e'
    exact ⟨_, rfl, r'.set z'.2.2.2.1 j⟩).imp fun _ _ z => ⟨z.2.1, z.2.2.2.2⟩

/-! ### texts -/
theorem RpL.strs {K : PySem.W.Frag} {G : Hp} : ∀ {ns : List Str} {vs : List V}, RpL K G (ns.map D.str) vs → vs = ns.map V.str
  | [], _, h => by cases h.nil_inv; rfl
  | n :: ns, _, h => by
    obtain ⟨v, r, rfl, h1, h2⟩ := RpL.cons_inv h
    rw [h1.str_inv, RpL.strs h2]
    rfl
theorem we_join {o : Expr} {apos : Pos} (h : WE Pm X o M ds fun x M1 => ∃ z, x = .str z ∧ WE Pm X e M1 ds fun d M2 => ∃ ys : List Str, d = .lst (ys.map D.str) ∧ (ys.map (·.length)).sum + ys.length * z.length ≤ 16777216 ∧ Q (.str (Txt.join z ys)) M2)
    (hs : starEach [e] X.env = [(false, eval e X.env)] := by rfl) (hbase : attributeBase o "join" X.env (eval o X.env) = eval o X.env := by rfl) (hline : (apos.endLine == pos.line) = true := by rfl) : WE Pm X (.Call (.Attribute o "join" apos) [e] [] pos) M ds Q := by
  intro σ H F mF ok
  refine wE_of (pe_join pe_w pe_w hs hbase hline) ?_
  refine wE_mono (h σ H F mF ok) fun v H1 ⟨x, M1, o1, z, e1, h1⟩ => ?_
  subst e1
  obtain rfl : v = .str z := o1.use fun _ _ y => y.1.str_inv
  refine ⟨⟨z, rfl⟩, wE_mono (h1 σ H1 F mF (o1.imp fun _ _ z => z.2)) fun u H2 ⟨d, M2, o2, ys, e2, hz, q⟩ => ?_⟩
  subst e2
  obtain ⟨G, s, hM, y1, y2⟩ := id o2
  obtain ⟨p, vs, rfl, g1, g2⟩ := y1.lst_inv
  cases g2.strs
  exact ⟨z, p, ys, rfl, rfl, .inl (SqL.of (s.at g1)), hz, _, M2, o2.imp fun _ _ y => ⟨rp_str, y.2⟩, q⟩
theorem we_fmt (h : WE Pm X e M ds fun d M1 => (∃ y : Str, d = .str y ∧ y.length ≤ sizeLine ∧ Q (.str y) M1) ∨ ∃ i : Int, d = .int i ∧ i.natAbs.log2 < 1920 ∧ Q (.str (toString i)) M1) : WE Pm X (.FormattedValue e (-1) none pos) M ds Q := by
  intro σ H F mF ok
  refine wE_of (pe_fmt pe_w) ?_
  refine wE_mono (h σ H F mF ok) fun v H1 ⟨d, M1, o1, q⟩ => ?_
  rcases q with ⟨y, rfl, hz, q⟩ | ⟨i, rfl, hz, q⟩
  · obtain rfl : v = .str y := o1.use fun _ _ z => z.1.str_inv
    exact .inl ⟨y, rfl, hz, _, M1, o1, q⟩
  · obtain rfl : v = .int i := o1.use fun _ _ z => z.1.int_inv
    exact .inr ⟨i, rfl, hz, _, M1, o1.imp fun _ _ z => ⟨rp_str, z.2⟩, q⟩
def WJ (Pm : Hp → Prop) (X : Cx) : List Expr → Str → Mst → Ds → (Str → Mst → Prop) → Prop
  | [], acc, M, _, Q => Q acc M
  | e :: es, acc, M, ds, Q => WE Pm X e M ds fun d M1 => ∃ y : Str, d = .str y ∧ (acc ++ y).length ≤ sizeLine ∧ WJ Pm X es (acc ++ y) M1 ds Q
theorem pj_w : ∀ es : List Expr, PJ X es (es.map (wE X))
  | [] => .nil
  | e :: es => .cons pe_w (pj_w es)
theorem tJs_of {Q : Str → Mst → Prop} {σ : L2.St} {F : Hp → Prop} (mF : MonoF Pm F) : ∀ {es : List Expr} {acc : Str} {M : Mst} {H : Hp}, WJ Pm X es acc M ds Q → Ok X.K M (fun G => EnvR X.K G ds σ ∧ F G) H → tJs (es.map (wE X)) acc σ H fun out H1 => ∃ M1, Ok X.K M1 (fun G => EnvR X.K G ds σ ∧ F G) H1 ∧ Q out M1
  | [], acc, M, H, h, ok => ⟨M, ok, h⟩
  | e :: es, acc, M, H, h, ok => wE_mono (h σ H F mF ok) fun v H1 ⟨d, M1, o1, y, e1, hz, h1⟩ => by
    subst e1
    obtain rfl : v = .str y := o1.use fun _ _ z => z.1.str_inv
    exact ⟨y, rfl, hz, tJs_of mF h1 (o1.imp fun _ _ z => z.2)⟩
theorem tJs_mono {σ : L2.St} : ∀ {es : List Expr} {acc : Str} {H : Hp} {Q Q' : Str → Hp → Prop}, tJs (es.map (wE X)) acc σ H Q → (∀ o H, Q o H → Q' o H) → tJs (es.map (wE X)) acc σ H Q'
  | [], acc, H, Q, Q', h, f => f _ _ h
  | e :: es, acc, H, Q, Q', h, f => wE_mono (X := X) (e := e) h fun v H1 ⟨y, e1, hz, h1⟩ => ⟨y, e1, hz, tJs_mono h1 f⟩
theorem we_joined {v1 v2 : Expr} {rest : List Expr} (h : WJ Pm X (v1 :: v2 :: rest) Str.empty M ds fun out M1 => Q (.str out) M1) : WE Pm X (.JoinedStr (v1 :: v2 :: rest) pos) M ds Q := by
  intro σ H F mF ok
  refine wE_of (pe_joined (pj_w _)) ?_
  exact tJs_mono (tJs_of mF h ok) fun o H1 ⟨M1, o1, q⟩ => ⟨_, M1, o1.imp fun _ _ z => ⟨rp_str, z⟩, q⟩
end
end DL

/-! DLH: the head's Hook with one more test -/
namespace DL
open PySem PySem.Spec PyProof.Rows L2
/-- an empty tuple stands at a -/
def tup0 (K : PySem.W.Frag) (a : Addr) : Bool := match K.lookup a with
  | some ⟨.type c, _, .seq its _, _⟩ => decide (c = "tuple") && decide (its.size = 0)
  | _ => false
theorem tup0_ok {K : PySem.W.Frag} {a : Addr} (h : tup0 K a = true) (H : Hp) : SqT K H a [] := by
  unfold tup0 at h
  cases q : K.lookup a with
  | none =>
    rw [q] at h
    cases h
  | some o =>
    obtain ⟨oc, od, dt, osl⟩ := o
    rw [q] at h
    cases oc with
    | type c =>
      cases dt with
      | seq its n =>
        obtain ⟨h1, h2⟩ := He.ba (show (decide (c = "tuple") && decide (its.size = 0)) = true from h)
        have h3 : its.size = 0 := of_decide_eq_true h2
        have h4 : its.toList = [] := List.length_eq_zero_iff.mp (by rw [Array.length_toList]; exact h3)
        exact .inr ⟨_, its, n, q, congrArg Value.type (of_decide_eq_true h1), rfl, by rw [h3]; exact Nat.zero_le _, by rw [h4]; exact .nil⟩
      | _ => cases h
    | _ => cases dt <;> cases h
/-- what isinstance, == ask of an own class -/
def insB (K : PySem.W.Frag) (C : Addr) : Bool := He.eqO (PySem.W.findIn K (.ref C) "__class__") (some (some (.builtin "object.__class__"))) && (He.eqO (PySem.W.specialIn K (.builtin "object.__class__") "__get__") (some (some (.builtin "getset_descriptor.__get__"))) &&
  (decide (PySem.W.takesIn K (.builtin "object.__class__") = some true) && (decide (PySem.W.mroIn K C (.type "object") = some true) && (decide (PySem.W.kitOne K (.ref C) (.ref C) = some true) && PySem.W.notFirst K C (.ref C)))))
theorem insB_ok {K : PySem.W.Frag} {C : Addr} (cl : Cls K C) (h : insB K C = true) : C8.InsC K C ∧ PySem.W.notFirst K C (.ref C) = true := by
  obtain ⟨h1, h⟩ := He.ba h
  obtain ⟨h2, h⟩ := He.ba h
  obtain ⟨h3, h⟩ := He.ba h
  obtain ⟨h4, h⟩ := He.ba h
  obtain ⟨h5, h6⟩ := He.ba h
  exact ⟨⟨cl, He.eqO_ok h1, He.eqO_ok h2, of_decide_eq_true h3, of_decide_eq_true h4, of_decide_eq_true h5⟩, h6⟩
def obsX (fa : List He.Fa) (fn : List He.DefD) (ex : PySem.W.Frag → Bool) (K : PySem.W.Frag) : Bool × He.AlD := (ex K, He.obsD fa fn K)
def obsXG (n : Nat) (fa : List He.Fa) (fn : List He.DefD) (ex : PySem.W.Frag → Bool) (g : Addr → Option Obj) : Bool × He.AlD := obsX fa fn ex (He.frG g (He.asD g n))
def hookX (n : Nat) (fa : List He.Fa) (fn : List He.DefD) (ex : PySem.W.Frag → Bool) : PySem.W.Hook where
  α := Bool × He.AlD
  obs := fun s => obsXG n fa fn ex s.heap.get?
  val := fun _ => (true, He.valD fn)
  says := fun _ h => ∃ K : PySem.W.Frag, K.In h ∧ ex K = true ∧ He.SaysD fa fn K
  of := fun _ _ e => ⟨_, He.frG_in, congrArg (fun z : Bool × He.AlD => z.1) e, congrArg (fun z : Bool × He.AlD => z.2) e⟩
  keeps := fun _ _ _ ⟨K, hK, c⟩ k => ⟨K, PySem.W.Frag.In.keeps hK k, c⟩
theorem obsXG_eq {n : Nat} {fa : List He.Fa} {fn : List He.DefD} {ex : PySem.W.Frag → Bool} {g : Addr → Option Obj} {s : Shared} (h : ∀ a, g a = s.heap.get? a) : obsXG n fa fn ex g = (hookX n fa fn ex).obs s := by
  have e : g = s.heap.get? := funext h
  rw [e] <;> rfl
end DL

/-! DLA: equality of typed data; a def's body from its parts -/
namespace DL
open PySem PySem.Spec L2
open PyProof.Rows hiding St
/-- a type of plain data -/
structure Enc (α : Type) [DecidableEq α] where
  d : α → D
  p : α → PyData
  ok : α → Prop
  hp : ∀ a, pd (d a) = some (p a)
  lay : ∀ a, ok a → PyData.canLay0 (p a) = true
  n : Nat
  dep : ∀ a, PyData.depth (p a) ≤ n
  eqv : ∀ a b, PyData.eqv (p a) (p b) = decide (a = b)
def encI : Enc Int := ⟨D.int, PyData.int, fun _ => True, fun a => by simp only [pd], fun a _ => rfl, 0, fun a => by simp only [PyData.depth]; exact Nat.le_refl _, fun a b => by
  simp only [PyData.eqv]
  exact Bool.eq_iff_iff.mpr (by simp)⟩
def encB : Enc Bool := ⟨D.bl, PyData.bool, fun _ => True, fun a => by simp only [pd], fun a _ => rfl, 0, fun a => by simp only [PyData.depth]; exact Nat.le_refl _, fun a b => by
  simp only [PyData.eqv]
  exact Bool.eq_iff_iff.mpr (by simp)⟩
def encS : Enc Str := ⟨D.str, PyData.str, fun a => PyData.canLay0 (.str a) = true, fun a => by simp only [pd], fun a h => h, 0, fun a => by simp only [PyData.depth]; exact Nat.le_refl _, fun a b => by
  simp only [PyData.eqv]
  exact Bool.eq_iff_iff.mpr (by simp)⟩
section
variable {α β : Type} [DecidableEq α] [DecidableEq β]
theorem pds_map (E : Enc α) : ∀ l : List α, pds (l.map E.d) = some (l.map E.p)
  | [] => by simp only [List.map_nil, pds]
  | a :: l => by simp only [List.map_cons, pds, E.hp a, pds_map E l, Option.bind_some, Option.map_some]
theorem lay_map (E : Enc α) : ∀ l : List α, (∀ a ∈ l, E.ok a) → PyData.canLayAll0 (l.map E.p) = true
  | [], _ => by simp only [List.map_nil, PyData.canLayAll0]
  | a :: l, h => by simp only [List.map_cons, PyData.canLayAll0, E.lay a (h a List.mem_cons_self), lay_map E l fun b hb => h b (List.mem_cons_of_mem _ hb), Bool.and_self]
theorem dep_map (E : Enc α) : ∀ l : List α, PyData.depthAll (l.map E.p) ≤ E.n
  | [] => by simp only [List.map_nil, PyData.depthAll]; exact Nat.zero_le _
  | a :: l => by
    simp only [List.map_cons, PyData.depthAll]
    exact Nat.max_le.mpr ⟨E.dep a, dep_map E l⟩
theorem eqv_map (E : Enc α) : ∀ l m : List α, PyData.eqvAll (l.map E.p) (m.map E.p) = decide (l = m)
  | [], [] => by simp [PyData.eqvAll]
  | [], _ :: _ => by simp [PyData.eqvAll]
  | _ :: _, [] => by simp [PyData.eqvAll]
  | a :: l, b :: m => by
    simp only [List.map_cons, PyData.eqvAll, E.eqv a b, eqv_map E l m]
    by_cases h : a = b <;> by_cases h' : l = m <;> simp [h, h']
def encL (E : Enc α) : Enc (List α) := ⟨fun l => .lst (l.map E.d), fun l => .list (l.map E.p), fun l => ∀ a ∈ l, E.ok a, fun l => by simp only [pd, pds_map, Option.map_some], fun l h => by simp only [PyData.canLay0]; exact lay_map E l h, E.n + 1,
  fun l => by simp only [PyData.depth]; exact Nat.succ_le_succ (dep_map E l), fun l m => by simp only [PyData.eqv]; exact eqv_map E l m⟩
def encT (E : Enc α) : Enc (List α) := ⟨fun l => .tup (l.map E.d), fun l => .tuple (l.map E.p), fun l => ∀ a ∈ l, E.ok a, fun l => by simp only [pd, pds_map, Option.map_some], fun l h => by simp only [PyData.canLay0]; exact lay_map E l h, E.n + 1,
  fun l => by simp only [PyData.depth]; exact Nat.succ_le_succ (dep_map E l), fun l m => by simp only [PyData.eqv]; exact eqv_map E l m⟩
def encP (E : Enc α) (F : Enc β) : Enc (α × β) := ⟨fun z => .tup [E.d z.1, F.d z.2], fun z => .tuple [E.p z.1, F.p z.2], fun z => E.ok z.1 ∧ F.ok z.2, fun z => by simp only [pd, pds, E.hp, F.hp, Option.bind_some, Option.map_some],
  fun z h => by simp only [PyData.canLay0, PyData.canLayAll0, E.lay _ h.1, F.lay _ h.2, Bool.and_self], max E.n F.n + 1, fun z => by
    simp only [PyData.depth, PyData.depthAll]
    have := E.dep z.1
    have := F.dep z.2
    omega, fun z w => by
    simp only [PyData.eqv, PyData.eqvAll, E.eqv, F.eqv, Bool.and_true]
    obtain ⟨a, b⟩ := z
    obtain ⟨c, d⟩ := w
    by_cases h : a = c <;> by_cases h' : b = d <;> simp [h, h']⟩
end
section
variable {X : Cx} {Pm : Hp → Prop} {M : Mst} {ds : Ds} {Q : QD} {pos : Pos} {Dn : EndD} {α : Type} [DecidableEq α]
theorem enc_shaped (E : Enc α) {a : α} (h : E.ok a) (hn : E.n ≤ 64) : SeqAt.shaped (E.p a) = true := by
  show ((E.p a).canLay0 && decide ((E.p a).depth ≤ 64)) = true
  rw [Bool.and_eq_true]
  exact ⟨E.lay a h, decide_eq_true (Nat.le_trans (E.dep a) hn)⟩
theorem b_eqE (E : Enc α) {a b : α} {k : Nat} (hr : Room k X.A) (q : Q (.bl (decide (a = b))) M) (ha : E.ok a := by first | trivial | exact fun _ _ => trivial | exact fun _ _ _ _ => trivial) (hb : E.ok b := by first | trivial | exact fun _ _ => trivial | exact fun _ _ _ _ => trivial) (hn : E.n ≤ 64 := by decide) : BinG Pm X (compareOp .Eq) (E.d a) (E.d b) M Q :=
  b_eqD hr.units (E.hp a) (E.hp b) (enc_shaped E ha hn) (enc_shaped E hb hn) (E.eqv a b) q
theorem b_neE (E : Enc α) {a b : α} {k : Nat} (hr : Room k X.A) (q : Q (.bl (!decide (a = b))) M) (ha : E.ok a := by first | trivial | exact fun _ _ => trivial | exact fun _ _ _ _ => trivial) (hb : E.ok b := by first | trivial | exact fun _ _ => trivial | exact fun _ _ _ _ => trivial) (hn : E.n ≤ 64 := by decide) : BinG Pm X (compareOp .NotEq) (E.d a) (E.d b) M Q :=
  b_neD hr.units (E.hp a) (E.hp b) (enc_shaped E ha hn) (enc_shaped E hb hn) (E.eqv a b) q
theorem b_eqI {a b : Int} {k : Nat} (hr : Room k X.A) (q : Q (.bl (decide (a = b))) M) : BinG Pm X (compareOp .Eq) (.int a) (.int b) M Q := b_eqE encI hr q
theorem b_neI {a b : Int} {k : Nat} (hr : Room k X.A) (q : Q (.bl (!decide (a = b))) M) : BinG Pm X (compareOp .NotEq) (.int a) (.int b) M Q := b_neE encI hr q
theorem b_eqB {a b : Bool} {k : Nat} (hr : Room k X.A) (q : Q (.bl (decide (a = b))) M) : BinG Pm X (compareOp .Eq) (.bl a) (.bl b) M Q := b_eqE encB hr q
end
/-! a def of the text, its promise -/
section
variable {P : Program} {w : World} {K : PySem.W.Frag} {mg : Str → Option Value} {base : Heap}
theorem cal_of {d : He.DefD} {N ps : List Str} {k : Nat} {sp : SpD} (hd : d.dfl = []) (hf : ∃ fd, FunD K d.name d.qual d.params d.body d.scope (d.dvs K) (d.kws K) (He.fAd K d.at_) fd) (hm : mg d.name = some (.ref (He.fAd K d.at_))) (S : FnScope N ps d.scope) (len : ∀ xs M Q, sp xs M Q → xs.length = ps.length)
    (hbi : ∀ (kV doc pm : Value) (an : Option Addr) (cdv ct : Value) (us : List Value), us.length = ps.length → bindArgs (PySem.W.fnOf d.name d.qual d.params d.body d.scope .none kV doc pm an cdv ct) ⟨us, []⟩ = pure (ps.zip us))
    (hb : ∀ (cdv : Value) (A : Around) (outer : List Env) (s : Shared) (H : Hp) (E : XK), Room k (cx0 P w K mg base N d.qual d.scope (He.fAd K d.at_) cdv A outer s H E).A → ∀ xs M Q, sp xs M Q →
      WSs PmT (cx0 P w K mg base N d.qual d.scope (He.fAd K d.at_) cdv A outer s H E) d.body M (xs.map some ++ List.replicate (N.length - ps.length) none) { nx := fun _ M' => Q .non M', rt := Q }) : CalD P w K mg base (k + 1) d.name sp [] := by
  obtain ⟨fd, F⟩ := hf
  have F' : FunD K d.name d.qual d.params d.body d.scope [] (d.kws K) (He.fAd K d.at_) fd := by
    have e : d.dvs K = [] := by unfold He.DefD.dvs; rw [hd]; rfl
    rw [← e]; exact F
  exact ⟨_, fd, ps, [], [], fnD F S len hb, hm, F.kp, F'.bindsN hbi, .nil, fun _ => RpL.nil⟩
theorem met_of {d : He.DefD} {N ps : List Str} {k : Nat} {sp : SpD} {C : Addr} {m : Str} (hd : d.dfl = []) (hf : ∃ fd, FunD K d.name d.qual d.params d.body d.scope (d.dvs K) (d.kws K) (He.fAd K d.at_) fd) (cl : Cls K C) (hm : Meth K C m (He.fAd K d.at_)) (S : FnScope N ps d.scope) (len : ∀ xs M Q, sp xs M Q → xs.length = ps.length)
    (hbi : ∀ (kV doc pm : Value) (an : Option Addr) (cdv ct : Value) (us : List Value), us.length = ps.length → bindArgs (PySem.W.fnOf d.name d.qual d.params d.body d.scope .none kV doc pm an cdv ct) ⟨us, []⟩ = pure (ps.zip us))
    (hb : ∀ (cdv : Value) (A : Around) (outer : List Env) (s : Shared) (H : Hp) (E : XK), Room k (cx0 P w K mg base N d.qual d.scope (He.fAd K d.at_) cdv A outer s H E).A → ∀ xs M Q, sp xs M Q →
      WSs PmT (cx0 P w K mg base N d.qual d.scope (He.fAd K d.at_) cdv A outer s H E) d.body M (xs.map some ++ List.replicate (N.length - ps.length) none) { nx := fun _ M' => Q .non M', rt := Q }) : MetD P w K mg base (k + 1) C m sp [] := by
  obtain ⟨fd, F⟩ := hf
  have F' : FunD K d.name d.qual d.params d.body d.scope [] (d.kws K) (He.fAd K d.at_) fd := by
    have e : d.dvs K = [] := by unfold He.DefD.dvs; rw [hd]; rfl
    rw [← e]; exact F
  exact ⟨_, fd, ps, [], [], fnD F S len hb, cl, hm, F'.bindsN hbi, .nil, fun _ => RpL.nil⟩
end
end DL

/-! DLB: short forms -/
namespace DL
open PySem PySem.Spec L2
open PyProof.Rows hiding St
theorem bb_len : bootBuiltins "len" = some (.builtin "len") := by decide +kernel
theorem bb_abs : bootBuiltins "abs" = some (.builtin "abs") := by decide +kernel
theorem bb_isinstance : bootBuiltins "isinstance" = some (.builtin "isinstance") := by decide +kernel
theorem bb_sorted : bootBuiltins "sorted" = some (.builtin "sorted") := by decide +kernel
theorem bb_max : bootBuiltins "max" = some (.builtin "max") := by decide +kernel
theorem bb_min : bootBuiltins "min" = some (.builtin "min") := by decide +kernel
theorem bb_sum : bootBuiltins "sum" = some (.builtin "sum") := by decide +kernel
theorem bb_int : bootBuiltins "int" = some (.type "int") := by decide +kernel
theorem bb_bool : bootBuiltins "bool" = some (.type "bool") := by decide +kernel
theorem bb_str : bootBuiltins "str" = some (.type "str") := by decide +kernel
theorem bb_list : bootBuiltins "list" = some (.type "list") := by decide +kernel
theorem bb_tuple : bootBuiltins "tuple" = some (.type "tuple") := by decide +kernel
theorem bb_dict : bootBuiltins "dict" = some (.type "dict") := by decide +kernel
theorem bb_set : bootBuiltins "set" = some (.type "set") := by decide +kernel
section
variable {X : Cx} {Pm : Hp → Prop} {M : Mst} {ds : Ds} {Q : QD} {pos p : Pos} {a b c e : Expr} {Dn : EndD} {x : Str} {id T : String}
theorem we_b1 (hm : X.mg x = none) (hv : bootBuiltins x = some (.builtin id)) (h : WE Pm X a M ds fun d M1 => CallG Pm X (.builtin id) [d] M1 Q) (hg : Gl X x := by rfl) (hn : x ≠ "__name__" := by decide) (hdb : (x == ("__debug__" : Str)) = false := by decide)
    (hs : starEach [a] X.env = (false, eval a X.env) :: starEach [] X.env := by rfl) (hpl : (backTo pos (starEach [] X.env)).any (·.1) = false := by rfl) : WE Pm X (.Call (.Name x p) [a] [] pos) M ds Q :=
  we_callB (wa_cons (fun σ H F mF ok => wE_mono (h σ H F mF ok) fun v H1 ⟨d, M1, o, q⟩ => ⟨d, M1, o, wa_nil q⟩) hs) hm hv hg hn hdb hs hpl
theorem we_t1 (hm : X.mg x = none) (hv : bootBuiltins x = some (.type T)) (h : WE Pm X a M ds fun d M1 => CallG Pm X (.type T) [d] M1 Q) (hg : Gl X x := by rfl) (hn : x ≠ "__name__" := by decide) (hdb : (x == ("__debug__" : Str)) = false := by decide)
    (hs : starEach [a] X.env = (false, eval a X.env) :: starEach [] X.env := by rfl) (hpl : (backTo pos (starEach [] X.env)).any (·.1) = false := by rfl) : WE Pm X (.Call (.Name x p) [a] [] pos) M ds Q :=
  we_callTy (wa_cons (fun σ H F mF ok => wE_mono (h σ H F mF ok) fun v H1 ⟨d, M1, o, q⟩ => ⟨d, M1, o, wa_nil q⟩) hs) hm hv hg hn hdb hs hpl
theorem we_b2 (hm : X.mg x = none) (hv : bootBuiltins x = some (.builtin id)) (h : WE Pm X a M ds fun d M1 => WE Pm X b M1 ds fun d2 M2 => CallG Pm X (.builtin id) [d, d2] M2 Q) (hg : Gl X x := by rfl) (hn : x ≠ "__name__" := by decide) (hdb : (x == ("__debug__" : Str)) = false := by decide)
    (hs : starEach [a, b] X.env = (false, eval a X.env) :: starEach [b] X.env := by rfl) (hs2 : starEach [b] X.env = (false, eval b X.env) :: starEach [] X.env := by rfl) (hpl : (backTo pos (starEach [b] X.env)).any (·.1) = false := by rfl) : WE Pm X (.Call (.Name x p) [a, b] [] pos) M ds Q :=
  we_callB (wa_cons (fun σ H F mF ok => wE_mono (h σ H F mF ok) fun v H1 ⟨d, M1, o, q⟩ => ⟨d, M1, o, wa_cons (fun σ H F mF ok => wE_mono (q σ H F mF ok) fun v H1 ⟨d, M1, o, q⟩ => ⟨d, M1, o, wa_nil q⟩) hs2⟩) hs) hm hv hg hn hdb hs hpl
/-- what is behind, weakened -/
theorem WE.mono {Q' : QD} (h : WE Pm X a M ds Q) (f : ∀ d M, Q d M → Q' d M) : WE Pm X a M ds Q' := fun σ H F mF ok => wE_mono (h σ H F mF ok) fun v H1 ⟨d, M1, o, q⟩ => ⟨d, M1, o, f _ _ q⟩
theorem WT.mono {Q Q' : Bool → Mst → Prop} (h : WT Pm X a M ds Q) (f : ∀ d M, Q d M → Q' d M) : WT Pm X a M ds Q' := fun σ H F mF ok => wT_mono (h σ H F mF ok) fun v H1 ⟨M1, o, q⟩ => ⟨M1, o, f _ _ q⟩
/-- arguments given one by one -/
theorem wa1 {Q : List D → Mst → Prop} (h : WE Pm X a M ds fun d M1 => Q [d] M1) (hs : starEach [a] X.env = (false, eval a X.env) :: starEach [] X.env := by rfl) : WA Pm X [a] M ds Q := wa_cons (h.mono fun _ _ q => wa_nil q) hs
theorem wa2 {Q : List D → Mst → Prop} (h : WE Pm X a M ds fun d M1 => WE Pm X b M1 ds fun d2 M2 => Q [d, d2] M2) (hs : starEach [a, b] X.env = (false, eval a X.env) :: starEach [b] X.env := by rfl) (hs2 : starEach [b] X.env = (false, eval b X.env) :: starEach [] X.env := by rfl) : WA Pm X [a, b] M ds Q :=
  wa_cons (h.mono fun _ _ q => wa1 q hs2) hs
theorem wa3 {Q : List D → Mst → Prop} (h : WE Pm X a M ds fun d M1 => WE Pm X b M1 ds fun d2 M2 => WE Pm X c M2 ds fun d3 M3 => Q [d, d2, d3] M3) (hs : starEach [a, b, c] X.env = (false, eval a X.env) :: starEach [b, c] X.env := by rfl) (hs2 : starEach [b, c] X.env = (false, eval b X.env) :: starEach [c] X.env := by rfl) (hs3 : starEach [c] X.env = (false, eval c X.env) :: starEach [] X.env := by rfl) : WA Pm X [a, b, c] M ds Q :=
  wa_cons (h.mono fun _ _ q => wa2 q hs2 hs3) hs
/-- a test as a comparison of ints -/
theorem wt_eqI {i j : Int} {k : Nat} {Q : Bool → Mst → Prop} (hr : Room k X.A) (t : decide (i = j) = true → Q true M) (f : decide (i = j) = false → Q false M) : BinG Pm X (compareOp .Eq) (.int i) (.int j) M fun d M3 => ∃ k, d = .bl k ∧ Q k M3 := b_eqI hr ⟨_, rfl, by cases h : decide (i = j) <;> simp_all⟩
theorem ex_bl {k : Bool} {Q : Bool → Prop} (q : Q k) : ∃ k', D.bl k = D.bl k' ∧ Q k' := ⟨k, rfl, q⟩
theorem sz {n : Nat} (h : Nat.ble n 1000 = true) : n ≤ sizeLine := Nat.le_trans (Nat.le_of_ble_eq_true h) (by decide)
theorem filter_all {α : Type} (ys : List α) : ys.filter (fun _ => true) = ys := List.filter_eq_self.mpr fun _ _ => rfl
def PureM {α : Type} (Pm : Hp → Prop) (X : Cx) (scope : Scope) (t : Tg) (vs : List Nat) (elt : Expr) (ds : Ds) (M1 : Mst) (ys : List α) (g : α → D) (f : α → D) : Prop :=
  ∀ y, y ∈ ys → ∀ M', Sub M1 M' → ∃ ds', bindT (wipeD ds vs) t (g y) = some ds' ∧ InB X scope fun Y => WE Pm Y elt M' ds' fun d M2 => d = f y ∧ M2 = M'
theorem PureM.t {α : Type} {scope : Scope} {t : Tg} {vs : List Nat} {elt : Expr} {M1 : Mst} {ys : List α} {g : α → D} {f : α → D} (h : PureM Pm X scope t vs elt ds M1 ys g f) : PureT Pm X scope t vs [] elt ds M1 ys g (fun _ => true) f := fun y hy M' hs =>
  let ⟨ds', a, b⟩ := h y hy M' hs; ⟨ds', a, fun _ _ _ _ _ => wts_nil ⟨rfl, rfl⟩, fun _ => b⟩
/-- [f(y) for y in ..] -/
theorem we_lcM {α : Type} (t : Tg) (ys : List α) (g : α → D) (f : α → D) {tg iter elt : Expr} {scope : Scope} {own : List (Str × Nat)} (hc : X.calm = true) (hN : X.N.Nodup) (ok : blkC X.N X.env.scope scope own = true) (hsub : ∀ j ∈ slots t, j ∈ own.map (·.2))
    (hg : InB X scope fun Y => PG Y tg (gOf X.K t))
    (h : WI Pm X tg iter M ds fun n item M1 => n ≤ sizeLine ∧ LI ys g n item ∧ PureM Pm X scope t (own.map (·.2)) elt ds M1 ys g f ∧ Q (.lst (ys.map f)) M1)
    (hs : ∀ x, foldedSetIterable iter X.env x = pure x := by intro _; rfl) : WE Pm X (.ListComp elt [⟨tg, iter, [], 0⟩] scope pos) M ds Q :=
  we_lcP t ys g (fun _ => true) f hc hN (blkOk_by ok) hsub hg (fun σ H F mF o => let ⟨wi, pi, hw⟩ := h σ H F mF o; ⟨wi, pi, fun R' k => hw R' fun J H1 n item M1 F0 fd o1 ⟨a, b, c, d⟩ => k J H1 n item M1 F0 fd o1 ⟨a, b, c.t, by rw [filter_all]; exact d⟩⟩) hs
theorem ws_lcM (i : Nat) {α : Type} (t : Tg) (ys : List α) (g : α → D) (f : α → D) {y : Str} {py : Pos} {spos : Pos} {tg iter elt : Expr} {scope : Scope} {own : List (Str × Nat)} (hc : X.calm = true) (hN : X.N.Nodup) (hy : X.N[i]? = some y) (ok : blkC X.N X.env.scope scope own = true) (hsub : ∀ j ∈ slots t, j ∈ own.map (·.2))
    (hg : InB X scope fun Y => PG Y tg (gOf X.K t))
    (h : WI Pm X tg iter M ds fun n item M1 => n ≤ sizeLine ∧ LI ys g n item ∧ PureM Pm X scope t (own.map (·.2)) elt ds M1 ys g f ∧ Dn.nx (ds.set i (some (.lst (ys.map f)))) M1)
    (hyl : X.env.scope.names.lookup y = some .local := by rfl) (hsw : swapsWith (.ListComp elt [⟨tg, iter, [], 0⟩] scope pos) (some (.Name y py)) spos.line X.env = pure true := by exact sw_true rfl rfl rfl rfl)
    (hs : ∀ x, foldedSetIterable iter X.env x = pure x := by intro _; rfl) : WS Pm X (.Assign [.Name y py] (.ListComp elt [⟨tg, iter, [], 0⟩] scope pos) spos) M ds Dn :=
  ws_lcP i t ys g (fun _ => true) f hc hN hy (blkOk_by ok) hsub hg (fun σ H F mF o => let ⟨wi, pi, hw⟩ := h σ H F mF o; ⟨wi, pi, fun R' k => hw R' fun J H1 n item M1 F0 fd o1 ⟨a, b, c, d⟩ => k J H1 n item M1 F0 fd o1 ⟨a, b, c.t, by rw [filter_all]; exact d⟩⟩) hyl hsw hs
/-- a def that always takes the same end -/
theorem atI_int {ns : List Int} {i : Int} (h0 : 0 ≤ i) (h1 : i < ns.length) : atI (ns.map D.int) i = some (.int (ns.getD i.toNat 0)) := by
  obtain ⟨k, rfl⟩ := Int.eq_ofNat_of_zero_le h0
  have hk : k < ns.length := by omega
  refine atI_nat ?_
  rw [List.getElem?_map, List.getElem?_eq_getElem hk]
  simp [List.getD_eq_getElem?_getD, List.getElem?_eq_getElem hk]
end
end DL
namespace DL
open PySem PySem.Spec L2
section
variable {X : Cx} {Pm : Hp → Prop} {M : Mst} {Q : QD}
theorem b_addLI (xs ys : List Int) (hz : xs.length + ys.length ≤ sizeLine) (q : Q (.lst ((xs ++ ys).map D.int)) M) : BinG Pm X (binaryOp .Add) (.lst (xs.map D.int)) (.lst (ys.map D.int)) M Q :=
  b_addL (by rw [List.length_map, List.length_map]; exact hz) (by rw [← List.map_append]; exact q)
theorem b_addTI (xs ys : List Int) (hz : xs.length + ys.length ≤ sizeLine) (q : Q (.tup ((xs ++ ys).map D.int)) M) : BinG Pm X (binaryOp .Add) (.tup (xs.map D.int)) (.tup (ys.map D.int)) M Q :=
  b_addT (by rw [List.length_map, List.length_map]; exact hz) (by rw [← List.map_append]; exact q)
theorem b_addStr {x y : Str} (hz : x.length + y.length ≤ sizeLine) (q : Q (.str (x ++ y)) M) : BinG Pm X (binaryOp .Add) (.str x) (.str y) M Q := b_addS hz q
end
end DL

/-! DLC: operators by own methods, list(range), steps of ranges -/
namespace DL
open PySem PySem.Spec L2
section
variable {X : Cx} {Pm : Hp → Prop} {M : Mst} {ds : Ds} {Q : QD} {pos p : Pos} {a b c e : Expr} {k j : Nat} {C : Addr} {sp : SpD}
theorem MetD.nil (g : MetD X.prog X.w X.K X.mg X.base k C m sp []) : ∃ (f : Addr) (fd : FuncData) (ps : List Str), FnOk X.prog X.w X.K X.mg X.base CX0 k f fd ps (toSp X.K sp) ∧ Cls X.K C ∧ Meth X.K C m f ∧ Binds X.K fd ps [] := by
  obtain ⟨f, fd, ps, dvs, us, F1, cl, hm, hb, hd, hdd⟩ := g.ex
  cases (hdd (fun _ => none)).nil_inv
  cases hd
  exact ⟨f, fd, ps, F1, cl, hm, hb⟩
theorem b_inM (g : MetD X.prog X.w X.K X.mg X.base k C "__contains__" sp []) (hr : Room j X.A) (hk : k ≤ j) {x y : D} {fs : List (Str × D)} (hx : IsObj M x C fs) (h : sp [x, y] M fun d M1 => ∃ t, d = .bl t ∧ Q (.bl t) M1) : BinG Pm X (compareOp .In) y x M Q := by
  obtain ⟨f, fd, ps, F1, cl, hm, hb⟩ := g.nil
  exact b_inOwn hm.at_ hm.fn F1 hb hr hk hx h
theorem b_notinM (g : MetD X.prog X.w X.K X.mg X.base k C "__contains__" sp []) (hr : Room j X.A) (hk : k ≤ j) {x y : D} {fs : List (Str × D)} (hx : IsObj M x C fs) (h : sp [x, y] M fun d M1 => ∃ t, d = .bl t ∧ Q (.bl (!t)) M1) : BinG Pm X (compareOp .NotIn) y x M Q := by
  obtain ⟨f, fd, ps, F1, cl, hm, hb⟩ := g.nil
  exact b_notinOwn hm.at_ hm.fn F1 hb hr hk hx h
theorem b_eqM (g : MetD X.prog X.w X.K X.mg X.base k C "__eq__" sp []) (hn : PySem.W.notFirst X.K C (.ref C) = true) (hr : Room j X.A) (hk : k ≤ j) {x y : D} {fs gs : List (Str × D)} (hx : IsObj M x C fs) (hy : IsObj M y C gs) (h : sp [x, y] M Q) : BinG Pm X (compareOp .Eq) x y M Q := by
  obtain ⟨f, fd, ps, F1, cl, hm, hb⟩ := g.nil
  exact b_own (op := .Eq) cmp_eq hm.at_ hm.fn hn F1 hb hr hk hx hy h
theorem c_strM (g : MetD X.prog X.w X.K X.mg X.base k C "__str__" sp []) (hr : Room j X.A) (hk : k + 2 ≤ j) {x : D} {fs : List (Str × D)} (hx : IsObj M x C fs) (h : sp [x] M fun d M1 => ∃ t, d = .str t ∧ Q (.str t) M1) : CallG Pm X (.type "str") [x] M Q := by
  obtain ⟨f, fd, ps, F1, cl, hm, hb⟩ := g.nil
  exact c_strOwn hm.at_ hm.fn F1 hb hr hk hx h
/-- list(range(a, b)) -/
def rgI (i j : Int) : List Int := (List.range (j - i).toNat).map fun k => i + (k : Nat)
theorem rgV_eq (i j : Int) : rgV i j = (rgI i j).map V.int := by unfold rgV rgI; rw [List.map_map]; rfl
theorem we_listRg2 {p1 p2 q1 : Pos} (hl : X.mg "list" = none) (hm : X.mg "range" = none) (hc : X.calm = true) (h : WE Pm X a M ds fun x M1 => WE Pm X b M1 ds fun y M2 => ∃ i j, x = .int i ∧ y = .int j ∧ RgOk i j ∧ Q (.lst ((rgI i j).map D.int)) M2)
    (hg1 : Gl X "list" := by rfl) (hg2 : Gl X "range" := by rfl)
    (na : starEach [a, b] X.env = (false, eval a X.env) :: starEach [b] X.env := by rfl)
    (nb : starEach [b] X.env = (false, eval b X.env) :: starEach [] X.env := by rfl) (hp : (backTo p2 (starEach [b] X.env)).any (·.1) = false := by rfl)
    (ne : starEach [.Call (.Name "range" q1) [a, b] [] p2] X.env = (false, eval (.Call (.Name "range" q1) [a, b] [] p2) X.env) :: starEach [] X.env := by rfl) : WE Pm X (.Call (.Name "list" p1) [.Call (.Name "range" q1) [a, b] [] p2] [] pos) M ds Q := by
  intro σ H F mF ok
  refine wE_of (pe_listRg hc hg1 hl (prg_2 hg2 hm pe_w pe_w na nb hp) ne) ?_
  refine wE_mono (h σ H F mF ok) fun v H1 ⟨x, M1, o1, h1⟩ => ?_
  refine wE_mono (h1 σ H1 (fun G => Rp X.K G x v ∧ F G) (mono_rp.and mF) (o1.imp fun _ _ ⟨p, q, r⟩ => ⟨q, p, r⟩)) fun u H2 ⟨y, M2, o2, i, j, e1, e2, hr, q⟩ => ?_
  subst e1 e2
  obtain rfl : u = .int j := o2.use fun _ _ z => z.1.int_inv
  obtain rfl : v = .int i := o2.use fun _ _ z => z.2.2.1.int_inv
  refine ⟨i, j, rfl, rfl, hr, fun q hq => ?_⟩
  have o3 : Ok X.K M2 (fun G => EnvR X.K G ds σ ∧ F G) H2 := o2.imp fun _ _ z => ⟨z.2.1, z.2.2.2⟩
  exact ⟨_, M2, (o3.new (o := .lst (rgV i j)) (mono_x mF) hq).imp fun _ _ z => ⟨rp_lst z.1 (by rw [rgV_eq]; exact rpl_ints), z.2⟩, ‹_›⟩
/-- range(i, j, c) with c > 0 -/
theorem rgc_pos {i j c : Int} (h1 : 0 < c) (h2 : c < 1073741824) (hi : -(2 ^ 61) ≤ i) (hi' : i < 2 ^ 61) (hj : -(2 ^ 61) ≤ j) (hj' : j < 2 ^ 61) : RgC i j c (if i < j then ((j - i - 1) / c + 1).toNat else 0) := by
  have hd : 0 ≤ (j - i - 1) / c ∨ ¬ i < j := by
    by_cases q : i < j
    · exact .inl (Int.ediv_nonneg (by omega) (by omega))
    · exact .inr q
  have hle : i < j → (j - i - 1) / c ≤ j - i - 1 := fun q => Int.ediv_le_self _ (by omega)
  have e : Builtin.Range.rangeSize i j c = ((if i < j then ((j - i - 1) / c + 1).toNat else 0 : Nat) : Int) := by
    unfold Builtin.Range.rangeSize
    rw [if_pos (show c > 0 from h1)]
    by_cases q : i < j
    · rw [if_pos q, if_pos q]
      have := Int.ediv_nonneg (show 0 ≤ j - i - 1 by omega) (show 0 ≤ c by omega)
      omega
    · rw [if_neg q, if_neg q]; rfl
  refine ⟨by omega, by omega, ?_, e⟩
  unfold Builtin.Range.small
  rw [e]
  have hmul : i < j → c * ((j - i - 1) / c) ≤ j - i - 1 := fun q => Int.mul_ediv_self_le (by omega)
  simp only [Builtin.Range.rangeFitsLong, Bool.and_eq_true, Bool.or_eq_true, decide_eq_true_eq, beq_iff_eq]
  rw [if_pos (show c > 0 from h1)]
  simp only [Bool.and_eq_true, decide_eq_true_eq]
  by_cases q : i < j
  · rw [if_pos q]
    have h3 := hle q
    have h4 := Int.ediv_nonneg (show 0 ≤ j - i - 1 by omega) (show 0 ≤ c by omega)
    generalize (j - i - 1) / c = z at h3 h4
    refine ⟨⟨⟨⟨⟨by omega, by omega⟩, by omega, by omega⟩, by omega, by omega⟩, by omega, by omega⟩, .inr ⟨by omega, by omega⟩⟩
  · rw [if_neg q]
    exact ⟨⟨⟨⟨⟨by omega, by omega⟩, by omega, by omega⟩, by omega, by omega⟩, by decide, by decide⟩, .inl rfl⟩
end
end DL

/-! DLD: str of a text, texts compared, comprehensions that draw -/
namespace DL
open PySem PySem.Spec L2
section
variable {X : Cx} {Pm : Hp → Prop} {M : Mst} {ds : Ds} {Q : QD} {pos p : Pos} {a b c e : Expr}
theorem c_strS {t : Str} (q : Q (.str t) M) : CallG Pm X (.type "str") [.str t] M Q := by
  intro vs H F mF ⟨G, s, hM, z1, z3⟩
  obtain ⟨v, rfl, r⟩ := z1.one_inv
  cases r.str_inv
  exact wCall_of SkE.call_str_str ⟨t, rfl, _, M, ⟨G, s, hM, rp_str, z3⟩, q⟩
theorem b_eqS {x y : Str} (q : Q (.bl (decide (x = y))) M) : BinG Pm X (compareOp .Eq) (.str x) (.str y) M Q := by
  intro v u H F mF ⟨G, s, hM, z1, z2, z3⟩
  cases z1.str_inv
  cases z2.str_inv
  refine wOp_of op_eq ⟨rfl, .bl (decide (x = y)), M, ⟨G, s, hM, ?_, z3⟩, q⟩
  have e : decide (V.str x = V.str y) = decide (x = y) := by
    rw [Bool.eq_iff_iff]
    simp
  rw [e]
  exact rp_bl
theorem b_neS {x y : Str} (q : Q (.bl (!decide (x = y))) M) : BinG Pm X (compareOp .NotEq) (.str x) (.str y) M Q := by
  intro v u H F mF ⟨G, s, hM, z1, z2, z3⟩
  cases z1.str_inv
  cases z2.str_inv
  refine wOp_of op_ne ⟨rfl, .bl (!decide (x = y)), M, ⟨G, s, hM, ?_, z3⟩, q⟩
  have e : decide (V.str x = V.str y) = decide (x = y) := by
    rw [Bool.eq_iff_iff]
    simp
  rw [e]
  exact rp_bl
/-- an int drawn for each item: p the mutable object that the draws write, B what it stays -/
theorem lct_draw {scope : Scope} {t : Tg} {vs : List Nat} {elt : Expr} {n : Nat} {item : Nat → D} {q : Addr} {B : D → Prop} {P : Int → Prop} (hq : ∃ d, M q = some d)
    (h : ∀ i, i < n → ∀ M' d', M' q = some d' → B d' → ∃ ds', bindT (wipeD ds vs) t (item i) = some ds' ∧ InB X scope fun Y => WE Pm Y elt M' ds' fun d M2 => ∃ z d2, d = .int z ∧ P z ∧ B d2 ∧ M2 = updM M' q d2) :
    LcT Pm X scope t vs [] elt ds n item fun i acc M2 => ∃ (ns : List Int) (d' : D), acc = ns.map D.int ∧ ns.length = i ∧ (∀ z ∈ ns, P z) ∧ B d' ∧ M2 = updM M q d' := by
  rintro i acc M' r hi ⟨ns, d', rfl, hl, hP, hB, rfl⟩ hr
  have hrq : r ≠ q := fun e => by rw [e, updM_same] at hr; cases hr
  have hMq : updM (updM M q d') r (.lst (ns.map D.int)) q = some d' := by rw [updM_ne (Ne.symm hrq), updM_same]
  obtain ⟨ds', hb, h2⟩ := h i hi _ d' hMq hB
  refine ⟨ds', hb, fun s0 H0 C cl fp => wts_nil ⟨_, rfl, hr, fun _ s1 H1 C1 cl1 fp1 => ?_, fun z => (by cases z)⟩⟩
  intro σ H F mF ok
  refine wE_mono (h2 s1 H1 C1 cl1 fp1 σ H F mF ok) fun v H2 ⟨d, M4, o4, z, d2, e1, hz, hB2, e2⟩ => ⟨d, M4, o4, updM M q d2, ?_, ?_, ns ++ [z], d2, ?_, ?_, ?_, hB2, rfl⟩
  · rw [e2, updM_comm hrq, updM_updM]
  · rw [updM_ne hrq] at hr ⊢; exact hr
  · rw [e1, List.map_append]; rfl
  · rw [List.length_append, hl]; rfl
  · intro y hy
    rcases List.mem_append.mp hy with q | q
    · exact hP y q
    · simp at q; rw [q]; exact hz
theorem perm_ints {zs : List D} {l : List Int} (h : zs.Perm (l.map D.int)) : ∃ ts : List Int, zs = ts.map D.int ∧ ts.Perm l := by
  let u : D → Int := fun d => match d with | .int i => i | _ => 0
  refine ⟨zs.map u, ?_, ?_⟩
  · rw [List.map_map]
    conv => lhs; rw [← List.map_id zs]
    refine List.map_congr_left fun d hd => ?_
    obtain ⟨i, _, rfl⟩ := List.mem_map.mp (h.mem_iff.mp hd)
    rfl
  · have := h.map u
    rw [List.map_map] at this
    have e : l.map (u ∘ D.int) = l := by
      conv => rhs; rw [← List.map_id l]
      rfl
    rw [e] at this
    exact this
end
end DL

/-! DLset2: sorted(a set of ints), any number of members -/
namespace DLs
open PySem PySem.Spec PyProof.Rows L2
theorem sortedAny {prog : Program} {wd : World} {ar : Around} {er : Value → Shared → Prop} {st : Shared} {b : Addr} {T : Int → Bool} {m : Nat} {G : Value → Shared → Prop} (r0 : SetR wd st.heap b T m) (h0 : ar.handled = none)
    (hG : ∀ s1 q (res : Array Value) (e : Nat) (ks : List Int), (∀ x u, st.heap.get? x = some u → s1.heap.get? x = some u) → s1.gens = st.gens → s1.os = st.os → st.heap.objs.size ≤ q →
      s1.heap.get? q = some (seqObj "list" res e) → IntsAre res.toList ks → ks.Pairwise (· < ·) → (∀ k, k ∈ ks ↔ T k = true) → ks.length = m → m ≤ 16000 → G (.ref q) s1) :
    wpAny (model prog wd) ar (call (.builtin "sorted") [.ref b]) G er st := by
  obtain ⟨o, es, ep, t, ho, hex, hd, g, nd, hm, hb, hf, hn, hr, hl⟩ := r0
  have hb2 : es.size ≤ 16000 := by unfold scanBound at hb; omega
  refine Calls.call_function_entry kind_sorted plain_sorted entry_sorted (args_sorted1 _) (?_ : wpAny _ _ (Builtin.«sorted» _) _ _ _)
  unfold Builtin.«sorted»
  refine wpAny_bind (m := checkCount "sorted" 1 1 _) (wpAny_pure (?_ : wpAny _ _ _ _ _ _))
  refine wpAny_bind (collect_set (A := ar.in1) h0 ⟨o, ho, hex.1, hd⟩ hf hb hr hl fun s2 ws keep size2 gens2 os2 perm2 => ?_)
  have lw : ws.length = es.size := by rw [perm2.length_eq, List.length_map, Array.length_toList]
  have iw : IntsAre ws (ws.map Builtin.Re.reRawOf) := ints_of ws fun y hy => by
    obtain ⟨x, hx, z⟩ := List.mem_map.mp (perm2.mem_iff.mp hy)
    obtain ⟨k, tk, h1, _⟩ := g x hx
    exact ⟨k, tk, by rw [← z]; exact h1⟩
  have pw : (ws.map Builtin.Re.reRawOf).Perm (es.toList.map keyOf) := by
    have z := perm2.map Builtin.Re.reRawOf
    rw [List.map_map] at z
    exact z
  have small : ws.length ≤ sizeLine := by rw [lw, sizeLine_eq]; omega
  refine wpAny_bind (wpAny_newList (?_ : wpAny _ _ _ _ _ _) small)
  have hL : (s2.heap.push (seqObj "list" ws.toArray 0)).get? s2.heap.objs.size = some (seqObj "list" ws.toArray 0) := Heap.get?_push_size s2.heap rfl
  refine wpAny_bind (wpAny_holding (wpAny_call_entry slot_list_sort ⟨_, hL, rfl⟩ entry_list_sort (list_sort_treeAny hL iw small fun res ks i1 i2 i3 => ⟨_, rfl, (?_ : wpAny _ _ _ _ _ _)⟩) (args_list_sort _)))
  obtain ⟨e, he⟩ := sortedHeap_at (vs := ws) (out := res) hL
  have pk : ks.Perm (es.toList.map keyOf) := i2.trans pw
  have lk : ks.length = m := by rw [pk.length_eq, List.length_map, Array.length_toList]; exact hn
  have hm16 : m ≤ 16000 := by rw [← hn]; exact hb2
  have old : ∀ x u, st.heap.get? x = some u → (sortedHeap (s2.heap.push (seqObj "list" ws.toArray 0)) s2.heap.objs.size ws res).get? x = some u := fun x u hx => by
    have z := keep x u hx
    have lt := Heap.lt_size z
    rw [sortedHeap_old (Nat.ne_of_lt lt) (by rw [size_push']; exact Nat.lt_succ_of_lt lt)]
    exact Heap.get?_push_of_some _ z
  exact wpAny_pure ⟨_, rfl, hG _ s2.heap.objs.size res e ks old gens2 os2 size2 he i1 (lt_of_le_nodup ks i3 (pk.nodup_iff.mpr nd)) (fun k => by rw [pk.mem_iff, ← hm k]) lk hm16⟩
def rSortedAny (wd : World) : List V → Hp → VK → Prop := fun vs H Q => ∃ (b : Addr) (T : Int → Bool) (m : Nat), vs = [V.ref b] ∧ H b = some (SetO wd b T m) ∧
  ∀ (ks : List Int) (q : Addr), ks.Pairwise (· < ·) → (∀ k : Int, k ∈ ks ↔ T k = true) → H q = none → Q (.ref q) (upd H q (.lst (ks.map V.int)))
theorem cr_sortedAny {X : Cx} (hc : X.calm = true) : CallR X (.builtin "sorted") (rSortedAny X.w) := by
  intro pins s σ H vs us Q I r h
  obtain ⟨b, T, m, rfl, hb, q⟩ := h
  have r0 := setO_get I hb
  rw [Vals.ref1 r]
  refine sortedAny r0 (I.ok.hd hc) fun s1 p res e ks keep gens os hp he hi hs hm hl h16 => ?_
  have small : (ks.map V.int).length ≤ sizeLine := by rw [List.length_map, hl, sizeLine_eq]; omega
  have fresh : H p = none := I.hok.fresh hp
  have J : Inv X pins σ (upd H p (.lst (ks.map V.int))) { s with heap := s1.heap, gens := s1.gens, drawn := s1.drawn, toks := s1.toks } :=
    I.call (ch := []) (Un.laid keep hp fresh) (I.hok.laid keep hp ⟨small, res.toList, e, vals_of_ints hi, he⟩) (by rw [gens]; exact I.bare) (fun _ z => nomatch z)
  have same : s1 = { s with heap := s1.heap, gens := s1.gens, drawn := s1.drawn, toks := s1.toks } := by
    cases s1
    cases s
    cases os
    rfl
  rw [same]
  exact ⟨.ref p, _, J, rfl, q ks p hs hm fresh⟩
end DLs
namespace DL
open PySem PySem.Spec L2
/-- sorted(set), any number -/
theorem c_sortedSetA {X : Cx} {M : Mst} {Q : QD} (hc : X.calm = true) {ns : List Int} (q : ∀ ns' : List Int, ns'.Pairwise (· < ·) → (∀ k, k ∈ ns' ↔ k ∈ ns) → Q (.lst (ns'.map D.int)) M) : CallG Pm X (.builtin "sorted") [.own (setP X.w ns)] M Q := by
  intro vs H F mF ⟨G, s, hM, z1, z3⟩
  obtain ⟨v, rfl, r⟩ := z1.one_inv
  obtain ⟨p, o, rfl, h1, h2, n, hn, rfl⟩ := r.own_inv
  have hH : H p = some (SetO X.w p (fun j => decide (j ∈ ns)) n) := s.at h1 h2.1 h2.2.1 h2.2.2
  refine wCall_of (DLs.cr_sortedAny hc) ⟨p, _, n, rfl, hH, fun ns' l hp ho hl => ?_⟩
  have ok2 : Ok X.K M F H := ⟨G, s, hM, z3⟩
  exact ⟨_, M, (ok2.new (o := .lst _) mF hl).imp fun _ _ z => ⟨rp_lst z.1 rpl_ints, z.2⟩, q ns' hp fun k => by rw [ho k]; simp⟩
end DL

/-! DLE: exceptions over data: what a def may let out, raise, try .. except X as e. -/
namespace DL
open PySem PySem.Spec L2
open PyProof.Rows hiding St
/-- the fields of an exception in the air; d: where they lie -/
def XdG (K : PySem.W.Frag) (fs : List (Str × D)) : Option Addr → Hp → Prop
  | none, _ => fs = []
  | some dd, G => ∃ ws, G dd = some (.xd ws) ∧ RpF K G fs ws
theorem XdG.mono {K : PySem.W.Frag} {fs : List (Str × D)} : ∀ {d : Option Addr}, Mono1 (XdG K fs d)
  | none, _, _, _, h => h
  | some _, _, _, e, ⟨ws, h1, h2⟩ => ⟨ws, e.at h1, RpF.mono e h2⟩
/-- what is wished of an exception, over data -/
abbrev XQ := Ds → Value → List (Str × D) → Mst → Prop
abbrev XQ0 := Value → List (Str × D) → Mst → Prop
def WXD (K : PySem.W.Frag) (Pm : Hp → Prop) (ED : XQ) : WX := fun cls d σ H => ∃ ds M fs, Ok K M (fun G => XdG K fs d G ∧ EnvR K G ds σ ∧ Pm G) H ∧ ED ds cls fs M
def TakesD (X : Cx) (Pm : Hp → Prop) (ED : XQ) : Prop := Takes X (WXD X.K Pm ED)
def EndX (K : PySem.W.Frag) (F : Hp → Prop) (QX : XQ0) : XK := fun cls d H => ∃ M fs, Ok K M (fun G => XdG K fs d G ∧ F G) H ∧ QX cls fs M
theorem TakesD.imp {X : Cx} {Pm : Hp → Prop} {E E' : XQ} (t : TakesD X Pm E) (h : ∀ ds c fs M, E' ds c fs M → E ds c fs M) : TakesD X Pm E' :=
  Takes.imp t fun c d σ H ⟨ds, M, fs, o, q⟩ => ⟨ds, M, fs, o, h _ _ _ _ q⟩
/-- nothing may leave -/
theorem takes_no {X : Cx} {Pm : Hp → Prop} : TakesD X Pm (fun _ _ _ _ => False) := fun u s' x => by
  obtain ⟨_, _, _, _, _, _, _, _, _, _, _, _, _, _, _, _, _, _, _, _, z⟩ := x
  exact z.elim
/-! ### defs that may raise -/
abbrev SpX := List D → Mst → QD → XQ0 → Prop
def toSpX (K : PySem.W.Frag) (sp : SpX) : Sp := fun vs H Q E => ∃ xs M F Q0 QX, Mono1 F ∧ Ok K M (fun G => RpL K G xs vs ∧ F G) H ∧ sp xs M Q0 QX ∧ (∀ v H', EndE K F Q0 v H' → Q v H') ∧ ∀ cls d H', EndX K F QX cls d H' → E cls d H'
section
variable {P : Program} {w : World} {K : PySem.W.Frag} {mg : Str → Option Value} {base : Heap} {x qual : Str} {params : Arguments} {body : List Stmt} {scope : Scope} {dvs : List V} {kws : List (Str × V)} {f : Addr} {fd : FuncData}
/-- the context of a body that may raise -/
abbrev cxX (P : Program) (w : World) (K : PySem.W.Frag) (mg : Str → Option Value) (base : Heap) (N : List Str) (qual : Str) (scope : Scope) (f : Addr) (cdv : Value) (A : Around) (outer : List Env) (s : Shared) (H : Hp) (E : XK) : Cx := cxOf (L2.CX P w) P w K mg base N qual scope f cdv A outer s H E
theorem fnX {N ps : List Str} {k : Nat} {sp : SpX} (F : FunD K x qual params body scope dvs kws f fd) (S : FnScope N ps scope) (len : ∀ xs M Q QX, sp xs M Q QX → xs.length = ps.length)
    (hb : ∀ (cdv : Value) (A : Around) (outer : List Env) (s : Shared) (H : Hp) (E : XK) (Pm : Hp → Prop), Room k (cxX P w K mg base N qual scope f cdv A outer s H E).A → ∀ xs M Q QX, sp xs M Q QX → TakesD (cxX P w K mg base N qual scope f cdv A outer s H E) Pm (fun _ => QX) →
      WSs Pm (cxX P w K mg base N qual scope f cdv A outer s H E) body M (xs.map some ++ List.replicate (N.length - ps.length) none) { nx := fun _ M' => Q .non M', rt := Q }) : FnOk P w K mg base (L2.CX P w) (k + 1) f fd ps (toSpX K sp) := by
  refine F.ok S (fun vs H Q E ⟨xs, M, F0, Q0, QX, mF, ok, hsp, hq, hx⟩ => ?_) (fun cdv A outer s H vs Q E hr h => ⟨wSs (cxX P w K mg base N qual scope f cdv A outer s H E) body, pss_w, ?_⟩)
  · have := len xs M Q0 QX hsp
    exact ok.use fun _ _ z => by rw [z.1.length, this]
  · obtain ⟨xs, M, F0, Q0, QX, mF, ok, hsp, hq, hx⟩ := h
    have hl := len xs M Q0 QX hsp
    have hv : vs.length = ps.length := ok.use fun _ _ z => by rw [z.1.length, hl]
    have tk : TakesD (cxX P w K mg base N qual scope f cdv A outer s H E) F0 (fun _ => QX) :=
      Takes.imp (takes_of (E := E) rfl rfl rfl rfl) fun c d σ H' ⟨ds, M', fs, o, q⟩ => hx c d H' ⟨M', fs, o.imp fun _ _ z => ⟨z.1, z.2.2⟩, q⟩
    have h1 := hb cdv A outer s H E F0 hr xs M Q0 QX hsp tk (L2.start N vs) H F0 ⟨mF, fun _ z => z⟩ (ok.imp fun G _ z => ⟨by
      unfold L2.start
      rw [hv]
      exact EnvR.start z.1, z.2⟩)
    exact wSs_mono h1 (fun σ' H' ⟨ds', M', o, q⟩ => hq .non H' ⟨.non, M', o.imp fun _ _ z => ⟨rp_non, z.2⟩, q⟩) (fun v H' z => hq v H' z) (fun σ' H' ⟨_, _, _, z⟩ => z) (fun σ' H' ⟨_, _, _, z⟩ => z)
end
structure CalX (P : Program) (w : World) (K : PySem.W.Frag) (mg : Str → Option Value) (base : Heap) (k : Nat) (x : Str) (sp : SpX) (dd : List D) : Prop where
  ex : ∃ (f : Addr) (fd : FuncData) (ps : List Str) (dvs : List V) (us : List Value), FnOk P w K mg base (L2.CX P w) k f fd ps (toSpX K sp) ∧ mg x = some (.ref f) ∧ PySem.W.keepIn K (.ref f) = true ∧ Binds K fd ps us ∧ Vals dvs us ∧ ∀ G, RpL K G dd dvs
structure MetX (P : Program) (w : World) (K : PySem.W.Frag) (mg : Str → Option Value) (base : Heap) (k : Nat) (C : Addr) (m : Str) (sp : SpX) (dd : List D) : Prop where
  ex : ∃ (f : Addr) (fd : FuncData) (ps : List Str) (dvs : List V) (us : List Value), FnOk P w K mg base (L2.CX P w) k f fd ps (toSpX K sp) ∧ Cls K C ∧ Meth K C m f ∧ Binds K fd ps us ∧ Vals dvs us ∧ ∀ G, RpL K G dd dvs
structure MakX (P : Program) (w : World) (K : PySem.W.Frag) (mg : Str → Option Value) (base : Heap) (k : Nat) (x : Str) (C : Addr) (sp : SpX) (dd : List D) : Prop where
  ex : ∃ (f : Addr) (fd : FuncData) (ps : List Str) (dvs : List V) (us : List Value), FnOk P w K mg base (L2.CX P w) k f fd ps (toSpX K sp) ∧ Mk K C f ∧ mg x = some (.ref C) ∧ Binds K fd ps us ∧ Vals dvs us ∧ ∀ G, RpL K G dd dvs
section
variable {X : Cx} {Pm : Hp → Prop} {M : Mst} {ds : Ds} {Q : QD} {ED : XQ} {pos : Pos} {a b c e : Expr}
variable {j k : Nat} {x m : Str} {sp : SpX} {dd : List D} {p apos : Pos} {o : Expr} {es : List Expr} {C : Addr}
/-- what a callee lets out is an exception of ours -/
theorem out_of {F : Hp → Prop} {σ : L2.St} (mF : MonoF Pm F) {cls : Value} {d : Option Addr} {H' : Hp} (h : EndX X.K (fun G => EnvR X.K G ds σ ∧ F G) (ED ds) cls d H') : WXD X.K Pm ED cls d σ H' := by
  obtain ⟨M, fs, o, q⟩ := h
  exact ⟨ds, M, fs, o.imp fun _ _ z => ⟨z.1, z.2.1, mF.p _ z.2.2⟩, q⟩
theorem we_calX (g : CalX X.prog X.w X.K X.mg X.base k x sp dd) (tk : TakesD X Pm ED) (hr : Room j X.A) (hk : k ≤ j) (h : WA Pm X (e :: es) M ds fun xs M1 => sp (xs ++ dd) M1 Q (ED ds)) (hg : Gl X x := by rfl) (hdb : (x == ("__debug__" : Str)) = false := by decide)
    (he : starEach (e :: es) X.env = (false, eval e X.env) :: starEach es X.env := by rfl) (hpl : (backTo pos (starEach es X.env)).any (·.1) = false := by rfl) : WE Pm X (.Call (.Name x p) (e :: es) [] pos) M ds Q := by
  intro σ H F mF ok
  obtain ⟨f, fd, ps, dvs, us, F1, hm, kp, hb, hd, hdd⟩ := g.ex
  refine wE_of (pe_callSD F1 (hr.mono hk) hg hm kp hb hd (E := L2.WE (WXD X.K Pm ED)) (fun σ => passAt tk σ) pa_w hdb he hpl) ?_
  exact wA_mono (h σ H F mF ok) fun vs H1 ⟨xs, M1, o1, q⟩ => ⟨xs ++ dd, M1, _, Q, ED ds, (mono_x mF).m, o1.imp fun G _ z => ⟨z.1.append (hdd G), z.2⟩, q, fun v H' z => z, fun cls d H' z => out_of mF z⟩
end
end DL

/-! DLF: classes and methods whose code may raise; what is let out is wished for at the caller's slots. -/
namespace DL
open PySem PySem.Spec L2
open PyProof.Rows hiding St
section
variable {X : Cx} {Pm : Hp → Prop} {M : Mst} {ds : Ds} {Q : QD} {ED : XQ} {pos : Pos} {a b c e : Expr}
variable {j k : Nat} {x m : Str} {sp : SpX} {dd : List D} {p apos : Pos} {o : Expr} {es : List Expr} {C : Addr}
section
variable {CY : CXT} {g : Addr} {gd : FuncData} {ns : List Str} {sr : Sp} {E : L2.St → XK} {dv zs : List V} {du ws : List Value} {pins : List (Addr × Obj)} {σ : L2.St} {H : Hp} {s : Shared} {R : VK}
theorem made_at (hC : Mk X.K C g) (F1 : FnOk X.prog X.w X.K X.mg X.base CY k g gd ns sr) (hr : Room (k + 1) X.A) (hb : Binds X.K gd ns du) (hd : Vals dv du) (out : PassesAt CY X σ (E σ)) (I : Inv X pins σ H s) (rz : Vals zs ws)
    (go : ∀ q dq, H q = none → H dq = none → dq ≠ q → sr (.ref q :: (zs ++ dv)) (upd (upd H dq (.own q)) q (.ins C dq [])) (fun y H2 => y = .non ∧ R (.ref q) H2) (E σ)) :
    wpAny (model X.prog X.w) X.A (call (.ref C) ws) (EP X pins σ R) X.xe s := by
  have J := Inv.made (C := C) I
  have top := go _ _ (I.hok.fresh (Nat.le_succ s.heap.objs.size)) (I.hok.fresh (Nat.le_refl s.heap.objs.size)) (Nat.ne_of_lt (Nat.lt_succ_self _))
  have all : Vals (V.ref (s.heap.objs.size + 1) :: (zs ++ dv)) (Value.ref (s.heap.objs.size + 1) :: (ws ++ du)) := .cons rfl (rz.append hd)
  have len : (Value.ref (s.heap.objs.size + 1) :: ws ++ du).length = ns.length := by rw [← F1.len _ _ _ _ top, all.length]; rfl
  refine wpAny_call (make_map (f := g) I.kIn hC.makes hC.init (beq_iff_eq.mp hC.fn) ?_)
  refine codeAny_mono (F1.run _ _ _ _ ⟨Value.ref (s.heap.objs.size + 1) :: ws, []⟩ _ _ _ (E σ) (hr.make C ws []) (J.env0.make C ws []) (hb _ (Value.ref (s.heap.objs.size + 1) :: ws) J.kIn len) all top) ?_
  rintro (er | fl) s2 z
  · exact out pins _ _ er s2 J z
  · cases fl with
    | ret u =>
      obtain ⟨y, H2, J2, ry, ey, z2⟩ := J.after z
      subst ey
      exact ⟨ry, .ref (s.heap.objs.size + 1), H2, J2, rfl, z2⟩
    | _ => exact z.elim
end
/-- the class x, called: its __init__ may raise -/
theorem mk_coreX {H1 : Hp} {F : Hp → Prop} {vs : List V} {xs : List D} {M1 : Mst} {dvs : List V} {QX : XQ0} {E : XK} (mF : Mono1 F) (o1 : Ok X.K M1 (fun G => RpL X.K G xs vs ∧ F G) H1) (hdd : ∀ G, RpL X.K G dd dvs)
    (q : ∀ q, M1 q = none → sp (.raw (.ref q) :: (xs ++ dd)) (updM M1 q (.obj C [])) (MkEnd C q Q) QX) (hE : ∀ cls d H', EndX X.K F QX cls d H' → E cls d H') (y dy : Addr) (hy : H1 y = none) (hdy : H1 dy = none) (ne : dy ≠ y) :
    toSpX X.K sp (.ref y :: (vs ++ dvs)) (upd (upd H1 dy (.own y)) y (.ins C dy [])) (fun v H2 => v = .non ∧ EndE X.K F Q (.ref y) H2) E := by
  have o2 := o1.new (o := .own y) (mono_rpl.and mF.to) hdy
  have o3 := o2.newM (p := y) (o := .ins C dy []) (d := .obj C []) (by rw [upd_ne (Ne.symm ne)]; exact hy) fun _ _ _ => ⟨dy, [], rfl, RpF.nil⟩
  refine ⟨.raw (.ref y) :: (xs ++ dd), _, F, _, QX, mF, o3.imp fun G _ z => ⟨RpL.cons rp_raw (z.2.1.append (hdd G)), z.2.2⟩, q y (o1.free hy), fun v H' ⟨d, M2, o4, e, fs, hfs, q2⟩ => ?_, hE⟩
  subst e
  have ev : v = .non := o4.use fun _ _ z => z.1.non_inv
  refine ⟨ev, .obj C fs, delM M2 y, ?_, q2⟩
  obtain ⟨G, s, hM, z⟩ := id o4
  obtain ⟨_, dx', ws, hw, hr⟩ := hM y _ hfs
  refine (o4.freeze (mono_rp.and mF.to) hfs hw).imp fun G s z => ?_
  obtain ⟨g1, ⟨dx2, ws', e', r'⟩, g2, g3⟩ := z
  cases e'
  exact ⟨rp_obj g1 r', g3⟩
theorem we_makX (g : MakX X.prog X.w X.K X.mg X.base k x C sp dd) (tk : TakesD X Pm ED) (hr : Room j X.A) (hk : k + 1 ≤ j) (h : WA Pm X (e :: es) M ds fun xs M1 => ∀ q, M1 q = none → sp (.raw (.ref q) :: (xs ++ dd)) (updM M1 q (.obj C [])) (MkEnd C q Q) (ED ds)) (hg : Gl X x := by rfl) (hdb : (x == ("__debug__" : Str)) = false := by decide)
    (he : starEach (e :: es) X.env = (false, eval e X.env) :: starEach es X.env := by rfl) (hpl : (backTo pos (starEach es X.env)).any (·.1) = false := by rfl) : WE Pm X (.Call (.Name x p) (e :: es) [] pos) M ds Q := by
  intro σ H F mF ok pins s I
  obtain ⟨f, fd, ps, dvs, us, F1, mk, hm, hb, hd, hdd⟩ := g.ex
  refine wpAny_Call_Name_kw (ld_glob I hg hm ?_ hdb)
  refine PySem.W.callWith_K (h₀ := X.base) I.ok.mod.kin mk.kp (thn ((wA_mono (h σ H F mF ok) fun _ _ z => z) pos pins s I) fun ws s1 ⟨zs, H1, I1, rz, xs, M1, o1, q⟩ => ⟨I1.kIn, ?_⟩) he hpl
  exact made_at (E := L2.WE (WXD X.K Pm ED)) mk F1 (hr.mono hk) hb hd (passAt tk σ) I1 rz fun y dy h1 h2 h3 => mk_coreX (mono_x mF).m o1 hdd q (fun cls d H' z => out_of mF z) y dy h1 h2 h3
theorem we_metX {pl : Sem Bool} (g : MetX X.prog X.w X.K X.mg X.base k C m sp dd) (tk : TakesD X Pm ED) (hr : Room j X.A) (hk : k ≤ j) (h : WE Pm X o M ds fun x M1 => ∃ fs, IsObj M1 x C fs ∧ fs.lookup m = none ∧ WA Pm X (e :: es) M1 ds fun xs M2 => sp (x :: (xs ++ dd)) M2 Q (ED ds))
    (hst : starEach (e :: es) X.env = (false, eval e X.env) :: starEach es X.env := by rfl) (hpl : (backTo pos (starEach es X.env)).any (·.1) = false := by rfl)
    (ht : eval (.Call (.Attribute o m apos) (e :: es) [] pos) X.env = (do
      let ov ← eval o X.env
      standAt apos.atName
      let (f, first) ← holding [ov] (getMethod ov m pl)
      callWith pos f first (backTo pos (starEach (e :: es) X.env)) (backToKw pos (keywordEach [] X.env))) := by rfl) : WE Pm X (.Call (.Attribute o m apos) (e :: es) [] pos) M ds Q := by
  intro σ H F mF ok pins s I
  obtain ⟨f, fd, ps, dvs, us, F1, cl, hm, hb, hd, hdd⟩ := g.ex
  refine PySem.W.methodCall_KW (pl := pl) (thn (h σ H F mF ok pins s I) fun u s1 ⟨v, H1, I1, rv, d, M1, o1, fs, hx, hl, h2⟩ => ?_) ht
  obtain ⟨q, dx, ws, rfl, hH, o2⟩ := isObj_at hx o1
  obtain rfl : u = Value.ref q := rv
  refine getmeth_ok I1 hH cl hm (o2.use fun _ _ z => z.1.none hl) ?_
  have arg := h2 σ H1 (fun G => Rp X.K G d (.ref q) ∧ F G) (mono_rp.and mF) (o1.imp fun _ _ ⟨z1, z2, z3⟩ => ⟨z2, z1, z3⟩)
  refine PySem.W.callWith_K (first := [.ref q]) (h₀ := X.base) I.ok.mod.kin hm.kp (thn (arg pos pins s1 I1) fun us' s2 ⟨vs, H2, I2, r, xs, M2, o3, q2⟩ => ⟨I2.kIn, ?_⟩) hst hpl
  refine run_fnSD (us := .ref q :: us') (vs := .ref q :: vs) (E := L2.WE (WXD X.K Pm ED)) F1 (hr.mono hk) hb hd (passAt tk σ) I2 (.cons rfl r) ?_
  exact ⟨d :: (xs ++ dd), M2, (fun G => EnvR X.K G ds σ ∧ F G), Q, ED ds, (mono_x mF).m, o3.imp fun G _ z => ⟨RpL.cons z.2.2.1 (z.1.append (hdd G)), z.2.1, z.2.2.2⟩, q2, fun v H' z => z, fun cls d H' z => out_of mF z⟩
theorem we_metX0 {pl : Sem Bool} (g : MetX X.prog X.w X.K X.mg X.base k C m sp dd) (tk : TakesD X Pm ED) (hr : Room j X.A) (hk : k ≤ j) (h : WE Pm X o M ds fun x M1 => ∃ fs, IsObj M1 x C fs ∧ fs.lookup m = none ∧ sp (x :: dd) M1 Q (ED ds))
    (ht : eval (.Call (.Attribute o m apos) [] [] pos) X.env = (do
      let ov ← eval o X.env
      standAt apos.atName
      let (f, first) ← holding [ov] (getMethod ov m pl)
      callWith pos f first (backTo pos (starEach [] X.env)) (backToKw pos (keywordEach [] X.env))) := by rfl) : WE Pm X (.Call (.Attribute o m apos) [] [] pos) M ds Q := by
  intro σ H F mF ok pins s I
  obtain ⟨f, fd, ps, dvs, us, F1, cl, hm, hb, hd, hdd⟩ := g.ex
  refine PySem.W.methodCall_KW (pl := pl) (thn (h σ H F mF ok pins s I) fun u s1 ⟨v, H1, I1, rv, d, M1, o1, fs, hx, hl, h2⟩ => ?_) ht
  obtain ⟨q, dx, ws, rfl, hH, o2⟩ := isObj_at hx o1
  obtain rfl : u = Value.ref q := rv
  refine getmeth_ok I1 hH cl hm (o2.use fun _ _ z => z.1.none hl) ?_
  refine PySem.W.callWith_K0 (first := [.ref q]) I1.kIn hm.kp ?_
  refine run_fnSD (us := [.ref q]) (vs := [.ref q]) (E := L2.WE (WXD X.K Pm ED)) F1 (hr.mono hk) hb hd (passAt tk σ) I1 (.cons rfl .nil) ?_
  exact ⟨d :: dd, M1, (fun G => EnvR X.K G ds σ ∧ F G), Q, ED ds, (mono_x mF).m, o1.imp fun G _ z => ⟨RpL.cons z.1 (hdd G), z.2⟩, h2, fun v H' z => z, fun cls d H' z => out_of mF z⟩
end
end DL

/-! DLG: an exception of the program's own classes: its __init__, raise, try .. except X as e, e.f. -/
namespace DL
open PySem PySem.Spec L2
open PyProof.Rows hiding St
section
variable {X : Cx} {Pm : Hp → Prop} {M : Mst} {ds : Ds} {Q : QD} {ED : XQ} {pos p' : Pos} {a b c e o : Expr} {es : List Expr} {Dn : EndD}
/-- self.f = e within an exception's __init__ -/
theorem ws_xst {f : Str} (h : WE Pm X e M ds fun y M1 => WE Pm X o M1 ds fun x M2 => ∃ a C : Addr, x = .raw (.ref a) ∧ OexC X.K C ∧ PySem.W.findIn X.K (.ref C) f = some none ∧
      ((M2 a = some (.xo a C none) ∧ ∀ dx, M2 dx = none → dx ≠ a → Dn.nx ds (updM (updM M2 dx (.xf dx [(f, y)])) a (.xo a C (some dx)))) ∨
        ∃ dx fs, M2 a = some (.xo a C (some dx)) ∧ M2 dx = some (.xf dx fs) ∧ fs.length ≤ 900 ∧ Dn.nx ds (updM M2 dx (.xf dx ((f, y) :: fs)))))
    (hs : swapsWith e (some (.Attribute o f p')) pos.line X.env = pure false := by rfl) : WS Pm X (.Assign [.Attribute o f p'] e pos) M ds Dn := by
  intro σ H F mF ok
  refine wS_of (ps_ost pe_w pe_w hs) ?_
  refine run2 mF ok h fun v u H' y x M' ok' q => ?_
  obtain ⟨a, C, rfl, T, hno, q⟩ := q
  obtain rfl : u = .ref a := ok'.use fun _ _ z => z.2.1.raw_inv
  refine ⟨a, C, rfl, T, hno, ?_⟩
  rcases q with ⟨hM, q⟩ | ⟨dx, fs, hM, hd, hl, q⟩
  · refine .inl ⟨(ok'.getM hM).use fun _ _ z => z.1, fun dx n ne => ⟨ds, _, ?_, q dx (ok'.free n) ne⟩⟩
    have o2 := ok'.newM (p := dx) (o := exd dx [(f, v)]) (d := .xf dx [(f, y)]) n fun _ _ z => ⟨_, rfl, RpF.cons z.1 RpF.nil⟩
    exact (o2.setM (p := a) (o := exo a C (some dx)) (d := .xo a C (some dx)) (old := .xo a C none) (by rw [updM_ne (Ne.symm ne)]; exact hM) fun _ _ _ _ => rfl).imp fun _ _ z => ⟨z.2.2.1, z.2.2.2⟩
  · obtain ⟨G, s, hall, z⟩ := id ok'
    obtain ⟨g0, ws, hw, hr⟩ := hall dx _ hd
    refine .inr ⟨dx, ws, (hall a _ hM).2, hw, ?_, ds, _, ?_, q⟩
    · rw [hr.length]; exact hl
    · have o2 : Ok X.K M' (fun G' => G' = G ∧ Rp X.K G' y v ∧ Rp X.K G' (.raw (.ref a)) (.ref a) ∧ EnvR X.K G' ds σ ∧ F G') H' := ⟨G, s, hall, rfl, z⟩
      refine (o2.setM (p := dx) (o := exd dx ((f, v) :: ws)) (d := .xf dx ((f, y) :: fs)) hd fun G' _ z2 _ => ?_).imp fun _ _ z => ⟨z.2.2.2.1, z.2.2.2.2⟩
      obtain ⟨e, z2⟩ := z2
      subst e
      exact ⟨_, rfl, RpF.cons z2.1 hr⟩
/-- all that is there beside M stands in the frozen part -/
def Full (M : Mst) (H G : Hp) : Prop := ∀ b, M b = none → H b ≠ none → G b ≠ none
theorem mono_full {M : Mst} {H : Hp} : Mono1 (Full M H) := fun G G' e h b hM hH z => by
  cases q : G b with
  | none => exact h b hM hH q
  | some o =>
    obtain ⟨_, q2, _⟩ := e b o q
    rw [z] at q2
    cases q2
def offM (M : Mst) (H : Hp) : Hp := fun b => match M b with
  | none => H b
  | some _ => none
theorem offM_in {M : Mst} {H : Hp} {b : Addr} (h : M b = none) : offM M H b = H b := by unfold offM; rw [h]
theorem offM_out {M : Mst} {H : Hp} {b : Addr} {d : D} (h : M b = some d) : offM M H b = none := by unfold offM; rw [h]
theorem Ok.full {K : PySem.W.Frag} {F : Hp → Prop} {H : Hp} (h : Ok K M F H) (mF : Mono1 F) : Ok K M (fun G => Full M H G ∧ F G) H := by
  obtain ⟨G, s, hM, z⟩ := h
  have le : Le G (offM M H) := fun b u q => by
    obtain ⟨o', h', e'⟩ := s b u q
    have : M b = none := by
      cases hm : M b with
      | none => rfl
      | some d =>
        rw [(hM b d hm).1] at q
        cases q
    exact ⟨o', (offM_in this).trans h', e'⟩
  refine ⟨offM M H, fun b u q => ?_, fun b d hb => ⟨offM_out hb, (hM b d hb).2.mono le⟩, fun b hb hH => by rw [offM_in hb]; exact hH, mF _ _ le z⟩
  cases hm : M b with
  | none =>
    rw [offM_in hm] at q
    exact ⟨u, q, rfl⟩
  | some d =>
    rw [offM_out hm] at q
    cases q
/-- an own exception class with an own __init__ that raises nothing -/
structure XmkD (P : Program) (w : World) (K : PySem.W.Frag) (mg : Str → Option Value) (base : Heap) (k : Nat) (x : Str) (C : Addr) (sp : SpD) (dd : List D) : Prop where
  ex : ∃ (f : Addr) (fd : FuncData) (ps : List Str) (dvs : List V) (us : List Value), FnOk P w K mg base CX0 k f fd ps (toSp K sp) ∧ PySem.W.findIn K (.ref C) "__init__" = some (some (.ref f)) ∧ PySem.W.typeIn K (.ref f) = some (.type "function") ∧ OexC K C ∧ mg x = some (.ref C) ∧ Binds K fd ps us ∧ Vals dvs us ∧ ∀ G, RpL K G dd dvs
theorem ws_raiseX {x : Str} {C : Addr} {sp : SpD} {dd : List D} {j k : Nat} {p pos' : Pos} (g : XmkD X.prog X.w X.K X.mg X.base k x C sp dd) (tk : TakesD X Pm ED) (hr : Room j X.A) (hk : k + 1 ≤ j)
    (h : WA Pm X (e :: es) M ds fun xs M1 => xs.length ≤ 1000 ∧ ∀ a, M1 a = none → sp (.raw (.ref a) :: (xs ++ dd)) (updM M1 a (.xo a C none)) fun d M2 => d = .non ∧ ∃ dx fs, M2 a = some (.xo a C (some dx)) ∧ M2 dx = some (.xf dx fs) ∧ dx ≠ a ∧ M1 dx = none ∧ ED ds (.ref C) fs (delM (delM M2 a) dx))
    (hc : X.calm = true := by rfl) (hg : Gl X x := by rfl) (hdb : (x == ("__debug__" : Str)) = false := by decide) (he : starEach (e :: es) X.env = (false, eval e X.env) :: starEach es X.env := by rfl) (hpl : (backTo pos' (starEach es X.env)).any (·.1) = false := by rfl) :
    WS Pm X (.Raise (some (.Call (.Name x p) (e :: es) [] pos')) none pos) M ds Dn := by
  intro σ H F mF ok
  obtain ⟨f, fd, ps, dvs, us, F1, iC, tI, T, hm, hb, hd, hdd⟩ := g.ex
  refine wS_of (ps_raise hc tk (pmk_oex T iC tI F1 (hr.mono hk) hb hd pass0 hg hm pa_w hdb he hpl)) ?_
  refine wA_mono (h σ H F mF ok) fun vs H1 ⟨xs, M1, o1, hl, q⟩ => ⟨by rw [o1.use fun _ _ z => z.1.length]; exact hl, fun a ha => ?_⟩
  have o2 := o1.full (mono_rpl.and1 (mono_x mF).m)
  have o3 := o2.newM (p := a) (o := exo a C none) (d := .xo a C none) ha fun _ _ _ => rfl
  refine ⟨.raw (.ref a) :: (xs ++ dd), _, fun G => Full M1 H1 G ∧ EnvR X.K G ds σ ∧ F G, _, mono_full.and1 (mono_x mF).m, o3.imp fun G _ z => ⟨RpL.cons rp_raw (z.2.1.append (hdd G)), z.1, z.2.2⟩, q a (o1.free ha), fun v H2 z => ?_⟩
  obtain ⟨d, M2, o4, e, dx, fs, hMa, hMd, ne, hM1, q2⟩ := z
  subst e
  obtain ⟨G, s, hall, z1, z2, z3, z4⟩ := o4
  cases z1.non_inv
  obtain ⟨ga, ha2⟩ := hall a _ hMa
  obtain ⟨gd, ws, hd2, hr2⟩ := hall dx _ hMd
  have hH1 : H1 dx = none := by
    cases q : H1 dx with
    | none => rfl
    | some o => exact absurd gd (z2 dx hM1 (by rw [q]; exact fun z => nomatch z))
  have le : Le G (del H2 a) := fun b u q => by
    have hba : b ≠ a := fun z => by
      rw [z, ga] at q
      cases q
    rw [del_ne hba]
    exact s b u q
  have sG : Le G (upd G dx (.xd ws)) := (Le.refl G).upd_none gd
  refine ⟨rfl, dx, ws, ha2, hd2, hH1, ds, _, fs, ⟨upd G dx (.xd ws), le.both, fun b u q => ?_, ⟨ws, upd_same, hr2.mono sG⟩, z3.mono sG, mF.p _ (mF.m _ _ sG z4)⟩, q2⟩
  by_cases hbd : b = dx
  · rw [hbd, delM_same] at q
    cases q
  · rw [delM_ne hbd] at q
    by_cases hba : b = a
    · rw [hba, delM_same] at q
      cases q
    · rw [delM_ne hba] at q
      obtain ⟨g1, g2⟩ := hall b u q
      rw [upd_ne hbd, upd_ne hbd, del_ne hba]
      exact ⟨g1, g2.mono sG⟩
/-- try: body, except x as n: suite -/
theorem ws_tryAs {x n : Str} {c : Value} {i : Nat} {body suite : List Stmt} {b₀ : Stmt} {np pos' : Pos} (tk : TakesD X Pm ED) (hi : X.N[i]? = some n) (hc : Names X x c)
    (hb : ∀ (pn : List (Addr × Obj)) (xe : Value → Shared → Prop) (Pm' : Hp → Prop), TakesD (X.tr pn xe) Pm' (fun ds' cls fs M' => ∃ b, PySem.W.exmOne X.K cls c = some b ∧ (b = true → ∀ (a : Addr) (oe : Obj) (d : Option Addr) (pn' : List (Addr × Obj)), Zc cls d oe → (∃ vs, oe.data = .fields vs) →
        WSs (XdG X.K fs d) (X.suite a ((a, oe) :: pn')) (b₀ :: suite) M' (ds'.set i (some (.raw (.ref a)))) { nx := fun ds M => Dn.nx (ds.set i none) M, rt := Dn.rt, bk := fun ds M => Dn.bk (ds.set i none) M, ct := fun ds M => Dn.ct (ds.set i none) M }) ∧ (b = false → ED ds' cls fs M')) →
      PassesOwn (model X.prog X.w) X.A X.env xe → WSs Pm' (X.tr pn xe) body M ds Dn)
    (hN : X.N.Nodup := by decide) (hs : X.stack = X.env :: X.outer := by rfl) (hf : X.env.frame = some X.env.locals := by rfl) (hln : X.env.kindOf n = some .local := by rfl) :
    WS Pm X (.Try body [.ExceptHandler (some (.Name x np)) (some n) (b₀ :: suite) pos'] [] [] pos) M ds Dn := by
  intro σ H F mF ok
  refine wS_of (ps_try_as (tb := fun W D σ H => ∀ pn xe, Takes (X.tr pn xe) W → PassesOwn (model X.prog X.w) X.A X.env xe → wSs (X.tr pn xe) body D σ H)
    (ts := fun a cls d D σ H => ∀ oe pn, Zc cls d oe → (∃ vs, oe.data = .fields vs) → wSs (X.suite a ((a, oe) :: pn)) (b₀ :: suite) D σ H) (Wout := WXD X.K Pm ED) hs hf hN hi hln hc tk
    (fun W pn xe t p => ⟨fun pins s σ H D I h => h pn xe t p pins s I⟩) (fun a oe cls d pn z1 z2 => ⟨fun pins s σ H D I h => h oe pn z1 z2 pins s I⟩)) ?_
  intro pn xe t pw
  refine hb pn xe F (Takes.imp t fun cls d σ' H' z => ?_) pw σ H F ⟨mF.m, fun _ z => z⟩ ok
  obtain ⟨ds', M', fs, o, b, hb1, yes, no⟩ := z
  refine ⟨b, hb1, fun e a na oe pn' z1 z2 => ?_, fun e => ⟨ds', M', fs, o.imp fun _ _ z => ⟨z.1, z.2.1, mF.p _ z.2.2⟩, no e⟩⟩
  have h1 := yes e a oe d pn' z1 z2 (σ'.set i (some (.ref a))) H' (fun G => XdG X.K fs d G ∧ F G) ⟨XdG.mono.and1 mF.m, fun _ z => z.1⟩ (o.imp fun _ _ z => ⟨EnvR.set rp_raw i z.2.1, z.1, z.2.2⟩)
  refine wSs_mono h1 (fun σ2 H2 ⟨ds2, M2, o2, q⟩ => ⟨_, M2, o2.imp fun _ _ z => ⟨z.1.setN i, z.2.2⟩, q⟩) (fun v H2 ⟨d, M2, o2, q⟩ => ⟨d, M2, o2.imp fun _ _ z => ⟨z.1, z.2.2⟩, q⟩) (fun σ2 H2 ⟨ds2, M2, o2, q⟩ => ⟨_, M2, o2.imp fun _ _ z => ⟨z.1.setN i, z.2.2⟩, q⟩) (fun σ2 H2 ⟨ds2, M2, o2, q⟩ => ⟨_, M2, o2.imp fun _ _ z => ⟨z.1.setN i, z.2.2⟩, q⟩)
/-- e.f within the suite -/
theorem we_xf {C a : Addr} {oe : Obj} {d : Option Addr} {pn : List (Addr × Obj)} {n : Str} {fs : List (Str × D)} (T : XfC X.K C) (hno : PySem.W.findIn X.K (.ref C) n = some none) (hz : Zc (.ref C) d oe) (hv : ∃ vs, oe.data = .fields vs)
    (h : WE (XdG X.K fs d) (X.suite a ((a, oe) :: pn)) e M ds fun x M1 => x = .raw (.ref a) ∧ ∃ y, fs.lookup n = some y ∧ Q y M1) (hb : attributeBase e n X.env (eval e X.env) = eval e X.env := by rfl) :
    WE (XdG X.K fs d) (X.suite a ((a, oe) :: pn)) (.Attribute e n pos) M ds Q := by
  intro σ H F mF ok
  refine wE_of (pe_xf T hno hz hv pe_w hb) ?_
  refine wE_mono (h σ H F mF ok) fun v H1 ⟨x, M1, o1, ex, y, hl, q⟩ => ?_
  subst ex
  obtain ⟨G, s, hall, z1, z2, z3⟩ := o1
  have hx := mF.p _ z3
  cases d with
  | none =>
    have e : fs = [] := hx
    rw [e] at hl
    cases hl
  | some dd =>
    obtain ⟨ws, hw, hr⟩ := hx
    obtain ⟨v', hv', rv'⟩ := hr.some hl
    exact ⟨z1.raw_inv, rfl, dd, ws, v', rfl, s.at hw, hv', y, M1, ⟨G, s, hall, rv', z2, z3⟩, q⟩
end
end DL

/-! DLI: classes by their written part; a != b by an own __eq__. -/
namespace DL
open PySem PySem.Spec L2
open PyProof.Rows hiding St
def partB (K : PySem.W.Frag) (C : Addr) (newId : String) (pb : Bool → List Value → Bool) (pN : Addr → Bool) : Bool := match K.lookup C with
  | some ⟨.type "type", _, .cls cd, sl⟩ => (match cd.mro, sl.toList with
    | .ref C' :: bm, [_, _, _, _, some (.builtin n), _] => C' == C && (n == newId && (!cd.hasDel && (pb cd.hasDict bm && pN cd.ns)))
    | _, _ => false)
  | _ => false
theorem part_of {K : PySem.W.Frag} {C : Addr} {newId : String} {pb : Bool → List Value → Bool} {pN : Addr → Bool} (q : partB K C newId pb pN = true) :
    ∃ nm qn N bs bm hdct sn sub ab col dd k0 k1 k2 k3 k5, K.lookup C = some (excClassObj nm qn C N bs bm hdct sn sub ab col dd k0 k1 k2 k3 k5 newId) ∧ pb hdct bm = true ∧ pN N = true := by
  unfold partB at q
  split at q
  · rename_i dd cd sl ho
    split at q
    · rename_i C' bm k0 k1 k2 k3 n k5 hm hs
      simp only [Bool.and_eq_true, beq_iff_eq, Bool.not_eq_true'] at q
      obtain ⟨rfl, rfl, hdel, h1, h2⟩ := q
      obtain ⟨nm, bs, mro, ns, qn, hd, sn, sub, ab, col, del⟩ := cd
      dsimp only at hm hdel h1 h2
      subst hm hdel
      obtain ⟨l⟩ := sl
      have hs : l = _ := hs
      subst hs
      exact ⟨nm, qn, ns, bs, bm, hd, sn, sub, ab, col, dd, k0, k1, k2, k3, k5, ho, h1, h2⟩
    · cases q
  · cases q
/-- an own exception class over ValueError: the check, run in the kernel -/
def oexB (K : PySem.W.Frag) (C : Addr) : Bool := partB K C "ValueError.__new__" (fun hd bm => hd && PySem.HandSPX.refsVE bm) (fun _ => true) &&
  (decide (PySem.W.findIn K (.ref C) "__setattr__" = some (some (.builtin "object.__setattr__"))) && (decide (PySem.W.subIn K (.ref C) (.type "BaseException") = some true) && (decide (PySem.W.typeIn K (.ref C) = some (.type "type")) && PySem.W.keepIn K (.ref C))))
theorem oex_of {K : PySem.W.Frag} {C : Addr} (q : oexB K C = true) : OexC K C := by
  unfold oexB at q
  simp only [Bool.and_eq_true, decide_eq_true_eq] at q
  obtain ⟨h0, h1, h2, h3, h4⟩ := q
  obtain ⟨nm, qn, N, bs, bm, hdct, sn, sub, ab, col, dd, k0, k1, k2, k3, k5, hl, hb, _⟩ := part_of h0
  simp only [Bool.and_eq_true] at hb
  obtain ⟨rfl, hb⟩ := hb
  exact ⟨⟨nm, qn, N, bs, bm, sn, sub, ab, col, dd, k0, k1, k2, k3, k5, hl, hb⟩, h1, h2, h3, h4⟩
/-- a plain class with an own __eq__ and no own __ne__ -/
def neB (K : PySem.W.Frag) (C f : Addr) : Bool := partB K C "object.__new__" (fun _ bm => bm == [.type "object"]) (fun N => PySem.W.nsOkIn K N && (decide (PySem.W.nsIn K N "__eq__" = some (some (.ref f))) && decide (PySem.W.nsIn K N "__ne__" = some none))) && PySem.W.isFn K (.ref f)
theorem nsv_of {K : PySem.W.Frag} {h : Heap} {N : Addr} {mg : Str → Option Value} {n : Str} {v : Value} (k : K.In h) (g : h.Ns N mg) (q : PySem.W.nsIn K N n = some (some v)) : mg n = some v := by
  obtain ⟨o, es, ep, ho, hd, _, look⟩ := g
  unfold PySem.W.nsIn at q
  split at q
  · rename_i es' _ _ hl
    have z := k _ _ hl
    rw [ho] at z
    cases z
    cases hd
    split at q
    · rename_i hit
      cases q
      rw [← look]
      unfold nsFind findBy
      rw [← Array.find?_toList, hit]
      rfl
    · split at q <;> cases q
  · cases q
section
variable {X : Cx} {Pm : Hp → Prop} {M : Mst} {Q : QD} {j k : Nat} {C f : Addr} {sp : SpD}
theorem ne_at {h : Heap} {x : Addr} {o : Obj} (kin : X.K.In h) (q : neB X.K C f = true) (hx : h.get? x = some o) (hc : o.cls = .ref C) (he : typeLookup (.type "object") "__eq__" = pure yB) : h.OwnEqNoNe x C f "object" [.type "object"] := by
  unfold neB at q
  simp only [Bool.and_eq_true] at q
  obtain ⟨q, fn⟩ := q
  obtain ⟨nm, qn, N, bs, bm, hdct, sn, sub, ab, col, dd, k0, k1, k2, k3, k5, hl, hb, hN⟩ := part_of q
  simp only [Bool.and_eq_true, decide_eq_true_eq] at hN
  obtain ⟨n0, n1, n2⟩ := hN
  have hb : bm = _ := beq_iff_eq.mp hb
  subst hb
  have ns : h.Ns N (h.nsMap N) := .of_isNs (PySem.W.isNs_of_in kin n0)
  have fn : PySem.W.typeIn X.K (.ref f) = some (.type "function") := beq_iff_eq.mp fn
  obtain ⟨of, hf, hfc⟩ := Option.map_eq_some_iff.mp fn
  exact ⟨o, of, nm, qn, N, bs, hdct, sn, sub, ab, col, dd, k0, k1, k2, k3, k5, "object.__new__", _, _, hx, hc, kin _ _ hl, ns, nsv_of kin ns n1, kin _ _ hf, hfc, PySem.F.mro_object, he, PySem.W.ns_none_of kin ns n2⟩
/-- a != b, by an own __eq__ that answers a bool -/
theorem b_neOwn {fd : FuncData} {ps : List Str} {x y : D} {fs gs : List (Str × D)} (q : neB X.K C f = true) (he : typeLookup (.type "object") "__eq__" = pure yB)
    (F1 : FnOk X.prog X.w X.K X.mg X.base CX0 k f fd ps (toSp X.K sp)) (hb : Binds X.K fd ps []) (hr : Room j X.A) (hk : k + 1 ≤ j) (hx : IsObj M x C fs) (hy : IsObj M y C gs) (h : sp [x, y] M fun d M1 => ∃ t, d = .bl t ∧ Q (.bl (!t)) M1) : BinG Pm X (compareOp .NotEq) x y M Q := by
  intro v u H F mF ok
  obtain ⟨p, dx, ws, rfl, hp, o2⟩ := isObj_at hx ok
  obtain ⟨q', dy, zs, rfl, hq, o3⟩ := isObj_at (F := fun G => Rp X.K G x (.ref p) ∧ F G) hy (ok.imp fun _ _ ⟨z1, z2, z3⟩ => ⟨z2, z1, z3⟩)
  intro pins s σ v' u' I r1 r2
  cases (show v' = Value.ref p from r1)
  cases (show u' = Value.ref q' from r2)
  obtain ⟨od, J⟩ := inst_at I hp
  obtain ⟨od', J'⟩ := inst_at I hq
  have ok2 : Ok X.K M (fun G => RpL X.K G [x, y] [.ref p, .ref q'] ∧ F G) H := ok.imp fun _ _ ⟨z1, z2, z3⟩ => ⟨RpL.cons z1 (RpL.cons z2 RpL.nil), z3⟩
  have top : toSp X.K sp [.ref p, .ref q'] H (EndE X.K F fun d M1 => ∃ t, d = .bl t ∧ Q (.bl (!t)) M1) E0 := ⟨[x, y], M, F, _, mF.m, ok2, h, fun v H' z => z⟩
  have hl := F1.len [.ref p, .ref q'] H _ E0 top
  have bd := hb s [.ref p, .ref q'] I.kIn (by rw [List.append_nil]; exact hl)
  rw [List.append_nil] at bd
  have run := F1.run X.A.in1 X.stack s H ⟨[.ref p, .ref q'], []⟩ [.ref p, .ref q'] [.ref p, .ref q'] _ E0 (hr.mono hk).in1 I.env0.in1 bd (.cons rfl (.cons rfl .nil)) top
  have kin := I.kIn
  refine PySem.compareOp_ne_ownEq (h := s.heap) (g := s.gens) (d := s.drawn) (t := s.toks) (os := s.os) PySem.F.cmp_object (ne_at kin q J.1 rfl he) J'.1 rfl (by have := (hr.mono hk).un; omega) ?_
  refine wpAny_call (codeAny_mono run ?_)
  rintro (er | fl) s2 z
  · exact z.elim
  · cases fl with
    | ret w =>
      obtain ⟨v, H', I', rv, d, M', o', t, e, q2⟩ := I.after z
      subst e
      obtain rfl : v = .bl t := o'.use fun _ _ z => z.1.bl_inv
      cases (show w = Value.bool t from rv)
      exact ⟨t, rfl, .bl (!t), H', I', rfl, .bl (!t), M', o'.imp fun _ _ z => ⟨rp_bl, z.2⟩, q2⟩
    | _ => exact z.elim
end
end DL

/-! DLJ: C(k = a, m = b), all by keywords, where nothing is raised. -/
namespace DL
open PySem PySem.Spec L2
open PyProof.Rows hiding St
structure MakK (P : Program) (w : World) (K : PySem.W.Frag) (mg : Str → Option Value) (base : Heap) (k : Nat) (x : Str) (C : Addr) (ks : List Str) (gD : List D → List D) (sp : SpX) : Prop where
  ex : ∃ (f : Addr) (fd : FuncData) (ps : List Str) (g : List Value → List Value → List Value) (gV : List V → List V → List V), FnOk P w K mg base (L2.CX P w) k f fd ps (toSpX K sp) ∧ Mk K C f ∧ mg x = some (.ref C) ∧ KBn K fd ps 1 ks g gV ∧
    ∀ G v zs xs, xs.length = ks.length → RpL K G xs zs → ∃ r, gV [v] zs = v :: r ∧ RpL K G (gD xs) r
section
variable {X : Cx} {Pm : Hp → Prop} {M : Mst} {ds : Ds} {Q : QD} {pos p kp1 kp2 : Pos} {a b : Expr} {j k : Nat} {x k1 k2 : Str} {C : Addr} {sp : SpX} {gD : List D → List D}
theorem we_mak2 (g : MakK X.prog X.w X.K X.mg X.base k x C [k1, k2] gD sp) (hr : Room j X.A) (hk : k + 1 ≤ j)
    (h : WE Pm X a M ds fun y M1 => WE Pm X b M1 ds fun z M2 => ∀ q, M2 q = none → sp (.raw (.ref q) :: gD [y, z]) (updM M2 q (.obj C [])) (MkEnd C q Q) (fun _ _ _ => False)) (hg : Gl X x := by rfl)
    (hall : (backToKw pos (keywordEach [⟨some k1, a, kp1⟩, ⟨some k2, b, kp2⟩] X.env)).all (·.1.isSome) = true := by rfl) (hks : (backToKw pos (keywordEach [⟨some k1, a, kp1⟩, ⟨some k2, b, kp2⟩] X.env)).filterMap (·.1) = [k1, k2] := by rfl) (hdb : (x == ("__debug__" : Str)) = false := by decide)
    (hpl : ((backTo pos (starEach [] X.env)).any (·.1) || (backToKw pos (keywordEach [⟨some k1, a, kp1⟩, ⟨some k2, b, kp2⟩] X.env)).any (·.1.isNone)) = false := by rfl) :
    WE Pm X (.Call (.Name x p) [] [⟨some k1, a, kp1⟩, ⟨some k2, b, kp2⟩] pos) M ds Q := by
  intro σ H F mF ok
  obtain ⟨f, fd, ps, g, gV, F1, mk, hm, hb, hG⟩ := g.ex
  have tk : TakesD X Pm (fun _ _ _ _ => False) := takes_no
  refine wE_of (pe_makeK0 mk F1 (hr.mono hk) hg hm hb (passes_call (E := fun _ _ _ => False) tk fun _ _ _ _ z => z.elim) (pk_cons pe_w (pk_cons pe_w pk_nil)) hall hks hdb hpl) ?_
  refine run2 mF ok h fun v u H2 y z M2 ok2 q => ⟨rfl, rfl, fun t dt h1 h2 h3 => ?_⟩
  have o3 : Ok X.K M2 (fun G => RpL X.K G [y, z] [v, u] ∧ EnvR X.K G ds σ ∧ F G) H2 := ok2.imp fun _ _ ⟨z1, z2, z3⟩ => ⟨RpL.cons z1 (RpL.cons z2 RpL.nil), z3⟩
  obtain ⟨r, er⟩ : ∃ r, gV [.ref t] [v, u] = .ref t :: r := o3.use fun G _ z => let ⟨r, e, _⟩ := hG G (.ref t) _ _ rfl z.1; ⟨r, e⟩
  have o4 : Ok X.K M2 (fun G => RpL X.K G (gD [y, z]) r ∧ EnvR X.K G ds σ ∧ F G) H2 := o3.imp fun G _ z => by
    obtain ⟨r', e', hr'⟩ := hG G (.ref t) _ _ rfl z.1
    rw [er] at e'
    cases e'
    exact ⟨hr', z.2⟩
  have top := mk_coreX (sp := sp) (dd := []) (dvs := []) (QX := fun _ _ _ => False) (E := fun _ _ _ => False) (C := C) (Q := Q) (mono_x mF).m o4 (fun _ => RpL.nil) (by simpa only [List.append_nil] using q) (fun cls d H' z => by
    obtain ⟨_, _, _, z⟩ := z
    exact z) t dt h1 h2 h3
  rw [List.append_nil] at top
  rw [er]
  exact top
end
end DL

/-! DLK: constants of the module, starred displays, texts, freezing within a value, keyword-only parameters. -/
namespace DL
open PySem PySem.Spec L2
open PyProof.Rows hiding St
/-- a text constant of the module -/
def cstS (K : PySem.W.Frag) (n z : Str) : Bool := match PySem.W.nsIn K mainGlobals n with
  | some (some (.str y _)) => decide (y = z)
  | _ => false
theorem cstS_ok {K : PySem.W.Frag} {base : Heap} {mg : Str → Option Value} {n z : Str} (i : K.In base) (nm : base.Ns mainGlobals mg) (h : cstS K n z = true) : ∃ t, mg n = some (.str z t) := by
  unfold cstS at h
  split at h
  · rename_i y t e
    have := of_decide_eq_true h
    subst this
    exact ⟨t, PySem.W.mg_of i nm e⟩
  · cases h
def cstI (K : PySem.W.Frag) (n : Str) (z : Int) : Bool := match PySem.W.nsIn K mainGlobals n with
  | some (some (.int y _)) => decide (y = z)
  | _ => false
theorem cstI_ok {K : PySem.W.Frag} {base : Heap} {mg : Str → Option Value} {n : Str} {z : Int} (i : K.In base) (nm : base.Ns mainGlobals mg) (h : cstI K n z = true) : ∃ t, mg n = some (.int z t) := by
  unfold cstI at h
  split at h
  · rename_i y t e
    have := of_decide_eq_true h
    subst this
    exact ⟨t, PySem.W.mg_of i nm e⟩
  · cases h
section
variable {X : Cx} {Pm : Hp → Prop} {M : Mst} {ds : Ds} {Q : QD} {pos p : Pos} {a b c e o : Expr} {es : List Expr} {Dn : EndD}
theorem we_cstS {x z : Str} (h : ∃ t, X.mg x = some (.str z t)) (q : Q (.str z) M) (hg : Gl X x := by rfl) (h1 : (x == ("__debug__" : Str)) = false := by decide) : WE Pm X (.Name x pos) M ds Q := by
  obtain ⟨t, h⟩ := h
  exact we_glob (v := .str z) h ⟨t, rfl⟩ (fun _ => rp_str) q hg h1
theorem we_cstI {x : Str} {z : Int} (h : ∃ t, X.mg x = some (.int z t)) (q : Q (.int z) M) (hg : Gl X x := by rfl) (h1 : (x == ("__debug__" : Str)) = false := by decide) : WE Pm X (.Name x pos) M ds Q := by
  obtain ⟨t, h⟩ := h
  exact we_glob (v := .int z) h ⟨t, rfl⟩ (fun _ => rp_int) q hg h1
/-- *e in a display, e a tuple -/
theorem wa_starT {Q : List D → Mst → Prop} (h : WE Pm X e M ds fun x M1 => ∃ xs, x = .tup xs ∧ WA Pm X es M1 ds fun ys M2 => Q (xs ++ ys) M2) (hs : starEach (.Starred e p :: es) X.env = (true, eval e X.env) :: starEach es X.env := by rfl) : WA Pm X (.Starred e p :: es) M ds Q := by
  intro σ H F mF ok
  refine wA_of (StX.pa_star pe_w pa_w hs) ?_
  refine wE_mono (h σ H F mF ok) fun v H1 ⟨x, M1, o1, xs, e1, q1⟩ => ?_
  subst e1
  obtain ⟨G, s, hM, z1, z2, z3⟩ := id o1
  obtain ⟨q, vs, rfl, g1, g2⟩ := z1.tup_inv
  refine ⟨q, vs, rfl, .inl (sqt_mono s g1), ?_⟩
  refine wA_mono (q1 σ H1 (fun G => RpL X.K G xs vs ∧ F G) (mono_rpl.and mF) ⟨G, s, hM, z2, g2, z3⟩) fun us H2 ⟨ys, M2, o2, q2⟩ => ?_
  exact ⟨xs ++ ys, M2, o2.imp fun _ _ z => ⟨z.2.2.1.append z.1, z.2.1, z.2.2.2⟩, q2⟩
/-! ### texts -/
theorem we_joinT {apos : Pos} (h : WE Pm X o M ds fun x M1 => ∃ z, x = .str z ∧ WE Pm X e M1 ds fun d M2 => ∃ ys : List Str, d = .tup (ys.map D.str) ∧ (ys.map (·.length)).sum + ys.length * z.length ≤ 16777216 ∧ Q (.str (Txt.join z ys)) M2)
    (hs : starEach [e] X.env = [(false, eval e X.env)] := by rfl) (hbase : attributeBase o "join" X.env (eval o X.env) = eval o X.env := by rfl) (hline : (apos.endLine == pos.line) = true := by rfl) : WE Pm X (.Call (.Attribute o "join" apos) [e] [] pos) M ds Q := by
  intro σ H F mF ok
  refine wE_of (pe_join pe_w pe_w hs hbase hline) ?_
  refine wE_mono (h σ H F mF ok) fun v H1 ⟨x, M1, o1, z, e1, h1⟩ => ?_
  subst e1
  obtain rfl : v = .str z := o1.use fun _ _ y => y.1.str_inv
  refine ⟨⟨z, rfl⟩, wE_mono (h1 σ H1 F mF (o1.imp fun _ _ z => z.2)) fun u H2 ⟨d, M2, o2, ys, e2, hz, q⟩ => ?_⟩
  subst e2
  obtain ⟨G, s, hM, y1, y2⟩ := id o2
  obtain ⟨p, vs, rfl, g1, g2⟩ := y1.tup_inv
  cases g2.strs
  exact ⟨z, p, ys, rfl, rfl, .inr (sqt_mono s g1), hz, _, M2, o2.imp fun _ _ y => ⟨rp_str, y.2⟩, q⟩
theorem rpl_strs {K : PySem.W.Frag} {G : Hp} : ∀ {ns : List Str}, RpL K G (ns.map D.str) (ns.map V.str)
  | [] => RpL.nil
  | n :: ns => RpL.cons rp_str rpl_strs
theorem we_split {apos : Pos} (h : WE Pm X o M ds fun x M1 => ∃ z, x = .str z ∧ z.length + 2 ≤ sizeLine ∧ WE Pm X e M1 ds fun d M2 => ∃ y : Str, d = .str y ∧ (y.length == 0) = false ∧ Q (.lst ((Txt.split z y).map D.str)) M2)
    (hs : starEach [e] X.env = [(false, eval e X.env)] := by rfl) (hbase : attributeBase o "split" X.env (eval o X.env) = eval o X.env := by rfl) (hline : (apos.endLine == pos.line) = true := by rfl) : WE Pm X (.Call (.Attribute o "split" apos) [e] [] pos) M ds Q := by
  intro σ H F mF ok
  refine wE_of (pe_split pe_w pe_w hs hbase hline) ?_
  refine wE_mono (h σ H F mF ok) fun v H1 ⟨x, M1, o1, z, e1, hz, h1⟩ => ?_
  subst e1
  obtain rfl : v = .str z := o1.use fun _ _ y => y.1.str_inv
  refine ⟨⟨z, rfl⟩, wE_mono (h1 σ H1 F mF (o1.imp fun _ _ z => z.2)) fun u H2 ⟨d, M2, o2, y, e2, hy, q⟩ => ?_⟩
  subst e2
  obtain rfl : u = .str y := o2.use fun _ _ y => y.1.str_inv
  refine ⟨z, y, rfl, rfl, hy, hz, fun r hr => ?_⟩
  exact ⟨_, M2, ((o2.imp fun _ _ z => z.2).new (o := .lst _) (mono_x mF) hr).imp fun _ _ z => ⟨rp_lst z.1 rpl_strs, z.2⟩, q⟩
theorem we_startswith {apos : Pos} (h : WE Pm X o M ds fun x M1 => ∃ z, x = .str z ∧ WE Pm X e M1 ds fun d M2 => ∃ y : Str, d = .str y ∧ Q (.bl (Txt.startswith z y)) M2)
    (hs : starEach [e] X.env = [(false, eval e X.env)] := by rfl) (hbase : attributeBase o "startswith" X.env (eval o X.env) = eval o X.env := by rfl) (hline : (apos.endLine == pos.line) = true := by rfl) : WE Pm X (.Call (.Attribute o "startswith" apos) [e] [] pos) M ds Q := by
  intro σ H F mF ok
  refine wE_of (pe_m1 PySem.F.slot_str_startswith PySem.F.type_str_startswith mt_startswith pe_w pe_w hs hbase hline) ?_
  refine wE_mono (h σ H F mF ok) fun v H1 ⟨x, M1, o1, z, e1, h1⟩ => ?_
  subst e1
  obtain rfl : v = .str z := o1.use fun _ _ y => y.1.str_inv
  refine ⟨⟨z, rfl⟩, wE_mono (h1 σ H1 F mF (o1.imp fun _ _ z => z.2)) fun u H2 ⟨d, M2, o2, y, e2, q⟩ => ?_⟩
  subst e2
  obtain rfl : u = .str y := o2.use fun _ _ y => y.1.str_inv
  exact ⟨z, y, rfl, rfl, _, M2, o2.imp fun _ _ y => ⟨rp_bl, y.2⟩, q⟩
def subIn (i j : Str) : Bool := !(Builtin.Str.occurrences j i 0 j.length 1).isEmpty
theorem b_inS {i j : Str} (q : Q (.bl (subIn i j)) M) : BinG Pm X (compareOp .In) (.str i) (.str j) M Q := by
  intro v u H F mF ⟨G, s, hM, z1, z2, z3⟩
  exact wOp_of op_in_str ⟨i, j, z1.str_inv, z2.str_inv, _, M, ⟨G, s, hM, rp_bl, z3⟩, q⟩
theorem b_notinS {i j : Str} (q : Q (.bl (!subIn i j)) M) : BinG Pm X (compareOp .NotIn) (.str i) (.str j) M Q := by
  intro v u H F mF ⟨G, s, hM, z1, z2, z3⟩
  exact wOp_of op_notIn_str ⟨i, j, z1.str_inv, z2.str_inv, _, M, ⟨G, s, hM, rp_bl, z3⟩, q⟩
theorem ix_strD {z : Str} {i : Int} {c : Nat} (hz : z.length ≤ sizeLine) (h : atI z.cps.toList i = some c) (q : Q (.str ⟨#[c]⟩) M) : IxG Pm X (.str z) (.int i) M Q := by
  intro v u H F mF ⟨G, s, hM, z1, z2, z3⟩
  exact wIx_of ix_str ⟨z, i, c, z1.str_inv, z2.int_inv, hz, h, _, M, ⟨G, s, hM, rp_str, z3⟩, q⟩
theorem c_intS {z : Str} {n : Int} (h : PySem.intText? z = some n) (hl : z.length ≤ 640) (q : Q (.int n) M) : CallG Pm X (.type "int") [.str z] M Q := by
  intro vs H F mF ⟨G, s, hM, z1, z3⟩
  obtain ⟨v, rfl, r⟩ := z1.one_inv
  cases r.str_inv
  exact wCall_of call_int_str ⟨z, n, rfl, h, hl, _, M, ⟨G, s, hM, rp_int, z3⟩, q⟩
/-- for sign in a text -/
theorem wi_str {tg : Expr} {R : (n : Nat) → (Nat → D) → Mst → Prop} (h : WE Pm X e M ds fun d M1 => ∃ z : Str, d = .str z ∧ R z.cps.toList.length (fun i => .str ⟨#[z.cps.toList.getD i 0]⟩) M1) : WI Pm X tg e M ds R := by
  intro σ H F mF ok
  refine ⟨_, pi_str pe_w, fun R' k => ?_⟩
  refine wE_mono (h σ H F mF ok) fun v H1 ⟨d, M1, o1, z, e1, q⟩ => ?_
  subst e1
  obtain rfl : v = .str z := o1.use fun _ _ y => y.1.str_inv
  have hl : z.cps.toList.length = z.cps.size := by simp
  refine ⟨z, rfl, k _ _ z.cps.toList.length _ M1 (fun _ => True) ⟨fun _ _ _ z => z, fun i H G s y hi => ?_, fun H G s y => ?_, fun i H M F mF ok hi x H' y => ?_⟩ (o1.imp fun _ _ y => ⟨trivial, y.2⟩) q⟩
  · show i < z.cps.size
    omega
  · show z.cps.size ≤ z.cps.toList.length
    omega
  · obtain ⟨rfl, c, hc, rfl⟩ := y
    refine ok.imp fun _ _ y => ⟨?_, y⟩
    have e2 : z.cps.toList.getD i 0 = c := by
      rw [List.getD_eq_getElem?_getD, Array.getElem?_toList, hc]
      rfl
    rw [e2]
    exact rp_str
theorem CallG.mono {f : Value} {xs : List D} {Q' : QD} (h : CallG Pm X f xs M Q) (g : ∀ d M, Q d M → Q' d M) : CallG Pm X f xs M Q' := fun vs H F mF ok pins s σ us I rv =>
  thn (h vs H F mF ok pins s σ us I rv) fun u s' ⟨v, H', a, b, d, M1, o, q⟩ => ⟨v, H', a, b, d, M1, o, g _ _ q⟩
/-! ### xs * k that will be changed -/
theorem b_mulLM {xs : List D} {k : Int} (h1 : -(2 ^ 63) ≤ k) (h2 : k < 2 ^ 63) (hz : xs.length * k.toNat ≤ sizeLine) (q : ∀ r, M r = none → Q (.raw (.ref r)) (updM M r (.lst (List.replicate k.toNat xs).flatten))) : BinG Pm X (binaryOp .Mult) (.lst xs) (.int k) M Q := by
  intro v u H F mF ok
  obtain ⟨G, s, hM, z1, z2, z3⟩ := id ok
  obtain ⟨p, vs, rfl, g1, g2⟩ := z1.lst_inv
  refine wOp_of op_rep ⟨p, k, vs, rfl, z2.int_inv, s.at g1, h1, h2, by rw [g2.length]; exact hz, fun r hr => ?_⟩
  have ok2 : Ok X.K M (fun G => RpL X.K G xs vs ∧ F G) H := ⟨G, s, hM, g2, z3⟩
  exact ⟨_, _, (ok2.newM (o := .lst _) (d := .lst (List.replicate k.toNat xs).flatten) hr fun _ _ z => ⟨_, rfl, z.1.replicate _⟩).imp fun _ _ z => ⟨rp_raw, z.2⟩, q r (ok.free hr)⟩
/-! ### freezing -/
/-- a mutable list is frozen; the slot i, that holds it somewhere within, tells it as data -/
theorem wss_freezeIn {st : List Stmt} (i : Nat) {p : Addr} {xs : List D} {d d' : D} (hi : ds[i]? = some (some d)) (hp : M p = some (.lst xs)) (conv : ∀ G v, Rp X.K G (.lst xs) (.ref p) → Rp X.K G d v → Rp X.K G d' v) (h : WSs Pm X st (delM M p) (ds.set i (some d')) Dn) : WSs Pm X st M ds Dn := by
  intro σ H F mF ok
  obtain ⟨vs, hH⟩ : ∃ vs, H p = some (.lst vs) := (ok.getM hp).use fun G _ z => let ⟨vs, a, _⟩ := z.1; ⟨vs, a⟩
  have ok2 := ok.freeze (mono_x mF) hp hH
  obtain ⟨v, hv⟩ : ∃ v, σ[i]? = some (some v) := ok.use fun G _ z => let ⟨v, a, _⟩ := z.1.get hi; ⟨v, a⟩
  refine h σ H F mF (ok2.imp fun G _ z => ⟨?_, z.2.2.2⟩)
  obtain ⟨g1, ⟨ws, e, r⟩, g2, _⟩ := z
  cases e
  obtain ⟨v', e1, e2⟩ := g2.get hi
  rw [hv] at e1
  cases e1
  have := EnvR.set (conv G v (rp_lst g1 r) e2) i g2
  have e2 : σ.set i (some v) = σ := by
    apply List.ext_getElem?
    intro j
    by_cases hj : i = j
    · subst hj
      obtain ⟨hl, _⟩ := List.getElem?_eq_some_iff.mp hv
      rw [List.getElem?_set_self hl, hv]
    · rw [List.getElem?_set_ne hj]
  rw [e2] at this
  exact this
/-! ### names as targets -/
theorem pgN {i : Nat} {x : Str} (hN : X.N.Nodup) (hi : X.N[i]? = some x) (hx : Loc X.env.scope x := by first | exact Or.inl rfl | exact Or.inr rfl) (hf : X.fn x = true ∨ X.env.scope.names.lookup x = some .local := by first | exact .inl rfl | exact .inr rfl) : PG X (.Name x pos) (gName i) := pg_name hN hi hx hf
end
/-! ### a def with keyword-only parameters, called by keywords -/
structure CalK (P : Program) (w : World) (K : PySem.W.Frag) (mg : Str → Option Value) (base : Heap) (k : Nat) (x : Str) (n : Nat) (ks : List Str) (gD : List D → List D → List D) (sp : SpD) : Prop where
  ex : ∃ (f : Addr) (fd : FuncData) (ps : List Str) (g : List Value → List Value → List Value) (gV : List V → List V → List V), FnOk P w K mg base CX0 k f fd ps (toSp K sp) ∧ mg x = some (.ref f) ∧ PySem.W.keepIn K (.ref f) = true ∧ KBn K fd ps n ks g gV ∧
    ∀ G vs zs xs ys, xs.length = n → ys.length = ks.length → RpL K G xs vs → RpL K G ys zs → RpL K G (gD xs ys) (gV vs zs)
section
variable {X : Cx} {Pm : Hp → Prop} {M : Mst} {ds : Ds} {Q : QD} {pos p kp1 kp2 : Pos} {a b e : Expr} {j k : Nat} {x k1 k2 : Str} {sp : SpD} {gD : List D → List D → List D}
theorem we_calK1 (g : CalK X.prog X.w X.K X.mg X.base k x 1 [k1] gD sp) (hr : Room j X.A) (hk : k ≤ j) (h : WE Pm X e M ds fun y M1 => WE Pm X a M1 ds fun z M2 => sp (gD [y] [z]) M2 Q) (hg : Gl X x := by rfl)
    (hall : (backToKw pos (keywordEach [⟨some k1, a, kp1⟩] X.env)).all (·.1.isSome) = true := by rfl) (hks : (backToKw pos (keywordEach [⟨some k1, a, kp1⟩] X.env)).filterMap (·.1) = [k1] := by rfl) (hdb : (x == ("__debug__" : Str)) = false := by decide)
    (he : starEach [e] X.env = (false, eval e X.env) :: starEach [] X.env := by rfl)
    (hpl : ((backTo pos (starEach [e] X.env)).any (·.1) || (backToKw pos (keywordEach [⟨some k1, a, kp1⟩] X.env)).any (·.1.isNone)) = false := by rfl) : WE Pm X (.Call (.Name x p) [e] [⟨some k1, a, kp1⟩] pos) M ds Q := by
  intro σ H F mF ok
  obtain ⟨f, fd, ps, g, gV, F1, hm, kp, hb, hG⟩ := g.ex
  refine wE_of (pe_callN (E := fun _ _ _ => False) F1 (hr.mono hk) hg hm kp hb pass0 (pa_cons pe_w pa_nil he) (pk_cons pe_w pk_nil) hall hks hdb he hpl) ?_
  refine run2 mF ok h fun v u H2 y z M2 ok2 q => ⟨rfl, rfl, ?_⟩
  exact ⟨_, M2, (fun G => EnvR X.K G ds σ ∧ F G), Q, (mono_x mF).m, ok2.imp fun G _ z => ⟨hG G _ _ _ _ rfl rfl (RpL.cons z.1 RpL.nil) (RpL.cons z.2.1 RpL.nil), z.2.2⟩, q, fun v H' z => z⟩
theorem we_calK2 (g : CalK X.prog X.w X.K X.mg X.base k x 1 [k1, k2] gD sp) (hr : Room j X.A) (hk : k ≤ j) (h : WE Pm X e M ds fun y M1 => WE Pm X a M1 ds fun z M2 => WE Pm X b M2 ds fun u M3 => sp (gD [y] [z, u]) M3 Q) (hg : Gl X x := by rfl)
    (hall : (backToKw pos (keywordEach [⟨some k1, a, kp1⟩, ⟨some k2, b, kp2⟩] X.env)).all (·.1.isSome) = true := by rfl) (hks : (backToKw pos (keywordEach [⟨some k1, a, kp1⟩, ⟨some k2, b, kp2⟩] X.env)).filterMap (·.1) = [k1, k2] := by rfl) (hdb : (x == ("__debug__" : Str)) = false := by decide)
    (he : starEach [e] X.env = (false, eval e X.env) :: starEach [] X.env := by rfl)
    (hpl : ((backTo pos (starEach [e] X.env)).any (·.1) || (backToKw pos (keywordEach [⟨some k1, a, kp1⟩, ⟨some k2, b, kp2⟩] X.env)).any (·.1.isNone)) = false := by rfl) : WE Pm X (.Call (.Name x p) [e] [⟨some k1, a, kp1⟩, ⟨some k2, b, kp2⟩] pos) M ds Q := by
  intro σ H F mF ok
  obtain ⟨f, fd, ps, g, gV, F1, hm, kp, hb, hG⟩ := g.ex
  refine wE_of (pe_callN (E := fun _ _ _ => False) F1 (hr.mono hk) hg hm kp hb pass0 (pa_cons pe_w pa_nil he) (pk_cons pe_w (pk_cons pe_w pk_nil)) hall hks hdb he hpl) ?_
  refine wE_mono (h σ H F mF ok) fun v1 H1 ⟨y, M1, o1, h1⟩ => ?_
  refine run2 (F := fun G => Rp X.K G y v1 ∧ F G) (mono_rp.and mF) (o1.imp fun _ _ ⟨p, q, r⟩ => ⟨q, p, r⟩) h1 fun v u H2 z w M2 ok2 q => ⟨rfl, rfl, ?_⟩
  exact ⟨_, M2, (fun G => EnvR X.K G ds σ ∧ F G), Q, (mono_x mF).m, ok2.imp fun G _ z => ⟨hG G _ _ _ _ rfl rfl (RpL.cons z.2.2.2.1 RpL.nil) (RpL.cons z.1 (RpL.cons z.2.1 RpL.nil)), z.2.2.1, z.2.2.2.2⟩, q, fun v H' z => z⟩
end
/-! a class's __init__ from its body -/
section
variable {P : Program} {w : World} {K : PySem.W.Frag} {mg : Str → Option Value} {base : Heap}
theorem mak_of {d : He.DefD} {N ps : List Str} {k : Nat} {sp : SpD} {C : Addr} {x : Str} (hd : d.dfl = []) (hf : ∃ fd, FunD K d.name d.qual d.params d.body d.scope (d.dvs K) (d.kws K) (He.fAd K d.at_) fd) (mk : Mk K C (He.fAd K d.at_)) (hm : mg x = some (.ref C)) (S : FnScope N ps d.scope) (len : ∀ xs M Q, sp xs M Q → xs.length = ps.length)
    (hbi : ∀ (kV doc pm : Value) (an : Option Addr) (cdv ct : Value) (us : List Value), us.length = ps.length → bindArgs (PySem.W.fnOf d.name d.qual d.params d.body d.scope .none kV doc pm an cdv ct) ⟨us, []⟩ = pure (ps.zip us))
    (hb : ∀ (cdv : Value) (A : Around) (outer : List Env) (s : Shared) (H : Hp) (E : XK), Room k (cx0 P w K mg base N d.qual d.scope (He.fAd K d.at_) cdv A outer s H E).A → ∀ xs M Q, sp xs M Q →
      WSs PmT (cx0 P w K mg base N d.qual d.scope (He.fAd K d.at_) cdv A outer s H E) d.body M (xs.map some ++ List.replicate (N.length - ps.length) none) { nx := fun _ M' => Q .non M', rt := Q }) : MakD P w K mg base (k + 1) x C sp [] := by
  obtain ⟨fd, F⟩ := hf
  have F' : FunD K d.name d.qual d.params d.body d.scope [] (d.kws K) (He.fAd K d.at_) fd := by
    have e : d.dvs K = [] := by unfold He.DefD.dvs; rw [hd]; rfl
    rw [← e]; exact F
  exact ⟨_, fd, ps, [], [], fnD F S len hb, mk, hm, F'.bindsN hbi, .nil, fun _ => RpL.nil⟩
theorem mkEnd_of {C q : Addr} {M : Mst} {d : D} {fs : List (Str × D)} {Q : QD} (hq : M q = none) (h : Q (.obj C fs) M) : MkEnd C q Q .non (updM (updM M q d) q (.obj C fs)) := by
  rw [updM_updM]
  refine ⟨rfl, _, updM_same, ?_⟩
  rw [delM_updM' hq]
  exact h
end
end DL

namespace K03
open PySem PySem.Spec PyProof.Rows L2
def top (i : Nat) : Stmt := PySem.Challenge.pw_ringsallow_k03_rows_moved_are_a_group.main.body.getD i (.Pass ⟨0, 0, 0, 0⟩)
def clsBody : Stmt → List Stmt
  | .ClassDef _ _ _ b _ _ _ _ _ _ _ => b
  | _ => []
def mth (i j : Nat) : Stmt := (clsBody (top i)).getD j (.Pass ⟨0, 0, 0, 0⟩)
abbrev s__kept : Stmt := top 2
def d__kept : He.DefD := ⟨("_kept", none), "_kept", "_kept", defArgs s__kept, defBody s__kept, defScope s__kept, [], []⟩
abbrev s_BadRow___init__ : Stmt := mth 3 0
def d_BadRow___init__ : He.DefD := ⟨("BadRow", some "__init__"), "__init__", "BadRow.__init__", defArgs s_BadRow___init__, defBody s_BadRow___init__, defScope s_BadRow___init__, [], []⟩
abbrev s_is_name : Stmt := top 8
def d_is_name : He.DefD := ⟨("is_name", none), "is_name", "is_name", defArgs s_is_name, defBody s_is_name, defScope s_is_name, [], []⟩
abbrev s_is_number : Stmt := top 9
def d_is_number : He.DefD := ⟨("is_number", none), "is_number", "is_number", defArgs s_is_number, defBody s_is_number, defScope s_is_number, [], [("least", .int 0), ("digits", .int 9)]⟩
abbrev s_is_time : Stmt := top 10
def d_is_time : He.DefD := ⟨("is_time", none), "is_time", "is_time", defArgs s_is_time, defBody s_is_time, defScope s_is_time, [], []⟩
abbrev s_shortest_round : Stmt := top 12
def d_shortest_round : He.DefD := ⟨("shortest_round", none), "shortest_round", "shortest_round", defArgs s_shortest_round, defBody s_shortest_round, defScope s_shortest_round, [], []⟩
abbrev s_turned_round : Stmt := top 13
def d_turned_round : He.DefD := ⟨("turned_round", none), "turned_round", "turned_round", defArgs s_turned_round, defBody s_turned_round, defScope s_turned_round, [], []⟩
abbrev s_Writing___init__ : Stmt := mth 14 0
def d_Writing___init__ : He.DefD := ⟨("Writing", some "__init__"), "__init__", "Writing.__init__", defArgs s_Writing___init__, defBody s_Writing___init__, defScope s_Writing___init__, [], []⟩
abbrev s_Writing_arrow_at : Stmt := mth 14 1
def d_Writing_arrow_at : He.DefD := ⟨("Writing", some "arrow_at"), "arrow_at", "Writing.arrow_at", defArgs s_Writing_arrow_at, defBody s_Writing_arrow_at, defScope s_Writing_arrow_at, [], []⟩
abbrev s_Writing_stretch : Stmt := mth 14 2
def d_Writing_stretch : He.DefD := ⟨("Writing", some "stretch"), "stretch", "Writing.stretch", defArgs s_Writing_stretch, defBody s_Writing_stretch, defScope s_Writing_stretch, [], []⟩
abbrev s_Writing_right_begin : Stmt := mth 14 3
def d_Writing_right_begin : He.DefD := ⟨("Writing", some "right_begin"), "right_begin", "Writing.right_begin", defArgs s_Writing_right_begin, defBody s_Writing_right_begin, defScope s_Writing_right_begin, [], []⟩
abbrev s_Writing_left_end : Stmt := mth 14 4
def d_Writing_left_end : He.DefD := ⟨("Writing", some "left_end"), "left_end", "Writing.left_end", defArgs s_Writing_left_end, defBody s_Writing_left_end, defScope s_Writing_left_end, [], []⟩
abbrev s_least_writing : Stmt := top 15
def d_least_writing : He.DefD := ⟨("least_writing", none), "least_writing", "least_writing", defArgs s_least_writing, defBody s_least_writing, defScope s_least_writing, [], []⟩
abbrev s_Row___init__ : Stmt := mth 17 0
def d_Row___init__ : He.DefD := ⟨("Row", some "__init__"), "__init__", "Row.__init__", defArgs s_Row___init__, defBody s_Row___init__, defScope s_Row___init__, [], []⟩
abbrev s_Row___eq__ : Stmt := mth 17 1
def d_Row___eq__ : He.DefD := ⟨("Row", some "__eq__"), "__eq__", "Row.__eq__", defArgs s_Row___eq__, defBody s_Row___eq__, defScope s_Row___eq__, [], []⟩
abbrev s_Row___str__ : Stmt := mth 17 2
def d_Row___str__ : He.DefD := ⟨("Row", some "__str__"), "__str__", "Row.__str__", defArgs s_Row___str__, defBody s_Row___str__, defScope s_Row___str__, [], []⟩
abbrev s_Row_arrow : Stmt := mth 17 3
def d_Row_arrow : He.DefD := ⟨("Row", some "arrow"), "arrow", "Row.arrow", defArgs s_Row_arrow, defBody s_Row_arrow, defScope s_Row_arrow, [], []⟩
abbrev s_Row_part : Stmt := mth 17 4
def d_Row_part : He.DefD := ⟨("Row", some "part"), "part", "Row.part", defArgs s_Row_part, defBody s_Row_part, defScope s_Row_part, [], []⟩
abbrev s_Row_moved : Stmt := mth 17 5
def d_Row_moved : He.DefD := ⟨("Row", some "moved"), "moved", "Row.moved", defArgs s_Row_moved, defBody s_Row_moved, defScope s_Row_moved, [], []⟩
abbrev s_Row_listed : Stmt := mth 17 6
def d_Row_listed : He.DefD := ⟨("Row", some "listed"), "listed", "Row.listed", defArgs s_Row_listed, defBody s_Row_listed, defScope s_Row_listed, [], []⟩
abbrev s_Row_text : Stmt := mth 17 7
def d_Row_text : He.DefD := ⟨("Row", some "text"), "text", "Row.text", defArgs s_Row_text, defBody s_Row_text, defScope s_Row_text, [], []⟩
abbrev s_ring_row : Stmt := top 18
def d_ring_row : He.DefD := ⟨("ring_row", none), "ring_row", "ring_row", defArgs s_ring_row, defBody s_ring_row, defScope s_ring_row, [], []⟩
abbrev s_ended_row : Stmt := top 19
def d_ended_row : He.DefD := ⟨("ended_row", none), "ended_row", "ended_row", defArgs s_ended_row, defBody s_ended_row, defScope s_ended_row, [.int 0], []⟩
abbrev s__read_round : Stmt := top 20
def d__read_round : He.DefD := ⟨("_read_round", none), "_read_round", "_read_round", defArgs s__read_round, defBody s__read_round, defScope s__read_round, [], []⟩
abbrev s__read_start : Stmt := top 21
def d__read_start : He.DefD := ⟨("_read_start", none), "_read_start", "_read_start", defArgs s__read_start, defBody s__read_start, defScope s__read_start, [], []⟩
abbrev s_read_row : Stmt := top 22
def d_read_row : He.DefD := ⟨("read_row", none), "read_row", "read_row", defArgs s_read_row, defBody s_read_row, defScope s_read_row, [], []⟩
abbrev s__law_bag : Stmt := top 24
def d__law_bag : He.DefD := ⟨("_law_bag", none), "_law_bag", "_law_bag", defArgs s__law_bag, defBody s__law_bag, defScope s__law_bag, [], []⟩
abbrev s__law_take : Stmt := top 25
def d__law_take : He.DefD := ⟨("_law_take", none), "_law_take", "_law_take", defArgs s__law_take, defBody s__law_take, defScope s__law_take, [], []⟩
abbrev s__law_pick : Stmt := top 26
def d__law_pick : He.DefD := ⟨("_law_pick", none), "_law_pick", "_law_pick", defArgs s__law_pick, defBody s__law_pick, defScope s__law_pick, [], []⟩
abbrev s__law_int : Stmt := top 27
def d__law_int : He.DefD := ⟨("_law_int", none), "_law_int", "_law_int", defArgs s__law_int, defBody s__law_int, defScope s__law_int, [], []⟩
abbrev s__law_truth : Stmt := top 28
def d__law_truth : He.DefD := ⟨("_law_truth", none), "_law_truth", "_law_truth", defArgs s__law_truth, defBody s__law_truth, defScope s__law_truth, [], []⟩
abbrev s__law_at : Stmt := top 29
def d__law_at : He.DefD := ⟨("_law_at", none), "_law_at", "_law_at", defArgs s__law_at, defBody s__law_at, defScope s__law_at, [], []⟩
abbrev s__law_made : Stmt := top 30
def d__law_made : He.DefD := ⟨("_law_made", none), "_law_made", "_law_made", defArgs s__law_made, defBody s__law_made, defScope s__law_made, [], []⟩
abbrev s__law_primitive : Stmt := top 31
def d__law_primitive : He.DefD := ⟨("_law_primitive", none), "_law_primitive", "_law_primitive", defArgs s__law_primitive, defBody s__law_primitive, defScope s__law_primitive, [], []⟩
abbrev s__law_least : Stmt := top 32
def d__law_least : He.DefD := ⟨("_law_least", none), "_law_least", "_law_least", defArgs s__law_least, defBody s__law_least, defScope s__law_least, [], []⟩
abbrev s__law_text : Stmt := top 33
def d__law_text : He.DefD := ⟨("_law_text", none), "_law_text", "_law_text", defArgs s__law_text, defBody s__law_text, defScope s__law_text, [], []⟩
abbrev s__law_row : Stmt := top 34
def d__law_row : He.DefD := ⟨("_law_row", none), "_law_row", "_law_row", defArgs s__law_row, defBody s__law_row, defScope s__law_row, [], []⟩
abbrev s__law_moved : Stmt := top 35
def d__law_moved : He.DefD := ⟨("_law_moved", none), "_law_moved", "_law_moved", defArgs s__law_moved, defBody s__law_moved, defScope s__law_moved, [], []⟩
abbrev s__law_equal : Stmt := top 36
def d__law_equal : He.DefD := ⟨("_law_equal", none), "_law_equal", "_law_equal", defArgs s__law_equal, defBody s__law_equal, defScope s__law_equal, [], []⟩
abbrev s__law_alike : Stmt := top 37
def d__law_alike : He.DefD := ⟨("_law_alike", none), "_law_alike", "_law_alike", defArgs s__law_alike, defBody s__law_alike, defScope s__law_alike, [], []⟩
abbrev s__law_whole : Stmt := top 38
def d__law_whole : He.DefD := ⟨("_law_whole", none), "_law_whole", "_law_whole", defArgs s__law_whole, defBody s__law_whole, defScope s__law_whole, [], []⟩
abbrev s__law_written : Stmt := top 39
def d__law_written : He.DefD := ⟨("_law_written", none), "_law_written", "_law_written", defArgs s__law_written, defBody s__law_written, defScope s__law_written, [], []⟩
abbrev s__law_bent : Stmt := top 40
def d__law_bent : He.DefD := ⟨("_law_bent", none), "_law_bent", "_law_bent", defArgs s__law_bent, defBody s__law_bent, defScope s__law_bent, [], []⟩
abbrev s__law_group : Stmt := top 41
def d__law_group : He.DefD := ⟨("_law_group", none), "_law_group", "_law_group", defArgs s__law_group, defBody s__law_group, defScope s__law_group, [], []⟩
abbrev s_law : Stmt := top 42
def d_law : He.DefD := ⟨("law", none), "law", "law", defArgs s_law, defBody s_law, defScope s_law, [], []⟩
def fn0 : List He.DefD := [d__kept, d_BadRow___init__, d_is_name, d_is_number, d_is_time, d_shortest_round, d_turned_round, d_Writing___init__, d_Writing_arrow_at, d_Writing_stretch, d_Writing_right_begin, d_Writing_left_end, d_least_writing, d_Row___init__, d_Row___eq__, d_Row___str__, d_Row_arrow, d_Row_part, d_Row_moved, d_Row_listed, d_Row_text, d_ring_row, d_ended_row, d__read_round, d__read_start, d_read_row, d__law_bag, d__law_take, d__law_pick, d__law_int]
def fn1 : List He.DefD := [d__law_truth, d__law_at, d__law_made, d__law_primitive, d__law_least, d__law_text, d__law_row, d__law_moved, d__law_equal, d__law_alike, d__law_whole, d__law_written, d__law_bent, d__law_group, d_law]
def fn : List He.DefD := fn0 ++ fn1
def fa0 : List He.Fa := [.glo "RingError", .glo "_kept", .glo "BadRow", .glo "is_name", .glo "is_number", .glo "is_time", .glo "shortest_round", .glo "turned_round", .glo "Writing", .glo "least_writing", .glo "Row", .glo "ring_row", .glo "ended_row", .glo "_read_round", .glo "_read_start", .glo "read_row", .glo "_law_bag", .glo "_law_take", .glo "_law_pick", .glo "_law_int", .glo "_law_truth", .glo "_law_at", .glo "_law_made", .glo "_law_primitive", .glo "_law_least", .glo "_law_text", .glo "_law_row", .glo "_law_moved", .glo "_law_equal", .glo "_law_alike"]
def fa1 : List He.Fa := [.glo "_law_whole", .glo "_law_written", .glo "_law_bent", .glo "_law_group", .glo "law", .free "ValueError", .free "abs", .free "bool", .free "dict", .free "int", .free "isinstance", .free "len", .free "list", .free "max", .free "min", .free "range", .free "str", .free "tuple", .meth "BadRow" "__init__", .noat "BadRow" "at", .cls "Writing", .mkr "Writing", .meth "Writing" "__init__", .meth "Writing" "arrow_at", .meth "Writing" "stretch", .meth "Writing" "right_begin", .meth "Writing" "left_end", .noat "Writing" "end", .noat "Writing" "left", .noat "Writing" "middle"]
def fa2 : List He.Fa := [.noat "Writing" "right", .noat "Writing" "start", .cls "Row", .mkr "Row", .meth "Row" "__init__", .meth "Row" "__eq__", .meth "Row" "__str__", .meth "Row" "arrow", .meth "Row" "part", .meth "Row" "moved", .meth "Row" "listed", .meth "Row" "text", .noat "Row" "left", .noat "Row" "middle", .noat "Row" "right", .noat "Row" "ring", .noat "Row" "start"]
def fa : List He.Fa := fa0 ++ fa1 ++ fa2
def lo0 : List Str := ["__name__", "RingError", "_kept", "BadRow", "FIRST_SIGNS", "LATER_SIGNS", "DIGITS", "is_name", "is_number", "is_time", "shortest_round", "turned_round", "Writing", "least_writing", "Row", "ring_row", "ended_row", "_read_round", "_read_start", "read_row", "_law_bag", "_law_take", "_law_pick", "_law_int", "_law_truth", "_law_at", "_law_made", "_law_primitive", "_law_least", "_law_text"]
def lo1 : List Str := ["_law_row", "_law_moved", "_law_equal", "_law_alike", "_law_whole", "_law_written", "_law_bent", "_law_group"]
def loose : List Str := lo0 ++ lo1
def exL (K : PySem.W.Frag) : List Bool := [DL.cstS K "FIRST_SIGNS" "abcdefghijklmnopqrstuvwxyz0123456789[", DL.cstS K "LATER_SIGNS" "abcdefghijklmnopqrstuvwxyz0123456789[]|+/~:.", DL.cstS K "DIGITS" "0123456789", DL.oexB K (He.ga K "BadRow"), xfB K (He.ga K "BadRow"), DL.insB K (He.ga K "Writing"), DL.neB K (He.ga K "Row") (He.ma K (He.ga K "Row") "__eq__"), DL.insB K (He.ga K "Row")]
def extra (K : PySem.W.Frag) : Bool := (exL K).all id
theorem ex_cst_FIRST_SIGNS {K : PySem.W.Frag} (h : extra K = true) : DL.cstS K "FIRST_SIGNS" "abcdefghijklmnopqrstuvwxyz0123456789[" = true := List.all_eq_true.mp h _ (List.mem_of_getElem? (i := 0) rfl)
theorem ex_cst_LATER_SIGNS {K : PySem.W.Frag} (h : extra K = true) : DL.cstS K "LATER_SIGNS" "abcdefghijklmnopqrstuvwxyz0123456789[]|+/~:." = true := List.all_eq_true.mp h _ (List.mem_of_getElem? (i := 1) rfl)
theorem ex_cst_DIGITS {K : PySem.W.Frag} (h : extra K = true) : DL.cstS K "DIGITS" "0123456789" = true := List.all_eq_true.mp h _ (List.mem_of_getElem? (i := 2) rfl)
theorem ex_oex_BadRow {K : PySem.W.Frag} (h : extra K = true) : DL.oexB K (He.ga K "BadRow") = true := List.all_eq_true.mp h _ (List.mem_of_getElem? (i := 3) rfl)
theorem ex_xf_BadRow {K : PySem.W.Frag} (h : extra K = true) : xfB K (He.ga K "BadRow") = true := List.all_eq_true.mp h _ (List.mem_of_getElem? (i := 4) rfl)
theorem ex_ins_Writing {K : PySem.W.Frag} (h : extra K = true) : DL.insB K (He.ga K "Writing") = true := List.all_eq_true.mp h _ (List.mem_of_getElem? (i := 5) rfl)
theorem ex_ne_Row {K : PySem.W.Frag} (h : extra K = true) : DL.neB K (He.ga K "Row") (He.ma K (He.ga K "Row") "__eq__") = true := List.all_eq_true.mp h _ (List.mem_of_getElem? (i := 6) rfl)
theorem ex_ins_Row {K : PySem.W.Frag} (h : extra K = true) : DL.insB K (He.ga K "Row") = true := List.all_eq_true.mp h _ (List.mem_of_getElem? (i := 7) rfl)
abbrev R : PySem.W.OpenRow := PySem.W.OpenLaw.row PySem.Challenge.rw_ringsallow_k03_rows_moved_are_a_group
abbrev hk : PySem.W.Hook := DL.hookX 6 fa fn extra
def ob (s : PySem.W.SharedT) : Bool × He.AlD := DL.obsXG 6 fa fn extra (HandSHeadRun.getT s)
theorem ob_eq (s : PySem.W.SharedT) : ob s = hk.obs s.abs := DL.obsXG_eq (HandSHeadRun.getT_eq s)
abbrev vw : Program := PySem.W.view R.prog [42]
theorem run (w : World) : HandSHeadRun.RunEq R vw hk ob 4000 loose w := by
  intro os
  kernel_rfl
abbrev lawDef : DefRec := HandSHeadRun.topDef R.prog 42
/-! places -/
theorem fd__kept {K : PySem.W.Frag} (c : He.SaysD fa fn K) : ∃ fd, FunD K d__kept.name d__kept.qual d__kept.params d__kept.body d__kept.scope (d__kept.dvs K) (d__kept.kws K) (He.fAd K d__kept.at_) fd := c.def_ 0 (d := d__kept) rfl
theorem fd_BadRow___init__ {K : PySem.W.Frag} (c : He.SaysD fa fn K) : ∃ fd, FunD K d_BadRow___init__.name d_BadRow___init__.qual d_BadRow___init__.params d_BadRow___init__.body d_BadRow___init__.scope (d_BadRow___init__.dvs K) (d_BadRow___init__.kws K) (He.fAd K d_BadRow___init__.at_) fd := c.def_ 1 (d := d_BadRow___init__) rfl
theorem fd_is_name {K : PySem.W.Frag} (c : He.SaysD fa fn K) : ∃ fd, FunD K d_is_name.name d_is_name.qual d_is_name.params d_is_name.body d_is_name.scope (d_is_name.dvs K) (d_is_name.kws K) (He.fAd K d_is_name.at_) fd := c.def_ 2 (d := d_is_name) rfl
theorem fd_is_number {K : PySem.W.Frag} (c : He.SaysD fa fn K) : ∃ fd, FunD K d_is_number.name d_is_number.qual d_is_number.params d_is_number.body d_is_number.scope (d_is_number.dvs K) (d_is_number.kws K) (He.fAd K d_is_number.at_) fd := c.def_ 3 (d := d_is_number) rfl
theorem fd_is_time {K : PySem.W.Frag} (c : He.SaysD fa fn K) : ∃ fd, FunD K d_is_time.name d_is_time.qual d_is_time.params d_is_time.body d_is_time.scope (d_is_time.dvs K) (d_is_time.kws K) (He.fAd K d_is_time.at_) fd := c.def_ 4 (d := d_is_time) rfl
theorem fd_shortest_round {K : PySem.W.Frag} (c : He.SaysD fa fn K) : ∃ fd, FunD K d_shortest_round.name d_shortest_round.qual d_shortest_round.params d_shortest_round.body d_shortest_round.scope (d_shortest_round.dvs K) (d_shortest_round.kws K) (He.fAd K d_shortest_round.at_) fd := c.def_ 5 (d := d_shortest_round) rfl
theorem fd_turned_round {K : PySem.W.Frag} (c : He.SaysD fa fn K) : ∃ fd, FunD K d_turned_round.name d_turned_round.qual d_turned_round.params d_turned_round.body d_turned_round.scope (d_turned_round.dvs K) (d_turned_round.kws K) (He.fAd K d_turned_round.at_) fd := c.def_ 6 (d := d_turned_round) rfl
theorem fd_Writing___init__ {K : PySem.W.Frag} (c : He.SaysD fa fn K) : ∃ fd, FunD K d_Writing___init__.name d_Writing___init__.qual d_Writing___init__.params d_Writing___init__.body d_Writing___init__.scope (d_Writing___init__.dvs K) (d_Writing___init__.kws K) (He.fAd K d_Writing___init__.at_) fd := c.def_ 7 (d := d_Writing___init__) rfl
theorem fd_Writing_arrow_at {K : PySem.W.Frag} (c : He.SaysD fa fn K) : ∃ fd, FunD K d_Writing_arrow_at.name d_Writing_arrow_at.qual d_Writing_arrow_at.params d_Writing_arrow_at.body d_Writing_arrow_at.scope (d_Writing_arrow_at.dvs K) (d_Writing_arrow_at.kws K) (He.fAd K d_Writing_arrow_at.at_) fd := c.def_ 8 (d := d_Writing_arrow_at) rfl
theorem fd_Writing_stretch {K : PySem.W.Frag} (c : He.SaysD fa fn K) : ∃ fd, FunD K d_Writing_stretch.name d_Writing_stretch.qual d_Writing_stretch.params d_Writing_stretch.body d_Writing_stretch.scope (d_Writing_stretch.dvs K) (d_Writing_stretch.kws K) (He.fAd K d_Writing_stretch.at_) fd := c.def_ 9 (d := d_Writing_stretch) rfl
theorem fd_Writing_right_begin {K : PySem.W.Frag} (c : He.SaysD fa fn K) : ∃ fd, FunD K d_Writing_right_begin.name d_Writing_right_begin.qual d_Writing_right_begin.params d_Writing_right_begin.body d_Writing_right_begin.scope (d_Writing_right_begin.dvs K) (d_Writing_right_begin.kws K) (He.fAd K d_Writing_right_begin.at_) fd := c.def_ 10 (d := d_Writing_right_begin) rfl
theorem fd_Writing_left_end {K : PySem.W.Frag} (c : He.SaysD fa fn K) : ∃ fd, FunD K d_Writing_left_end.name d_Writing_left_end.qual d_Writing_left_end.params d_Writing_left_end.body d_Writing_left_end.scope (d_Writing_left_end.dvs K) (d_Writing_left_end.kws K) (He.fAd K d_Writing_left_end.at_) fd := c.def_ 11 (d := d_Writing_left_end) rfl
theorem fd_least_writing {K : PySem.W.Frag} (c : He.SaysD fa fn K) : ∃ fd, FunD K d_least_writing.name d_least_writing.qual d_least_writing.params d_least_writing.body d_least_writing.scope (d_least_writing.dvs K) (d_least_writing.kws K) (He.fAd K d_least_writing.at_) fd := c.def_ 12 (d := d_least_writing) rfl
theorem fd_Row___init__ {K : PySem.W.Frag} (c : He.SaysD fa fn K) : ∃ fd, FunD K d_Row___init__.name d_Row___init__.qual d_Row___init__.params d_Row___init__.body d_Row___init__.scope (d_Row___init__.dvs K) (d_Row___init__.kws K) (He.fAd K d_Row___init__.at_) fd := c.def_ 13 (d := d_Row___init__) rfl
theorem fd_Row___eq__ {K : PySem.W.Frag} (c : He.SaysD fa fn K) : ∃ fd, FunD K d_Row___eq__.name d_Row___eq__.qual d_Row___eq__.params d_Row___eq__.body d_Row___eq__.scope (d_Row___eq__.dvs K) (d_Row___eq__.kws K) (He.fAd K d_Row___eq__.at_) fd := c.def_ 14 (d := d_Row___eq__) rfl
theorem fd_Row___str__ {K : PySem.W.Frag} (c : He.SaysD fa fn K) : ∃ fd, FunD K d_Row___str__.name d_Row___str__.qual d_Row___str__.params d_Row___str__.body d_Row___str__.scope (d_Row___str__.dvs K) (d_Row___str__.kws K) (He.fAd K d_Row___str__.at_) fd := c.def_ 15 (d := d_Row___str__) rfl
theorem fd_Row_arrow {K : PySem.W.Frag} (c : He.SaysD fa fn K) : ∃ fd, FunD K d_Row_arrow.name d_Row_arrow.qual d_Row_arrow.params d_Row_arrow.body d_Row_arrow.scope (d_Row_arrow.dvs K) (d_Row_arrow.kws K) (He.fAd K d_Row_arrow.at_) fd := c.def_ 16 (d := d_Row_arrow) rfl
theorem fd_Row_part {K : PySem.W.Frag} (c : He.SaysD fa fn K) : ∃ fd, FunD K d_Row_part.name d_Row_part.qual d_Row_part.params d_Row_part.body d_Row_part.scope (d_Row_part.dvs K) (d_Row_part.kws K) (He.fAd K d_Row_part.at_) fd := c.def_ 17 (d := d_Row_part) rfl
theorem fd_Row_moved {K : PySem.W.Frag} (c : He.SaysD fa fn K) : ∃ fd, FunD K d_Row_moved.name d_Row_moved.qual d_Row_moved.params d_Row_moved.body d_Row_moved.scope (d_Row_moved.dvs K) (d_Row_moved.kws K) (He.fAd K d_Row_moved.at_) fd := c.def_ 18 (d := d_Row_moved) rfl
theorem fd_Row_listed {K : PySem.W.Frag} (c : He.SaysD fa fn K) : ∃ fd, FunD K d_Row_listed.name d_Row_listed.qual d_Row_listed.params d_Row_listed.body d_Row_listed.scope (d_Row_listed.dvs K) (d_Row_listed.kws K) (He.fAd K d_Row_listed.at_) fd := c.def_ 19 (d := d_Row_listed) rfl
theorem fd_Row_text {K : PySem.W.Frag} (c : He.SaysD fa fn K) : ∃ fd, FunD K d_Row_text.name d_Row_text.qual d_Row_text.params d_Row_text.body d_Row_text.scope (d_Row_text.dvs K) (d_Row_text.kws K) (He.fAd K d_Row_text.at_) fd := c.def_ 20 (d := d_Row_text) rfl
theorem fd_ring_row {K : PySem.W.Frag} (c : He.SaysD fa fn K) : ∃ fd, FunD K d_ring_row.name d_ring_row.qual d_ring_row.params d_ring_row.body d_ring_row.scope (d_ring_row.dvs K) (d_ring_row.kws K) (He.fAd K d_ring_row.at_) fd := c.def_ 21 (d := d_ring_row) rfl
theorem fd_ended_row {K : PySem.W.Frag} (c : He.SaysD fa fn K) : ∃ fd, FunD K d_ended_row.name d_ended_row.qual d_ended_row.params d_ended_row.body d_ended_row.scope (d_ended_row.dvs K) (d_ended_row.kws K) (He.fAd K d_ended_row.at_) fd := c.def_ 22 (d := d_ended_row) rfl
theorem fd__read_round {K : PySem.W.Frag} (c : He.SaysD fa fn K) : ∃ fd, FunD K d__read_round.name d__read_round.qual d__read_round.params d__read_round.body d__read_round.scope (d__read_round.dvs K) (d__read_round.kws K) (He.fAd K d__read_round.at_) fd := c.def_ 23 (d := d__read_round) rfl
theorem fd__read_start {K : PySem.W.Frag} (c : He.SaysD fa fn K) : ∃ fd, FunD K d__read_start.name d__read_start.qual d__read_start.params d__read_start.body d__read_start.scope (d__read_start.dvs K) (d__read_start.kws K) (He.fAd K d__read_start.at_) fd := c.def_ 24 (d := d__read_start) rfl
theorem fd_read_row {K : PySem.W.Frag} (c : He.SaysD fa fn K) : ∃ fd, FunD K d_read_row.name d_read_row.qual d_read_row.params d_read_row.body d_read_row.scope (d_read_row.dvs K) (d_read_row.kws K) (He.fAd K d_read_row.at_) fd := c.def_ 25 (d := d_read_row) rfl
theorem fd__law_bag {K : PySem.W.Frag} (c : He.SaysD fa fn K) : ∃ fd, FunD K d__law_bag.name d__law_bag.qual d__law_bag.params d__law_bag.body d__law_bag.scope (d__law_bag.dvs K) (d__law_bag.kws K) (He.fAd K d__law_bag.at_) fd := c.def_ 26 (d := d__law_bag) rfl
theorem fd__law_take {K : PySem.W.Frag} (c : He.SaysD fa fn K) : ∃ fd, FunD K d__law_take.name d__law_take.qual d__law_take.params d__law_take.body d__law_take.scope (d__law_take.dvs K) (d__law_take.kws K) (He.fAd K d__law_take.at_) fd := c.def_ 27 (d := d__law_take) rfl
theorem fd__law_pick {K : PySem.W.Frag} (c : He.SaysD fa fn K) : ∃ fd, FunD K d__law_pick.name d__law_pick.qual d__law_pick.params d__law_pick.body d__law_pick.scope (d__law_pick.dvs K) (d__law_pick.kws K) (He.fAd K d__law_pick.at_) fd := c.def_ 28 (d := d__law_pick) rfl
theorem fd__law_int {K : PySem.W.Frag} (c : He.SaysD fa fn K) : ∃ fd, FunD K d__law_int.name d__law_int.qual d__law_int.params d__law_int.body d__law_int.scope (d__law_int.dvs K) (d__law_int.kws K) (He.fAd K d__law_int.at_) fd := c.def_ 29 (d := d__law_int) rfl
theorem fd__law_truth {K : PySem.W.Frag} (c : He.SaysD fa fn K) : ∃ fd, FunD K d__law_truth.name d__law_truth.qual d__law_truth.params d__law_truth.body d__law_truth.scope (d__law_truth.dvs K) (d__law_truth.kws K) (He.fAd K d__law_truth.at_) fd := c.def_ 30 (d := d__law_truth) rfl
theorem fd__law_at {K : PySem.W.Frag} (c : He.SaysD fa fn K) : ∃ fd, FunD K d__law_at.name d__law_at.qual d__law_at.params d__law_at.body d__law_at.scope (d__law_at.dvs K) (d__law_at.kws K) (He.fAd K d__law_at.at_) fd := c.def_ 31 (d := d__law_at) rfl
theorem fd__law_made {K : PySem.W.Frag} (c : He.SaysD fa fn K) : ∃ fd, FunD K d__law_made.name d__law_made.qual d__law_made.params d__law_made.body d__law_made.scope (d__law_made.dvs K) (d__law_made.kws K) (He.fAd K d__law_made.at_) fd := c.def_ 32 (d := d__law_made) rfl
theorem fd__law_primitive {K : PySem.W.Frag} (c : He.SaysD fa fn K) : ∃ fd, FunD K d__law_primitive.name d__law_primitive.qual d__law_primitive.params d__law_primitive.body d__law_primitive.scope (d__law_primitive.dvs K) (d__law_primitive.kws K) (He.fAd K d__law_primitive.at_) fd := c.def_ 33 (d := d__law_primitive) rfl
theorem fd__law_least {K : PySem.W.Frag} (c : He.SaysD fa fn K) : ∃ fd, FunD K d__law_least.name d__law_least.qual d__law_least.params d__law_least.body d__law_least.scope (d__law_least.dvs K) (d__law_least.kws K) (He.fAd K d__law_least.at_) fd := c.def_ 34 (d := d__law_least) rfl
theorem fd__law_text {K : PySem.W.Frag} (c : He.SaysD fa fn K) : ∃ fd, FunD K d__law_text.name d__law_text.qual d__law_text.params d__law_text.body d__law_text.scope (d__law_text.dvs K) (d__law_text.kws K) (He.fAd K d__law_text.at_) fd := c.def_ 35 (d := d__law_text) rfl
theorem fd__law_row {K : PySem.W.Frag} (c : He.SaysD fa fn K) : ∃ fd, FunD K d__law_row.name d__law_row.qual d__law_row.params d__law_row.body d__law_row.scope (d__law_row.dvs K) (d__law_row.kws K) (He.fAd K d__law_row.at_) fd := c.def_ 36 (d := d__law_row) rfl
theorem fd__law_moved {K : PySem.W.Frag} (c : He.SaysD fa fn K) : ∃ fd, FunD K d__law_moved.name d__law_moved.qual d__law_moved.params d__law_moved.body d__law_moved.scope (d__law_moved.dvs K) (d__law_moved.kws K) (He.fAd K d__law_moved.at_) fd := c.def_ 37 (d := d__law_moved) rfl
theorem fd__law_equal {K : PySem.W.Frag} (c : He.SaysD fa fn K) : ∃ fd, FunD K d__law_equal.name d__law_equal.qual d__law_equal.params d__law_equal.body d__law_equal.scope (d__law_equal.dvs K) (d__law_equal.kws K) (He.fAd K d__law_equal.at_) fd := c.def_ 38 (d := d__law_equal) rfl
theorem fd__law_alike {K : PySem.W.Frag} (c : He.SaysD fa fn K) : ∃ fd, FunD K d__law_alike.name d__law_alike.qual d__law_alike.params d__law_alike.body d__law_alike.scope (d__law_alike.dvs K) (d__law_alike.kws K) (He.fAd K d__law_alike.at_) fd := c.def_ 39 (d := d__law_alike) rfl
theorem fd__law_whole {K : PySem.W.Frag} (c : He.SaysD fa fn K) : ∃ fd, FunD K d__law_whole.name d__law_whole.qual d__law_whole.params d__law_whole.body d__law_whole.scope (d__law_whole.dvs K) (d__law_whole.kws K) (He.fAd K d__law_whole.at_) fd := c.def_ 40 (d := d__law_whole) rfl
theorem fd__law_written {K : PySem.W.Frag} (c : He.SaysD fa fn K) : ∃ fd, FunD K d__law_written.name d__law_written.qual d__law_written.params d__law_written.body d__law_written.scope (d__law_written.dvs K) (d__law_written.kws K) (He.fAd K d__law_written.at_) fd := c.def_ 41 (d := d__law_written) rfl
theorem fd__law_bent {K : PySem.W.Frag} (c : He.SaysD fa fn K) : ∃ fd, FunD K d__law_bent.name d__law_bent.qual d__law_bent.params d__law_bent.body d__law_bent.scope (d__law_bent.dvs K) (d__law_bent.kws K) (He.fAd K d__law_bent.at_) fd := c.def_ 42 (d := d__law_bent) rfl
theorem fd__law_group {K : PySem.W.Frag} (c : He.SaysD fa fn K) : ∃ fd, FunD K d__law_group.name d__law_group.qual d__law_group.params d__law_group.body d__law_group.scope (d__law_group.dvs K) (d__law_group.kws K) (He.fAd K d__law_group.at_) fd := c.def_ 43 (d := d__law_group) rfl
theorem fd_law {K : PySem.W.Frag} (c : He.SaysD fa fn K) : ∃ fd, FunD K d_law.name d_law.qual d_law.params d_law.body d_law.scope (d_law.dvs K) (d_law.kws K) (He.fAd K d_law.at_) fd := c.def_ 44 (d := d_law) rfl
theorem glo_RingError {K : PySem.W.Frag} (c : He.SaysD fa fn K) : ((.glo "RingError" : He.Fa)).ok K = true := c.fact 0 (f := .glo "RingError") rfl
theorem glo__kept {K : PySem.W.Frag} (c : He.SaysD fa fn K) : ((.glo "_kept" : He.Fa)).ok K = true := c.fact 1 (f := .glo "_kept") rfl
theorem glo_BadRow {K : PySem.W.Frag} (c : He.SaysD fa fn K) : ((.glo "BadRow" : He.Fa)).ok K = true := c.fact 2 (f := .glo "BadRow") rfl
theorem glo_is_name {K : PySem.W.Frag} (c : He.SaysD fa fn K) : ((.glo "is_name" : He.Fa)).ok K = true := c.fact 3 (f := .glo "is_name") rfl
theorem glo_is_number {K : PySem.W.Frag} (c : He.SaysD fa fn K) : ((.glo "is_number" : He.Fa)).ok K = true := c.fact 4 (f := .glo "is_number") rfl
theorem glo_is_time {K : PySem.W.Frag} (c : He.SaysD fa fn K) : ((.glo "is_time" : He.Fa)).ok K = true := c.fact 5 (f := .glo "is_time") rfl
theorem glo_shortest_round {K : PySem.W.Frag} (c : He.SaysD fa fn K) : ((.glo "shortest_round" : He.Fa)).ok K = true := c.fact 6 (f := .glo "shortest_round") rfl
theorem glo_turned_round {K : PySem.W.Frag} (c : He.SaysD fa fn K) : ((.glo "turned_round" : He.Fa)).ok K = true := c.fact 7 (f := .glo "turned_round") rfl
theorem glo_Writing {K : PySem.W.Frag} (c : He.SaysD fa fn K) : ((.glo "Writing" : He.Fa)).ok K = true := c.fact 8 (f := .glo "Writing") rfl
theorem glo_least_writing {K : PySem.W.Frag} (c : He.SaysD fa fn K) : ((.glo "least_writing" : He.Fa)).ok K = true := c.fact 9 (f := .glo "least_writing") rfl
theorem glo_Row {K : PySem.W.Frag} (c : He.SaysD fa fn K) : ((.glo "Row" : He.Fa)).ok K = true := c.fact 10 (f := .glo "Row") rfl
theorem glo_ring_row {K : PySem.W.Frag} (c : He.SaysD fa fn K) : ((.glo "ring_row" : He.Fa)).ok K = true := c.fact 11 (f := .glo "ring_row") rfl
theorem glo_ended_row {K : PySem.W.Frag} (c : He.SaysD fa fn K) : ((.glo "ended_row" : He.Fa)).ok K = true := c.fact 12 (f := .glo "ended_row") rfl
theorem glo__read_round {K : PySem.W.Frag} (c : He.SaysD fa fn K) : ((.glo "_read_round" : He.Fa)).ok K = true := c.fact 13 (f := .glo "_read_round") rfl
theorem glo__read_start {K : PySem.W.Frag} (c : He.SaysD fa fn K) : ((.glo "_read_start" : He.Fa)).ok K = true := c.fact 14 (f := .glo "_read_start") rfl
theorem glo_read_row {K : PySem.W.Frag} (c : He.SaysD fa fn K) : ((.glo "read_row" : He.Fa)).ok K = true := c.fact 15 (f := .glo "read_row") rfl
theorem glo__law_bag {K : PySem.W.Frag} (c : He.SaysD fa fn K) : ((.glo "_law_bag" : He.Fa)).ok K = true := c.fact 16 (f := .glo "_law_bag") rfl
theorem glo__law_take {K : PySem.W.Frag} (c : He.SaysD fa fn K) : ((.glo "_law_take" : He.Fa)).ok K = true := c.fact 17 (f := .glo "_law_take") rfl
theorem glo__law_pick {K : PySem.W.Frag} (c : He.SaysD fa fn K) : ((.glo "_law_pick" : He.Fa)).ok K = true := c.fact 18 (f := .glo "_law_pick") rfl
theorem glo__law_int {K : PySem.W.Frag} (c : He.SaysD fa fn K) : ((.glo "_law_int" : He.Fa)).ok K = true := c.fact 19 (f := .glo "_law_int") rfl
theorem glo__law_truth {K : PySem.W.Frag} (c : He.SaysD fa fn K) : ((.glo "_law_truth" : He.Fa)).ok K = true := c.fact 20 (f := .glo "_law_truth") rfl
theorem glo__law_at {K : PySem.W.Frag} (c : He.SaysD fa fn K) : ((.glo "_law_at" : He.Fa)).ok K = true := c.fact 21 (f := .glo "_law_at") rfl
theorem glo__law_made {K : PySem.W.Frag} (c : He.SaysD fa fn K) : ((.glo "_law_made" : He.Fa)).ok K = true := c.fact 22 (f := .glo "_law_made") rfl
theorem glo__law_primitive {K : PySem.W.Frag} (c : He.SaysD fa fn K) : ((.glo "_law_primitive" : He.Fa)).ok K = true := c.fact 23 (f := .glo "_law_primitive") rfl
theorem glo__law_least {K : PySem.W.Frag} (c : He.SaysD fa fn K) : ((.glo "_law_least" : He.Fa)).ok K = true := c.fact 24 (f := .glo "_law_least") rfl
theorem glo__law_text {K : PySem.W.Frag} (c : He.SaysD fa fn K) : ((.glo "_law_text" : He.Fa)).ok K = true := c.fact 25 (f := .glo "_law_text") rfl
theorem glo__law_row {K : PySem.W.Frag} (c : He.SaysD fa fn K) : ((.glo "_law_row" : He.Fa)).ok K = true := c.fact 26 (f := .glo "_law_row") rfl
theorem glo__law_moved {K : PySem.W.Frag} (c : He.SaysD fa fn K) : ((.glo "_law_moved" : He.Fa)).ok K = true := c.fact 27 (f := .glo "_law_moved") rfl
theorem glo__law_equal {K : PySem.W.Frag} (c : He.SaysD fa fn K) : ((.glo "_law_equal" : He.Fa)).ok K = true := c.fact 28 (f := .glo "_law_equal") rfl
theorem glo__law_alike {K : PySem.W.Frag} (c : He.SaysD fa fn K) : ((.glo "_law_alike" : He.Fa)).ok K = true := c.fact 29 (f := .glo "_law_alike") rfl
theorem glo__law_whole {K : PySem.W.Frag} (c : He.SaysD fa fn K) : ((.glo "_law_whole" : He.Fa)).ok K = true := c.fact 30 (f := .glo "_law_whole") rfl
theorem glo__law_written {K : PySem.W.Frag} (c : He.SaysD fa fn K) : ((.glo "_law_written" : He.Fa)).ok K = true := c.fact 31 (f := .glo "_law_written") rfl
theorem glo__law_bent {K : PySem.W.Frag} (c : He.SaysD fa fn K) : ((.glo "_law_bent" : He.Fa)).ok K = true := c.fact 32 (f := .glo "_law_bent") rfl
theorem glo__law_group {K : PySem.W.Frag} (c : He.SaysD fa fn K) : ((.glo "_law_group" : He.Fa)).ok K = true := c.fact 33 (f := .glo "_law_group") rfl
theorem glo_law {K : PySem.W.Frag} (c : He.SaysD fa fn K) : ((.glo "law" : He.Fa)).ok K = true := c.fact 34 (f := .glo "law") rfl
theorem free_ValueError {K : PySem.W.Frag} (c : He.SaysD fa fn K) : ((.free "ValueError" : He.Fa)).ok K = true := c.fact 35 (f := .free "ValueError") rfl
theorem free_abs {K : PySem.W.Frag} (c : He.SaysD fa fn K) : ((.free "abs" : He.Fa)).ok K = true := c.fact 36 (f := .free "abs") rfl
theorem free_bool {K : PySem.W.Frag} (c : He.SaysD fa fn K) : ((.free "bool" : He.Fa)).ok K = true := c.fact 37 (f := .free "bool") rfl
theorem free_dict {K : PySem.W.Frag} (c : He.SaysD fa fn K) : ((.free "dict" : He.Fa)).ok K = true := c.fact 38 (f := .free "dict") rfl
theorem free_int {K : PySem.W.Frag} (c : He.SaysD fa fn K) : ((.free "int" : He.Fa)).ok K = true := c.fact 39 (f := .free "int") rfl
theorem free_isinstance {K : PySem.W.Frag} (c : He.SaysD fa fn K) : ((.free "isinstance" : He.Fa)).ok K = true := c.fact 40 (f := .free "isinstance") rfl
theorem free_len {K : PySem.W.Frag} (c : He.SaysD fa fn K) : ((.free "len" : He.Fa)).ok K = true := c.fact 41 (f := .free "len") rfl
theorem free_list {K : PySem.W.Frag} (c : He.SaysD fa fn K) : ((.free "list" : He.Fa)).ok K = true := c.fact 42 (f := .free "list") rfl
theorem free_max {K : PySem.W.Frag} (c : He.SaysD fa fn K) : ((.free "max" : He.Fa)).ok K = true := c.fact 43 (f := .free "max") rfl
theorem free_min {K : PySem.W.Frag} (c : He.SaysD fa fn K) : ((.free "min" : He.Fa)).ok K = true := c.fact 44 (f := .free "min") rfl
theorem free_range {K : PySem.W.Frag} (c : He.SaysD fa fn K) : ((.free "range" : He.Fa)).ok K = true := c.fact 45 (f := .free "range") rfl
theorem free_str {K : PySem.W.Frag} (c : He.SaysD fa fn K) : ((.free "str" : He.Fa)).ok K = true := c.fact 46 (f := .free "str") rfl
theorem free_tuple {K : PySem.W.Frag} (c : He.SaysD fa fn K) : ((.free "tuple" : He.Fa)).ok K = true := c.fact 47 (f := .free "tuple") rfl
theorem meth_BadRow___init__ {K : PySem.W.Frag} (c : He.SaysD fa fn K) : ((.meth "BadRow" "__init__" : He.Fa)).ok K = true := c.fact 48 (f := .meth "BadRow" "__init__") rfl
theorem noat_BadRow_at {K : PySem.W.Frag} (c : He.SaysD fa fn K) : ((.noat "BadRow" "at" : He.Fa)).ok K = true := c.fact 49 (f := .noat "BadRow" "at") rfl
theorem cls_Writing {K : PySem.W.Frag} (c : He.SaysD fa fn K) : ((.cls "Writing" : He.Fa)).ok K = true := c.fact 50 (f := .cls "Writing") rfl
theorem mkr_Writing {K : PySem.W.Frag} (c : He.SaysD fa fn K) : ((.mkr "Writing" : He.Fa)).ok K = true := c.fact 51 (f := .mkr "Writing") rfl
theorem meth_Writing___init__ {K : PySem.W.Frag} (c : He.SaysD fa fn K) : ((.meth "Writing" "__init__" : He.Fa)).ok K = true := c.fact 52 (f := .meth "Writing" "__init__") rfl
theorem meth_Writing_arrow_at {K : PySem.W.Frag} (c : He.SaysD fa fn K) : ((.meth "Writing" "arrow_at" : He.Fa)).ok K = true := c.fact 53 (f := .meth "Writing" "arrow_at") rfl
theorem meth_Writing_stretch {K : PySem.W.Frag} (c : He.SaysD fa fn K) : ((.meth "Writing" "stretch" : He.Fa)).ok K = true := c.fact 54 (f := .meth "Writing" "stretch") rfl
theorem meth_Writing_right_begin {K : PySem.W.Frag} (c : He.SaysD fa fn K) : ((.meth "Writing" "right_begin" : He.Fa)).ok K = true := c.fact 55 (f := .meth "Writing" "right_begin") rfl
theorem meth_Writing_left_end {K : PySem.W.Frag} (c : He.SaysD fa fn K) : ((.meth "Writing" "left_end" : He.Fa)).ok K = true := c.fact 56 (f := .meth "Writing" "left_end") rfl
theorem noat_Writing_end {K : PySem.W.Frag} (c : He.SaysD fa fn K) : ((.noat "Writing" "end" : He.Fa)).ok K = true := c.fact 57 (f := .noat "Writing" "end") rfl
theorem noat_Writing_left {K : PySem.W.Frag} (c : He.SaysD fa fn K) : ((.noat "Writing" "left" : He.Fa)).ok K = true := c.fact 58 (f := .noat "Writing" "left") rfl
theorem noat_Writing_middle {K : PySem.W.Frag} (c : He.SaysD fa fn K) : ((.noat "Writing" "middle" : He.Fa)).ok K = true := c.fact 59 (f := .noat "Writing" "middle") rfl
theorem noat_Writing_right {K : PySem.W.Frag} (c : He.SaysD fa fn K) : ((.noat "Writing" "right" : He.Fa)).ok K = true := c.fact 60 (f := .noat "Writing" "right") rfl
theorem noat_Writing_start {K : PySem.W.Frag} (c : He.SaysD fa fn K) : ((.noat "Writing" "start" : He.Fa)).ok K = true := c.fact 61 (f := .noat "Writing" "start") rfl
theorem cls_Row {K : PySem.W.Frag} (c : He.SaysD fa fn K) : ((.cls "Row" : He.Fa)).ok K = true := c.fact 62 (f := .cls "Row") rfl
theorem mkr_Row {K : PySem.W.Frag} (c : He.SaysD fa fn K) : ((.mkr "Row" : He.Fa)).ok K = true := c.fact 63 (f := .mkr "Row") rfl
theorem meth_Row___init__ {K : PySem.W.Frag} (c : He.SaysD fa fn K) : ((.meth "Row" "__init__" : He.Fa)).ok K = true := c.fact 64 (f := .meth "Row" "__init__") rfl
theorem meth_Row___eq__ {K : PySem.W.Frag} (c : He.SaysD fa fn K) : ((.meth "Row" "__eq__" : He.Fa)).ok K = true := c.fact 65 (f := .meth "Row" "__eq__") rfl
theorem meth_Row___str__ {K : PySem.W.Frag} (c : He.SaysD fa fn K) : ((.meth "Row" "__str__" : He.Fa)).ok K = true := c.fact 66 (f := .meth "Row" "__str__") rfl
theorem meth_Row_arrow {K : PySem.W.Frag} (c : He.SaysD fa fn K) : ((.meth "Row" "arrow" : He.Fa)).ok K = true := c.fact 67 (f := .meth "Row" "arrow") rfl
theorem meth_Row_part {K : PySem.W.Frag} (c : He.SaysD fa fn K) : ((.meth "Row" "part" : He.Fa)).ok K = true := c.fact 68 (f := .meth "Row" "part") rfl
theorem meth_Row_moved {K : PySem.W.Frag} (c : He.SaysD fa fn K) : ((.meth "Row" "moved" : He.Fa)).ok K = true := c.fact 69 (f := .meth "Row" "moved") rfl
theorem meth_Row_listed {K : PySem.W.Frag} (c : He.SaysD fa fn K) : ((.meth "Row" "listed" : He.Fa)).ok K = true := c.fact 70 (f := .meth "Row" "listed") rfl
theorem meth_Row_text {K : PySem.W.Frag} (c : He.SaysD fa fn K) : ((.meth "Row" "text" : He.Fa)).ok K = true := c.fact 71 (f := .meth "Row" "text") rfl
theorem noat_Row_left {K : PySem.W.Frag} (c : He.SaysD fa fn K) : ((.noat "Row" "left" : He.Fa)).ok K = true := c.fact 72 (f := .noat "Row" "left") rfl
theorem noat_Row_middle {K : PySem.W.Frag} (c : He.SaysD fa fn K) : ((.noat "Row" "middle" : He.Fa)).ok K = true := c.fact 73 (f := .noat "Row" "middle") rfl
theorem noat_Row_right {K : PySem.W.Frag} (c : He.SaysD fa fn K) : ((.noat "Row" "right" : He.Fa)).ok K = true := c.fact 74 (f := .noat "Row" "right") rfl
theorem noat_Row_ring {K : PySem.W.Frag} (c : He.SaysD fa fn K) : ((.noat "Row" "ring" : He.Fa)).ok K = true := c.fact 75 (f := .noat "Row" "ring") rfl
theorem noat_Row_start {K : PySem.W.Frag} (c : He.SaysD fa fn K) : ((.noat "Row" "start" : He.Fa)).ok K = true := c.fact 76 (f := .noat "Row" "start") rfl
end K03

namespace K03
/-! the plain law: borders, periods, the shortest round -/
section
variable {α : Type}
/-- k is the length of a border of the first n -/
def Bo (w : Nat → α) (n k : Nat) : Prop := k < n ∧ ∀ i, i < k → w i = w (n - k + i)
def LB (w : Nat → α) (n k : Nat) : Prop := Bo w n k ∧ ∀ j, Bo w n j → j ≤ k
theorem bo_zero {w : Nat → α} {n : Nat} (h : 0 < n) : Bo w n 0 := ⟨h, fun i hi => by omega⟩
theorem bo_in {w : Nat → α} {n k j : Nat} (a : Bo w n k) (b : Bo w n j) (h : j < k) : Bo w k j := by
  refine ⟨h, fun i hi => ?_⟩
  have h1 := b.2 i hi
  have h2 := a.2 (k - j + i) (by omega)
  have := a.1
  rw [h1, h2]
  congr 1
  omega
theorem bo_bo {w : Nat → α} {n k j : Nat} (a : Bo w n k) (b : Bo w k j) : Bo w n j := by
  have := a.1
  have := b.1
  refine ⟨by omega, fun i hi => ?_⟩
  rw [b.2 i hi, a.2 (k - j + i) (by omega)]
  congr 1
  omega
theorem bo_succ {w : Nat → α} {n k : Nat} (h : Bo w (n + 1) (k + 1)) : (0 < k → Bo w n k) ∧ k < n ∧ w k = w n := by
  have h1 := h.1
  refine ⟨fun _ => ⟨by omega, fun i hi => ?_⟩, by omega, ?_⟩
  · rw [h.2 i (by omega)]
    congr 1
    omega
  · rw [h.2 k (by omega)]
    congr 1
    omega
theorem bo_app {w : Nat → α} {n k : Nat} (h : Bo w n k) (e : w k = w n) : Bo w (n + 1) (k + 1) := by
  have h1 := h.1
  refine ⟨by omega, fun i hi => ?_⟩
  by_cases q : i = k
  · subst q
    rw [e]
    congr 1
    omega
  · rw [h.2 i (by omega)]
    congr 1
    omega
/-- within the search for the border of the first n + 1 -/
def Seek (w : Nat → α) (n k : Nat) : Prop := Bo w n k ∧ ∀ j, Bo w (n + 1) (j + 1) → j ≤ k
theorem seek_start {w : Nat → α} {n k : Nat} (h0 : 0 < n) (h : LB w n k) : Seek w n k := ⟨h.1, fun j hj => by
  by_cases q : j = 0
  · omega
  · exact h.2 j ((bo_succ hj).1 (by omega))⟩
theorem seek_step {w : Nat → α} {n k k' : Nat} (h : Seek w n k) (h2 : w n ≠ w k) (hk : LB w k k') : Seek w n k' := by
  refine ⟨bo_bo h.1 hk.1, fun j hj => ?_⟩
  have h1 := h.2 j hj
  obtain ⟨a, b, c⟩ := bo_succ hj
  have : j ≠ k := fun e => h2 (by rw [← c, e])
  by_cases q : j = 0
  · omega
  · exact hk.2 j (bo_in h.1 (a (by omega)) (by omega))
theorem seek_hit {w : Nat → α} {n k : Nat} (h : Seek w n k) (e : w n = w k) : LB w (n + 1) (k + 1) := by
  refine ⟨bo_app h.1 e.symm, fun j hj => ?_⟩
  cases j with
  | zero => omega
  | succ j => have := h.2 j hj; omega
theorem seek_miss {w : Nat → α} {n : Nat} (h : Seek w n 0) (e : w n ≠ w 0) : LB w (n + 1) 0 := by
  refine ⟨bo_zero (by omega), fun j hj => ?_⟩
  cases j with
  | zero => omega
  | succ j =>
    have := h.2 j hj
    have q : j = 0 := by omega
    subst q
    exact absurd (bo_succ hj).2.2.symm e
theorem lb_one {w : Nat → α} : LB w 1 0 := ⟨bo_zero (by omega), fun j hj => by have := hj.1; omega⟩
/-- d is a period of the first n -/
def Pd (w : Nat → α) (n d : Nat) : Prop := 0 < d ∧ ∀ i, i + d < n → w i = w (i + d)
theorem pd_bo {w : Nat → α} {n d : Nat} (h : Pd w n d) (hd : d < n) : Bo w n (n - d) := by
  have := h.1
  refine ⟨by omega, fun i hi => ?_⟩
  rw [h.2 i (by omega)]
  congr 1
  omega
theorem bo_pd {w : Nat → α} {n k : Nat} (h : Bo w n k) : Pd w n (n - k) := by
  have := h.1
  refine ⟨by omega, fun i hi => ?_⟩
  rw [h.2 i (by omega)]
  congr 1
  omega
theorem pd_gcd {w : Nat → α} {n : Nat} : ∀ (s p q : Nat), p + q ≤ s → Pd w n p → Pd w n q → p + q ≤ n → Pd w n (Nat.gcd p q)
  | 0, p, q, hs, hp, _, _ => by have := hp.1; omega
  | s + 1, p, q, hs, hp, hq, hn => by
    have step : ∀ {p q : Nat}, Pd w n p → Pd w n q → p + q ≤ n → p < q → Pd w n (q - p) := fun {p q} hp hq hn hlt => by
      refine ⟨by omega, fun i hi => ?_⟩
      by_cases c : i + q < n
      · rw [hq.2 i c, hp.2 (i + (q - p)) (by omega)]
        congr 1
        omega
      · have h1 := hp.2 (i - p) (by omega)
        have h2 := hq.2 (i - p) (by omega)
        rw [show i - p + p = i by omega] at h1
        rw [← h1, h2]
        congr 1
        omega
    have p0 := hp.1
    have q0 := hq.1
    rcases Nat.lt_trichotomy p q with h | h | h
    · have r := pd_gcd s p (q - p) (by omega) hp (step hp hq hn h) (by omega)
      rwa [Nat.gcd_sub_self_right (Nat.le_of_lt h)] at r
    · subst h
      rw [Nat.gcd_self]
      exact hp
    · have r := pd_gcd s (p - q) q (by omega) (step hq hp (by omega) h) hq (by omega)
      rwa [Nat.gcd_sub_self_left (Nat.le_of_lt h)] at r
/-- the length of the shortest round of the first n -/
structure Prim (w : Nat → α) (n q : Nat) : Prop where
  dvd : q ∣ n
  pd : Pd w n q
  least : ∀ d, d ∣ n → Pd w n d → q ≤ d
theorem Prim.uniq {w : Nat → α} {n q r : Nat} (a : Prim w n q) (b : Prim w n r) : q = r := Nat.le_antisymm (a.least r b.dvd b.pd) (b.least q a.dvd a.pd)
theorem pd_self {w : Nat → α} {n : Nat} (h : 0 < n) : Pd w n n := ⟨h, fun i hi => by omega⟩
/-- the program's reckoning -/
theorem kmp_prim {w : Nat → α} {n b : Nat} (h0 : 0 < n) (h : LB w n b) : Prim w n (if n % (n - b) = 0 then n - b else n) := by
  have hb := h.1.1
  have hp := bo_pd h.1
  have low : ∀ d, Pd w n d → n - b ≤ d := fun d hd => by
    by_cases c : d < n
    · have := h.2 _ (pd_bo hd c)
      omega
    · omega
  split
  · rename_i e
    exact ⟨Nat.dvd_of_mod_eq_zero e, hp, fun d _ hd => low d hd⟩
  · rename_i e
    refine ⟨Nat.dvd_refl n, pd_self h0, fun d hd hpd => ?_⟩
    by_cases c : n ≤ d
    · exact c
    · exfalso
      have h1 := low d hpd
      have h2 : d + d ≤ n := by
        obtain ⟨k, rfl⟩ := hd
        match k, c with
        | 0, c => omega
        | 1, c => omega
        | k + 2, c => rw [Nat.mul_add]; omega
      have g := pd_gcd _ (n - b) d (Nat.le_refl _) hp hpd (by omega)
      have h3 := low _ g
      have h4 : Nat.gcd (n - b) d ∣ n - b := Nat.gcd_dvd_left ..
      have h5 := Nat.le_of_dvd hp.1 h4
      have h6 : Nat.gcd (n - b) d = n - b := by omega
      have h7 : Nat.gcd (n - b) d ∣ d := Nat.gcd_dvd_right ..
      rw [h6] at h7
      exact e (Nat.mod_eq_zero_of_dvd (Nat.dvd_trans h7 hd))
end
end K03

namespace K03
/-! the plain law: endless rows and their one least writing -/
section
variable {α : Type}
/-- g moves f into itself from T on -/
def From (f : Int → α) (T : Int) (g : Nat) : Prop := ∀ t, T ≤ t → f (t + g) = f t
theorem From.mul {f : Int → α} {T : Int} {g : Nat} (h : From f T g) (k : Nat) : From f T (k * g) := by
  induction k with
  | zero => intro t ht; rw [Nat.zero_mul]; congr 1; omega
  | succ k ih =>
    intro t ht
    have e : t + ((k + 1) * g : Nat) = (t + (k * g : Nat)) + g := by rw [Nat.succ_mul]; omega
    rw [e, h _ (by omega), ih t ht]
theorem From.gcd {f : Int → α} {T : Int} : ∀ (s p q : Nat), p + q ≤ s → 0 < p → 0 < q → From f T p → From f T q → From f T (Nat.gcd p q)
  | 0, p, q, hs, hp, _, _, _ => by omega
  | s + 1, p, q, hs, p0, q0, hp, hq => by
    have step : ∀ {p q : Nat}, From f T p → From f T q → p < q → From f T (q - p) := fun {p q} hp hq hlt t ht => by
      have h1 := hp (t + ((q - p : Nat) : Int)) (by omega)
      rw [← h1, show t + ((q - p : Nat) : Int) + p = t + q by omega]
      exact hq t ht
    rcases Nat.lt_trichotomy p q with h | h | h
    · have r := From.gcd s p (q - p) (by omega) p0 (by omega) hp (step hp hq h)
      rwa [Nat.gcd_sub_self_right (Nat.le_of_lt h)] at r
    · subst h
      rw [Nat.gcd_self]
      exact hp
    · have r := From.gcd s (p - q) q (by omega) (by omega) q0 (step hq hp h) hq
      rwa [Nat.gcd_sub_self_left (Nat.le_of_lt h)] at r
/-- a period at last, to the right -/
def RP (f : Int → α) (g : Nat) : Prop := 0 < g ∧ ∃ T, From f T g
/-- a period at last is one from where any other one holds -/
theorem from_back {f : Int → α} {T e : Int} {n g : Nat} (n0 : 0 < n) (hn : From f e n) (hg : From f T g) : From f e g := fun t ht => by
  have hN := hn.mul (T - t).toNat
  have hle : (T - t).toNat * 1 ≤ (T - t).toNat * n := Nat.mul_le_mul_left _ n0
  generalize (T - t).toNat * n = N at hN hle
  have h1 := hN t ht
  have h2 := hN (t + g) (by omega)
  have h3 := hg (t + N) (by omega)
  rw [← h2, ← h1, ← h3]
  congr 1
  omega
/-- f is the word w of n letters again and again from e on -/
def Rpt (f : Int → α) (e : Int) (w : Nat → α) (n : Nat) : Prop := ∀ t, e ≤ t → f t = w ((t - e).toNat % n)
theorem pd_mod {w : Nat → α} {n d : Nat} (hp : Pd w n d) {r : Nat} (hr : r < n) : w r = w (r % d) := by
  have d0 := hp.1
  have wk : ∀ k j : Nat, j + k * d < n → w (j + k * d) = w j := by
    intro k
    induction k with
    | zero => intro j _; congr 1; omega
    | succ k ih =>
      intro j hl
      rw [Nat.succ_mul] at hl ⊢
      have := hp.2 (j + k * d) (by omega)
      rw [← Nat.add_assoc, ← this]
      exact ih j (by omega)
  have h3 := Nat.mod_add_div' r d
  have h4 := wk (r / d) (r % d) (by omega)
  rw [h3] at h4
  exact h4
theorem Rpt.from {f : Int → α} {e : Int} {w : Nat → α} {n d : Nat} (n0 : 0 < n) (h : Rpt f e w n) (hd : d ∣ n) (hp : Pd w n d) : From f e d := fun t ht => by
  have key : ∀ i : Nat, w (i % n) = w (i % d) := fun i => by
    rw [pd_mod hp (Nat.mod_lt i n0)]
    obtain ⟨c, rfl⟩ := hd
    rw [Nat.mod_mul_right_mod]
  rw [h _ (by omega), h _ ht, key, key]
  congr 1
  rw [show (t + d - e).toNat = (t - e).toNat + d by omega, Nat.add_mod_right]
theorem Rpt.least {f : Int → α} {e : Int} {w : Nat → α} {n q g : Nat} (n0 : 0 < n) (h : Rpt f e w n) (hq : Prim w n q) (hg : RP f g) : q ≤ g := by
  obtain ⟨g0, T, hT⟩ := hg
  have h1 := h.from n0 (Nat.dvd_refl n) (pd_self n0)
  have h2 := from_back n0 h1 hT
  have h3 := From.gcd _ g n (Nat.le_refl _) g0 n0 h2 h1
  have h4 : Nat.gcd g n ∣ n := Nat.gcd_dvd_right ..
  have h5 : Nat.gcd g n ∣ g := Nat.gcd_dvd_left ..
  refine Nat.le_trans (hq.least _ h4 ⟨Nat.pos_of_dvd_of_pos h4 n0, fun i hi => ?_⟩) (Nat.le_of_dvd g0 h5)
  have a := h (e + i) (by omega)
  have b := h (e + i + (Nat.gcd g n : Nat)) (by omega)
  have c := h3 (e + i) (by omega)
  rw [show (e + (i : Int) - e).toNat = i by omega, Nat.mod_eq_of_lt (by omega)] at a
  rw [show (e + (i : Int) + (Nat.gcd g n : Nat) - e).toNat = i + Nat.gcd g n by omega, Nat.mod_eq_of_lt hi] at b
  rw [← a, ← b, c]
/-! ### rows -/
/-- a row as the law writes it: whether it is a ring, left, middle, right, start -/
structure Rw (α : Type) where
  ring : Bool
  l : List α
  m : List α
  r : List α
  s : Int
variable [Inhabited α]
/-- the arrow at t -/
def Rw.at (R : Rw α) (t : Int) : α :=
  if t < R.s then R.l.getD (((t - R.s) % (R.l.length : Int)).toNat) default
  else if t - R.s < R.m.length then R.m.getD (t - R.s).toNat default
  else R.r.getD (((t - R.s - R.m.length) % (R.r.length : Int)).toNat) default
def seg (f : Int → α) (a : Int) (k : Nat) : List α := (List.range k).map fun i : Nat => f (a + (i : Int))
theorem seg_len {f : Int → α} {a : Int} {k : Nat} : (seg f a k).length = k := by simp [seg]
theorem seg_getD {f : Int → α} {a : Int} {k i : Nat} (h : i < k) : (seg f a k).getD i default = f (a + i) := by
  unfold seg
  rw [List.getD_eq_getElem?_getD, List.getElem?_map, List.getElem?_range h]
  rfl
theorem seg_congr {f g : Int → α} {a b : Int} {k : Nat} (h : ∀ i : Nat, i < k → f (a + i) = g (b + i)) : seg f a k = seg g b k := by
  unfold seg
  exact List.map_congr_left fun i hi => h i (List.mem_range.mp hi)
/-- the least periods at last -/
def RMin (f : Int → α) (n : Nat) : Prop := RP f n ∧ ∀ g, RP f g → n ≤ g
def LMin (f : Int → α) (n : Nat) : Prop := RMin (fun t => f (-t)) n
/-- R is the one least writing of f -/
def Cn (f : Int → α) (R : Rw α) : Prop :=
  (∃ n, RMin f n ∧ (∀ t, f (t + n) = f t) ∧ R = ⟨true, seg f 0 n, [], seg f 0 n, 0⟩) ∨
  ∃ (n p : Nat) (b E : Int), RMin f n ∧ LMin f p ∧ (∀ t, b ≤ t → f (t + n) = f t) ∧ f (b - 1 + n) ≠ f (b - 1) ∧ (∀ t, t < E → f (t - p) = f t) ∧ f (E - p) ≠ f E ∧
    R = ⟨false, seg f (min b E - p) p, seg f (min b E) (b - min b E).toNat, seg f b n, min b E⟩
theorem RMin.uniq {f : Int → α} {n m : Nat} (a : RMin f n) (b : RMin f m) : n = m := Nat.le_antisymm (a.2 m b.1) (b.2 n a.1)
theorem Cn.uniq {f : Int → α} {R S : Rw α} (a : Cn f R) (b : Cn f S) : R = S := by
  rcases a with ⟨n, a1, a2, rfl⟩ | ⟨n, p, x, E, a1, a2, a3, a4, a5, a6, rfl⟩ <;> rcases b with ⟨n', b1, b2, rfl⟩ | ⟨n', p', x', E', b1, b2, b3, b4, b5, b6, rfl⟩
  · rw [a1.uniq b1]
  · rw [a1.uniq b1] at a2
    exact absurd (a2 _) b4
  · rw [b1.uniq a1] at b2
    exact absurd (b2 _) a4
  · obtain rfl := a1.uniq b1
    obtain rfl := a2.uniq b2
    have h1 : x = x' := by
      rcases Int.lt_trichotomy x x' with h | h | h
      · exact absurd (a3 (x' - 1) (by omega)) b4
      · exact h
      · exact absurd (b3 (x - 1) (by omega)) a4
    have h2 : E = E' := by
      rcases Int.lt_trichotomy E E' with h | h | h
      · exact absurd (b5 E h) a6
      · exact h
      · exact absurd (a5 E' h) b6
    rw [h1, h2]
theorem mod_shift {f : Int → α} {n : Nat} {a : Int} (h : ∀ t, a ≤ t → f (t + n) = f t) (n0 : 0 < n) {t : Int} (ht : a ≤ t) : f (a + (t - a) % (n : Int)) = f t := by
  have := From.mul (g := n) h ((t - a) / (n : Int)).toNat (a + (t - a) % (n : Int)) (by have := Int.emod_nonneg (t - a) (show (n : Int) ≠ 0 by omega); omega)
  rw [← this]
  congr 1
  have h1 := Int.emod_add_mul_ediv (t - a) (n : Int)
  have h2 := Int.ediv_nonneg (show 0 ≤ t - a by omega) (show (0 : Int) ≤ n by omega)
  rw [Int.natCast_mul, Int.toNat_of_nonneg h2, Int.mul_comm]
  omega
theorem all_mod {f : Int → α} {n : Nat} (h : ∀ t, f (t + n) = f t) (n0 : 0 < n) (t : Int) : f (t % (n : Int)) = f t := by
  have h1 := Int.emod_add_mul_ediv t (n : Int)
  have key : ∀ k : Nat, ∀ u, f (u + (k * n : Nat)) = f u := fun k u => From.mul (T := u) (g := n) (fun t _ => h t) k u (Int.le_refl _)
  rcases Int.le_total 0 (t / (n : Int)) with q | q
  · rw [← key (t / (n : Int)).toNat]
    congr 1
    rw [Int.natCast_mul, Int.toNat_of_nonneg q, Int.mul_comm]
    omega
  · rw [← key (-(t / (n : Int))).toNat t]
    congr 1
    rw [Int.natCast_mul, Int.toNat_of_nonneg (show 0 ≤ -(t / (n : Int)) by omega), Int.neg_mul, Int.mul_comm]
    omega
theorem left_mod {f : Int → α} {n : Nat} {e : Int} (h : ∀ t, t < e → f (t - n) = f t) (n0 : 0 < n) {L t : Int} (hL : L ≤ e) (ht : t < L) : f (L - n + (t - L) % (n : Int)) = f t := by
  have hm : From (fun t => f (-t)) (1 - e) n := fun u hu => by
    show f (-(u + n)) = f (-u)
    rw [← h (-u) (by omega)]
    congr 1
    omega
  have h1 := Int.emod_add_mul_ediv (t - L) (n : Int)
  have h2 := Int.emod_nonneg (t - L) (show (n : Int) ≠ 0 by omega)
  have h3 := Int.emod_lt_of_pos (t - L) (show (0 : Int) < n by omega)
  have hq : (t - L) / (n : Int) < 0 := Int.ediv_lt_of_lt_mul (by omega) (by omega)
  have := hm.mul (-((t - L) / (n : Int)) - 1).toNat (-(L - n + (t - L) % (n : Int))) (by omega)
  simp only [Int.neg_neg] at this
  rw [← this]
  congr 1
  rw [Int.natCast_mul, Int.toNat_of_nonneg (by omega), Int.sub_mul, Int.neg_mul, Int.mul_comm _ (n : Int)]
  omega
theorem Cn.at {f : Int → α} {R : Rw α} (h : Cn f R) (t : Int) : R.at t = f t := by
  rcases h with ⟨n, a1, a2, rfl⟩ | ⟨n, p, b, E, a1, a2, a3, a4, a5, a6, rfl⟩
  · have n0 := a1.1.1
    have h2 := Int.emod_nonneg t (show (n : Int) ≠ 0 by omega)
    have h3 := Int.emod_lt_of_pos t (show (0 : Int) < n by omega)
    have key : (seg f 0 n).getD (t % (n : Int)).toNat default = f t := by
      rw [seg_getD (by omega), ← all_mod a2 n0 t]
      congr 1
      omega
    simp only [Rw.at, seg_len, Int.sub_zero, List.length_nil]
    split
    · exact key
    · split
      · omega
      · rw [show t - ((0 : Nat) : Int) = t by omega]
        exact key
  · have n0 := a1.1.1
    have p0 := a2.1.1
    have hm : min b E ≤ b := Int.min_le_left ..
    have hm2 : min b E ≤ E := Int.min_le_right ..
    generalize min b E = L at hm hm2
    simp only [Rw.at, seg_len]
    split
    · rename_i c
      have h2 := Int.emod_nonneg (t - L) (show (p : Int) ≠ 0 by omega)
      have h3 := Int.emod_lt_of_pos (t - L) (show (0 : Int) < p by omega)
      rw [seg_getD (by omega), ← left_mod a5 p0 hm2 c]
      congr 1
      omega
    · split
      · rw [seg_getD (by omega)]
        congr 1
        omega
      · have h2 := Int.emod_nonneg (t - b) (show (n : Int) ≠ 0 by omega)
        have h3 := Int.emod_lt_of_pos (t - b) (show (0 : Int) < n by omega)
        rw [show t - L - ((b - L).toNat : Int) = t - b by omega, seg_getD (by omega), ← mod_shift a3 n0 (show b ≤ t by omega)]
        congr 1
        omega
end
end K03

namespace K03
section
variable {α : Type} [Inhabited α]
abbrev wd (l : List α) : Nat → α := fun i => l.getD i default
theorem pd_rev {w : Nat → α} {n d : Nat} (h : Pd w n d) : Pd (fun i => w (n - 1 - i)) n d := ⟨h.1, fun i hi => by
  have := h.2 (n - 1 - (i + d)) (by omega)
  show w (n - 1 - i) = w (n - 1 - (i + d))
  rw [this]
  congr 1
  omega⟩
theorem pd_rev2 {w : Nat → α} {n d : Nat} (h : Pd (fun i => w (n - 1 - i)) n d) : Pd w n d := ⟨h.1, fun i hi => by
  have := h.2 (n - 1 - (i + d)) (by omega)
  have e1 : n - 1 - (n - 1 - (i + d)) = i + d := by omega
  have e2 : n - 1 - (n - 1 - (i + d) + d) = i := by omega
  simp only [e1, e2] at this
  exact this.symm⟩
theorem prim_rev {w : Nat → α} {n q : Nat} (h : Prim w n q) : Prim (fun i => w (n - 1 - i)) n q := ⟨h.dvd, pd_rev h.pd, fun d h1 h2 => h.least d h1 (pd_rev2 h2)⟩
theorem rmin_of {f : Int → α} {e : Int} {w : Nat → α} {n q : Nat} (n0 : 0 < n) (h : Rpt f e w n) (hq : Prim w n q) : RMin f q ∧ From f e q :=
  ⟨⟨⟨hq.pd.1, e, h.from n0 hq.dvd hq.pd⟩, fun g hg => h.least n0 hq hg⟩, h.from n0 hq.dvd hq.pd⟩
/-- what the two ends of a row are -/
structure Vr (R : Rw α) : Prop where
  l0 : 0 < R.l.length
  r0 : 0 < R.r.length
abbrev Rw.e (R : Rw α) : Int := R.s + R.m.length
theorem at_right {R : Rw α} (v : Vr R) : Rpt R.at R.e (wd R.r) R.r.length := fun t ht => by
  have hm : (0 : Int) ≤ R.m.length := by omega
  have r0 := v.r0
  have h1 : R.s + R.m.length ≤ t := ht
  show R.at t = R.r.getD _ default
  unfold Rw.at
  rw [if_neg (by omega), if_neg (by omega)]
  congr 1
  rw [show t - R.s - R.m.length = t - R.e by show t - R.s - R.m.length = t - (R.s + R.m.length); omega]
  have h2 : 0 ≤ t - R.e := by omega
  generalize t - R.e = u at h2
  obtain ⟨i, rfl⟩ := Int.eq_ofNat_of_zero_le h2
  rw [← Int.natCast_emod, Int.toNat_natCast, Int.toNat_natCast]
theorem at_left {R : Rw α} (v : Vr R) : Rpt (fun t => R.at (-t)) (1 - R.s) (fun i => wd R.l (R.l.length - 1 - i)) R.l.length := fun t ht => by
  have l0 := v.l0
  show R.at (-t) = R.l.getD _ default
  unfold Rw.at
  rw [if_pos (by omega)]
  congr 1
  obtain ⟨i, hi⟩ := Int.eq_ofNat_of_zero_le (show 0 ≤ t - (1 - R.s) by omega)
  rw [hi, Int.toNat_natCast, show -t - R.s = -((i : Int) + 1) by omega]
  have h1 := Nat.mod_lt i l0
  have h2 := Nat.mod_add_div i R.l.length
  have e : -((i : Int) + 1) = ((R.l.length - 1 - i % R.l.length : Nat) : Int) + (R.l.length : Int) * (-((i / R.l.length : Nat) : Int) - 1) := by
    rw [Int.mul_sub, Int.mul_neg, ← Int.natCast_mul, Int.mul_one]
    omega
  rw [e, Int.add_mul_emod_self_left, Int.emod_eq_of_lt (by omega) (by omega), Int.toNat_natCast]
theorem left_of {f : Int → α} {s : Int} {p : Nat} (h : From (fun t => f (-t)) (1 - s) p) : ∀ t, t < s → f (t - p) = f t := fun t ht => by
  have := h (-t) (by omega)
  simp only [Int.neg_neg] at this
  rw [← this]
  congr 1
  omega
theorem left_from {f : Int → α} {s : Int} {p : Nat} (h : ∀ t, t < s → f (t - p) = f t) : From (fun t => f (-t)) (1 - s) p := fun t ht => by
  show f (-(t + p)) = f (-t)
  rw [← h (-t) (by omega)]
  congr 1
  omega
theorem left_mul {f : Int → α} {s : Int} {p : Nat} (h : ∀ t, t < s → f (t - p) = f t) (k : Nat) {t : Int} (ht : t < s) : f (t - (k * p : Nat)) = f t := by
  have := (left_from h).mul k (-t) (by omega)
  simp only [Int.neg_neg] at this
  rw [← this]
  congr 1
  omega
/-- some shift of t by multiples of p lands within the p numbers from a on -/
theorem land (a t : Int) {p : Nat} (p0 : 0 < p) (h : t < a) : ∃ k : Nat, a ≤ t + (k * p : Nat) ∧ t + (k * p : Nat) < a + p := by
  refine ⟨((a - t + p - 1) / (p : Int)).toNat, ?_⟩
  have h1 := Int.emod_add_mul_ediv (a - t + p - 1) (p : Int)
  have h2 := Int.emod_nonneg (a - t + p - 1) (show (p : Int) ≠ 0 by omega)
  have h3 := Int.emod_lt_of_pos (a - t + p - 1) (show (0 : Int) < p by omega)
  have h4 := Int.ediv_nonneg (show 0 ≤ a - t + p - 1 by omega) (show (0 : Int) ≤ p by omega)
  rw [Int.natCast_mul, Int.toNat_of_nonneg h4, Int.mul_comm]
  omega
theorem land_down (a t : Int) {p : Nat} (p0 : 0 < p) (h : a ≤ t) : ∃ k : Nat, a ≤ t - (k * p : Nat) ∧ t - (k * p : Nat) < a + p := by
  refine ⟨((t - a) / (p : Int)).toNat, ?_⟩
  have h1 := Int.emod_add_mul_ediv (t - a) (p : Int)
  have h2 := Int.emod_nonneg (t - a) (show (p : Int) ≠ 0 by omega)
  have h3 := Int.emod_lt_of_pos (t - a) (show (0 : Int) < p by omega)
  have h4 := Int.ediv_nonneg (show 0 ≤ t - a by omega) (show (0 : Int) ≤ p by omega)
  rw [Int.natCast_mul, Int.toNat_of_nonneg h4, Int.mul_comm]
  omega
theorem ring_all {f : Int → α} {s e : Int} {n p : Nat} (p0 : 0 < p) (hr : From f e n) (hl : ∀ t, t < s → f (t - p) = f t) (hc : ∀ t, s - p - n ≤ t → t < e → f t = f (t + n)) : ∀ t, f (t + n) = f t := fun t => by
  by_cases h1 : e ≤ t
  · exact hr t h1
  · by_cases h2 : s - p - n ≤ t
    · exact (hc t h2 (by omega)).symm
    · obtain ⟨k, k1, k2⟩ := land (s - p - n) t p0 (by omega)
      generalize hN : k * p = N at k1 k2
      have a := left_mul hl k (t := t + (N : Int)) (by omega)
      have b := left_mul hl k (t := t + (N : Int) + n) (by omega)
      rw [hN] at a b
      rw [show t + (N : Int) - N = t by omega] at a
      rw [show t + (N : Int) + n - N = t + n by omega] at b
      rw [a, b]
      by_cases h3 : t + (N : Int) < e
      · exact (hc _ k1 h3).symm
      · exact hr _ (by omega)
theorem cn_ring {f : Int → α} {s e : Int} {n p : Nat} (hn : RMin f n) (hp : LMin f p) (hr : From f e n) (hl : ∀ t, t < s → f (t - p) = f t) (hc : ∀ t, s - p - n ≤ t → t < e → f t = f (t + n)) : Cn f ⟨true, seg f 0 n, [], seg f 0 n, 0⟩ ∧ p = n := by
  have n0 := hn.1.1
  have p0 := hp.1.1
  have all := ring_all p0 hr hl hc
  refine ⟨.inl ⟨n, hn, all, rfl⟩, Nat.le_antisymm (hp.2 n ⟨n0, 0, fun t _ => ?_⟩) (hn.2 p ⟨p0, 0, fun t _ => ?_⟩)⟩
  · show f (-(t + n)) = f (-t)
    rw [← all (-(t + n))]
    congr 1
    omega
  · have sh : ∀ (k : Nat) (u : Int), f (u - (k * n : Nat)) = f u := fun k u => by
      have := From.mul (T := u - (k * n : Nat)) (g := n) (fun t _ => all t) k (u - (k * n : Nat)) (Int.le_refl _)
      rw [← this]
      congr 1
      omega
    by_cases q : t + p < s
    · rw [← hl (t + p) q]
      congr 1
      omega
    · obtain ⟨k, k1, k2⟩ := land_down (s - n) (t + p) n0 (by omega)
      rw [← sh k (t + p), ← sh k t, ← hl (t + p - (k * n : Nat)) (by omega)]
      congr 1
      omega
theorem cn_ended {f : Int → α} {s e b E : Int} {n p : Nat} (hn : RMin f n) (hp : LMin f p) (hr : From f e n) (hl : ∀ t, t < s → f (t - p) = f t)
    (hse : s ≤ e) (hb : b ≤ e) (hb1 : ∀ t, b ≤ t → t < e → f t = f (t + n)) (hb2 : f (b - 1) ≠ f (b - 1 + n)) (hE : s ≤ E) (hE1 : ∀ t, s ≤ t → t < E → f t = f (t - p)) (hE2 : E = e + p + n ∨ f E ≠ f (E - p)) :
    Cn f ⟨false, seg f (min b E - p) p, seg f (min b E) (b - min b E).toNat, seg f b n, min b E⟩ := by
  have n0 := hn.1.1
  have p0 := hp.1.1
  refine .inr ⟨n, p, b, E, hn, hp, fun t ht => ?_, fun q => hb2 q.symm, fun t ht => ?_, ?_, rfl⟩
  · by_cases q : t < e
    · exact (hb1 t ht q).symm
    · exact hr t (by omega)
  · by_cases q : t < s
    · exact hl t q
    · exact (hE1 t (by omega) ht).symm
  · rcases hE2 with h | h
    · exfalso
      have down : ∀ (k : Nat) (u : Int), e ≤ u - (k * n : Nat) → f (u - (k * n : Nat)) = f u := fun k u hu => by
        have := hr.mul k (u - (k * n : Nat)) hu
        rw [← this]
        congr 1
        omega
      have all : ∀ t, f (t - p) = f t := fun t => by
        by_cases q : t < s
        · exact hl t q
        · by_cases q2 : t < E
          · exact (hE1 t (by omega) q2).symm
          · obtain ⟨k, k1, k2⟩ := land_down (e + p) t n0 (by omega)
            rw [← down k t (by omega), ← down k (t - p) (by omega), show t - p - ((k * n : Nat) : Int) = t - ((k * n : Nat) : Int) - p by omega]
            exact (hE1 _ (by omega) (by omega)).symm
      have up : ∀ (k : Nat) (u : Int), f (u + (k * p : Nat)) = f u := fun k u => by
        have := left_mul (s := u + (k * p : Nat) + 1) (fun t _ => all t) k (t := u + (k * p : Nat)) (by omega)
        rw [← this]
        congr 1
        omega
      apply hb2
      obtain ⟨k, k1⟩ : ∃ k : Nat, e ≤ b - 1 + (k * p : Nat) := by
        by_cases q : e ≤ b - 1
        · exact ⟨0, by omega⟩
        · obtain ⟨k, k1, _⟩ := land e (b - 1) p0 (by omega)
          exact ⟨k, k1⟩
      rw [← up k (b - 1), ← up k (b - 1 + n), show b - 1 + (n : Int) + ((k * p : Nat) : Int) = b - 1 + ((k * p : Nat) : Int) + n by omega]
      exact (hr _ k1).symm
    · exact fun q => h q.symm
/-- two rows that agree on the law's window agree -/
theorem window {R S : Rw α} (vR : Vr R) (vS : Vr S) (h : ∀ t, min R.s S.s - (R.l.length * S.l.length : Nat) ≤ t → t < max R.e S.e + (R.r.length * S.r.length : Nat) → R.at t = S.at t) : ∀ t, R.at t = S.at t := fun t => by
  have mulp : ∀ {a b : Nat}, 0 < a → 0 < b → 0 < a * b := fun h1 h2 => Nat.mul_pos h1 h2
  have ll := mulp vR.l0 vS.l0
  have rr := mulp vR.r0 vS.r0
  have lR : ∀ t, t < R.s → R.at (t - (R.l.length * S.l.length : Nat)) = R.at t := fun t ht => by
    have := left_mul (left_of ((at_left vR).from vR.l0 (Nat.dvd_refl _) (pd_self vR.l0))) S.l.length ht
    rwa [Nat.mul_comm] at this
  have lS : ∀ t, t < S.s → S.at (t - (R.l.length * S.l.length : Nat)) = S.at t := fun t ht => left_mul (left_of ((at_left vS).from vS.l0 (Nat.dvd_refl _) (pd_self vS.l0))) R.l.length ht
  have rR : From R.at R.e (R.r.length * S.r.length) := by
    have := ((at_right vR).from vR.r0 (Nat.dvd_refl _) (pd_self vR.r0)).mul S.r.length
    rwa [Nat.mul_comm] at this
  have rS : From S.at S.e (R.r.length * S.r.length) := ((at_right vS).from vS.r0 (Nat.dvd_refl _) (pd_self vS.r0)).mul R.r.length
  generalize R.l.length * S.l.length = A at *
  generalize R.r.length * S.r.length = B at *
  have m1 : min R.s S.s ≤ R.s := Int.min_le_left ..
  have m2 : min R.s S.s ≤ S.s := Int.min_le_right ..
  have m3 : R.e ≤ max R.e S.e := Int.le_max_left ..
  have m4 : S.e ≤ max R.e S.e := Int.le_max_right ..
  have m5 : R.s ≤ R.e := by show R.s ≤ R.s + _; omega
  generalize min R.s S.s = lo at *
  generalize max R.e S.e = hi at *
  by_cases h1 : t < lo - A
  · obtain ⟨k, k1, k2⟩ := land (lo - A) t ll h1
    have a := left_mul (s := R.s) lR k (t := t + (k * A : Nat)) (by omega)
    have b := left_mul (s := S.s) lS k (t := t + (k * A : Nat)) (by omega)
    rw [show t + ((k * A : Nat) : Int) - ((k * A : Nat) : Int) = t by omega] at a b
    rw [a, b]
    exact h _ k1 (by omega)
  · by_cases h2 : t < hi + B
    · exact h t (by omega) h2
    · obtain ⟨k, k1, k2⟩ := land_down hi t rr (by omega)
      have a := rR.mul k (t - (k * B : Nat)) (by omega)
      have b := rS.mul k (t - (k * B : Nat)) (by omega)
      rw [show t - ((k * B : Nat) : Int) + ((k * B : Nat) : Int) = t by omega] at a b
      rw [a, b]
      exact h _ (by omega) (by omega)
end
end K03

namespace K03
section
variable {α : Type} [Inhabited α]
/-- a ring row as the law writes it -/
abbrev rg (l : List α) : Rw α := ⟨true, l, [], l, 0⟩
theorem ring_at {l : List α} (h : 0 < l.length) (t : Int) : (rg l).at t = l.getD (t % (l.length : Int)).toNat default := by
  simp only [Rw.at, Int.sub_zero, List.length_nil]
  split
  · rfl
  · rw [if_neg (by omega)]
    rw [show t - ((0 : Nat) : Int) = t by omega]
theorem vr_ring {l : List α} (h : 0 < l.length) : Vr (rg l) := ⟨h, h⟩
theorem getD_take {l : List α} {q i : Nat} (h : i < q) : (l.take q).getD i default = l.getD i default := by
  rw [List.getD_eq_getElem?_getD, List.getD_eq_getElem?_getD, List.getElem?_take_of_lt h]
theorem ext_getD {a b : List α} (h : a.length = b.length) (e : ∀ i, i < a.length → a.getD i default = b.getD i default) : a = b := by
  apply List.ext_getElem h
  intro i h1 h2
  have := e i h1
  rwa [List.getD_eq_getElem?_getD, List.getD_eq_getElem?_getD, List.getElem?_eq_getElem h1, List.getElem?_eq_getElem h2] at this
theorem cn_of_ring {l : List α} {q : Nat} (h : 0 < l.length) (hq : Prim (wd l) l.length q) : Cn (rg l).at (rg (l.take q)) := by
  have v := vr_ring h
  have hr := rmin_of v.r0 (at_right v) hq
  have hl := rmin_of v.l0 (at_left v) (prim_rev hq)
  have hle : q ≤ l.length := Nat.le_of_dvd h hq.dvd
  have key : ∀ t, (rg l).at t = (rg l).at (t + q) := fun t => by
    obtain ⟨k, k1⟩ : ∃ k : Nat, 0 ≤ t + (k * l.length : Nat) := by
      by_cases c : 0 ≤ t
      · exact ⟨0, by omega⟩
      · obtain ⟨k, k1, _⟩ := land 0 t h (by omega)
        exact ⟨k, k1⟩
    have per : ∀ u, (rg l).at (u + (k * l.length : Nat)) = (rg l).at u := fun u => by
      rw [ring_at h, ring_at h, Int.natCast_mul, Int.mul_comm, Int.add_mul_emod_self_left]
    rw [← per t, ← per (t + q), show t + (q : Int) + ((k * l.length : Nat) : Int) = t + ((k * l.length : Nat) : Int) + q by omega]
    exact (hr.2 _ (by show (0 : Int) + (([] : List α).length : Int) ≤ _; rw [List.length_nil]; omega)).symm
  have := (cn_ring hr.1 hl.1 hr.2 (left_of hl.2) (fun t _ _ => key t)).1
  have e : seg (rg l).at 0 q = l.take q := by
    refine ext_getD (by rw [seg_len, List.length_take]; omega) fun i hi => ?_
    rw [seg_len] at hi
    rw [seg_getD hi, getD_take hi, ring_at h, Int.zero_add, Int.emod_eq_of_lt (by omega) (by omega), Int.toNat_natCast]
  rw [e] at this
  exact this
/-- a row moved -/
def turn (l : List α) (k : Int) : List α := l.drop (k % (l.length : Int)).toNat ++ l.take (k % (l.length : Int)).toNat
def mv (R : Rw α) (k : Int) : Rw α := if R.ring = true then rg (turn R.l k) else ⟨false, R.l, R.m, R.r, R.s - k⟩
theorem turn_len {l : List α} {k : Int} : (turn l k).length = l.length := by
  unfold turn
  rw [List.length_append, List.length_drop, List.length_take]
  omega
theorem turn_getD {l : List α} {k : Int} (h : 0 < l.length) {i : Nat} (hi : i < l.length) : (turn l k).getD i default = l.getD ((k + i) % (l.length : Int)).toNat default := by
  have h2 := Int.emod_nonneg k (show (l.length : Int) ≠ 0 by omega)
  have h3 := Int.emod_lt_of_pos k (show (0 : Int) < l.length by omega)
  have e : (k + (i : Int)) % (l.length : Int) = (k % (l.length : Int) + i) % (l.length : Int) := by rw [Int.emod_add_emod]
  rw [e]
  unfold turn
  generalize k % (l.length : Int) = a at h2 h3
  obtain ⟨a, rfl⟩ := Int.eq_ofNat_of_zero_le h2
  rw [Int.toNat_natCast, ← Int.natCast_add, ← Int.natCast_emod, Int.toNat_natCast]
  by_cases c : i < l.length - a
  · rw [List.getD_eq_getElem?_getD, List.getElem?_append_left (by rw [List.length_drop]; omega), List.getElem?_drop, ← List.getD_eq_getElem?_getD, Nat.mod_eq_of_lt (by omega)]
  · rw [List.getD_eq_getElem?_getD, List.getElem?_append_right (by rw [List.length_drop]; omega), List.length_drop, ← List.getD_eq_getElem?_getD, getD_take (by omega)]
    congr 1
    rw [show a + i = (i - (l.length - a)) + l.length by omega, Nat.add_mod_right, Nat.mod_eq_of_lt (by omega)]
theorem rmin_shift {f : Int → α} {n : Nat} {k : Int} (h : RMin f n) : RMin (fun t => f (t + k)) n := by
  refine ⟨⟨h.1.1, ?_⟩, fun g hg => h.2 g ⟨hg.1, ?_⟩⟩
  · obtain ⟨T, hT⟩ := h.1.2
    refine ⟨T - k, fun t ht => ?_⟩
    show f (t + n + k) = f (t + k)
    rw [← hT (t + k) (by omega)]
    congr 1
    omega
  · obtain ⟨T, hT⟩ := hg.2
    refine ⟨T + k, fun t ht => ?_⟩
    have := hT (t - k) (by omega)
    simp only at this
    rw [show t - k + (g : Int) + k = t + g by omega, show t - k + k = t by omega] at this
    exact this
theorem lmin_shift {f : Int → α} {n : Nat} {k : Int} (h : LMin f n) : LMin (fun t => f (t + k)) n := by
  have := rmin_shift (k := -k) h
  have e : (fun t => (fun t => f (-t)) (t + -k)) = fun t => (fun t => f (t + k)) (-t) := by
    funext t
    show f (-(t + -k)) = f (-t + k)
    congr 1
    omega
  unfold LMin
  rw [← e]
  exact this
theorem cn_mv {f : Int → α} {R : Rw α} (h : Cn f R) (k : Int) : Cn (fun t => f (t + k)) (mv R k) := by
  rcases h with ⟨n, a1, a2, rfl⟩ | ⟨n, p, b, E, a1, a2, a3, a4, a5, a6, rfl⟩
  · refine .inl ⟨n, rmin_shift a1, fun t => ?_, ?_⟩
    · show f (t + n + k) = f (t + k)
      rw [← a2 (t + k)]
      congr 1
      omega
    · have n0 := a1.1.1
      have e : turn (seg f 0 n) k = seg (fun t => f (t + k)) 0 n := by
        refine ext_getD (by rw [turn_len, seg_len, seg_len]) fun i hi => ?_
        rw [turn_len, seg_len] at hi
        have h2 := Int.emod_nonneg (k + i) (show (n : Int) ≠ 0 by omega)
        have h3 := Int.emod_lt_of_pos (k + i) (show (0 : Int) < n by omega)
        rw [turn_getD (by rw [seg_len]; omega) (by rw [seg_len]; exact hi), seg_len, seg_getD (by omega), seg_getD hi, show (0 : Int) + (((k + (i : Int)) % (n : Int)).toNat : Int) = (k + (i : Int)) % (n : Int) by omega, all_mod a2 n0]
        congr 1
        omega
      unfold mv
      rw [if_pos rfl, e]
  · have eL : min (b - k) (E - k) = min b E - k := by omega
    refine .inr ⟨n, p, b - k, E - k, rmin_shift a1, lmin_shift a2, fun t ht => ?_, ?_, fun t ht => ?_, ?_, ?_⟩
    · show f (t + n + k) = f (t + k)
      rw [← a3 (t + k) (by omega)]
      congr 1
      omega
    · show ¬ f (b - k - 1 + n + k) = f (b - k - 1 + k)
      rw [show b - k - 1 + (n : Int) + k = b - 1 + n by omega, show b - k - 1 + k = b - 1 by omega]
      exact a4
    · show f (t - p + k) = f (t + k)
      rw [← a5 (t + k) (by omega)]
      congr 1
      omega
    · show ¬ f (E - k - p + k) = f (E - k + k)
      rw [show E - k - (p : Int) + k = E - p by omega, show E - k + k = E by omega]
      exact a6
    · unfold mv
      rw [if_neg (fun h => Bool.noConfusion h), eL]
      congr 1
      · exact seg_congr fun i _ => by congr 1; omega
      · rw [show (b - k - (min b E - k)).toNat = (b - min b E).toNat by omega]
        exact seg_congr fun i _ => by congr 1; omega
      · exact seg_congr fun i _ => by congr 1; omega
theorem mv_mv {R : Rw α} {a b : Int} {f : Int → α} (h : Cn f R) : mv (mv R a) b = mv R (a + b) := by
  have h1 := cn_mv (cn_mv h a) b
  have h2 := cn_mv h (a + b)
  have e : (fun t => (fun t => f (t + a)) (t + b)) = fun t => f (t + (a + b)) := by
    funext t
    show f (t + b + a) = _
    congr 1
    omega
  rw [e] at h1
  exact h1.uniq h2
theorem mv_zero {R : Rw α} {f : Int → α} (h : Cn f R) : mv R 0 = R := by
  have h1 := cn_mv h 0
  have e : (fun t => f (t + 0)) = f := by funext t; congr 1; omega
  rw [e] at h1
  exact h1.uniq h
end
end K03

namespace K03
open PySem
/-! rows of the three names, with bounds -/
def NM : List Str := ["x", "yy", "[b|c]"]
structure Ko (B : Int) (R : Rw Str) : Prop where
  l0 : 0 < R.l.length
  l1 : R.l.length ≤ 30
  m1 : R.m.length ≤ 60
  r0 : 0 < R.r.length
  r1 : R.r.length ≤ 30
  nl : ∀ x ∈ R.l, x ∈ NM
  nm : ∀ x ∈ R.m, x ∈ NM
  nr : ∀ x ∈ R.r, x ∈ NM
  hrg : R.ring = true → R.m = [] ∧ R.r = R.l ∧ R.s = 0
  s1 : -B ≤ R.s
  s2 : R.s ≤ B
theorem Ko.vr {B : Int} {R : Rw Str} (h : Ko B R) : Vr R := ⟨h.l0, h.r0⟩
theorem Ko.mono {B C : Int} {R : Rw Str} (h : Ko B R) (hb : B ≤ C) : Ko C R := { h with s1 := by have := h.s1; omega, s2 := by have := h.s2; omega }
theorem getD_mem {l : List Str} {i : Nat} (h : i < l.length) : l.getD i default ∈ l := by
  rw [List.getD_eq_getElem?_getD, List.getElem?_eq_getElem h]
  exact List.getElem_mem h
theorem Ko.at {B : Int} {R : Rw Str} (h : Ko B R) (t : Int) : R.at t ∈ NM := by
  have l0 := h.l0
  have r0 := h.r0
  unfold Rw.at
  split
  · refine h.nl _ (getD_mem ?_)
    have := Int.emod_nonneg (t - R.s) (show (R.l.length : Int) ≠ 0 by omega)
    have := Int.emod_lt_of_pos (t - R.s) (show (0 : Int) < R.l.length by omega)
    omega
  · split
    · exact h.nm _ (getD_mem (by omega))
    · refine h.nr _ (getD_mem ?_)
      have := Int.emod_nonneg (t - R.s - R.m.length) (show (R.r.length : Int) ≠ 0 by omega)
      have := Int.emod_lt_of_pos (t - R.s - R.m.length) (show (0 : Int) < R.r.length by omega)
      omega
theorem seg_mem {f : Int → Str} {a : Int} {k : Nat} (h : ∀ t, f t ∈ NM) : ∀ x ∈ seg f a k, x ∈ NM := fun x hx => by
  unfold seg at hx
  obtain ⟨i, _, rfl⟩ := List.mem_map.mp hx
  exact h _
theorem cn_ko {B : Int} {R0 R : Rw Str} (k : Ko B R0) (hB : 0 ≤ B) (h : Cn R0.at R) : Ko (B + 200) R := by
  have rr := (at_right k.vr).from k.r0 (Nat.dvd_refl _) (pd_self k.r0)
  have ll := left_of ((at_left k.vr).from k.l0 (Nat.dvd_refl _) (pd_self k.l0))
  have hat := k.at
  have he : R0.e = R0.s + R0.m.length := rfl
  have nle : ∀ n, RMin R0.at n → n ≤ R0.r.length := fun n hn => hn.2 _ ⟨k.r0, _, rr⟩
  have ple : ∀ n, LMin R0.at n → n ≤ R0.l.length := fun n hn => hn.2 _ ⟨k.l0, _, left_from ll⟩
  have k1 := k.l1
  have k2 := k.r1
  have k3 := k.m1
  have k4 := k.s1
  have k5 := k.s2
  rcases h with ⟨n, a1, a2, rfl⟩ | ⟨n, p, b, E, a1, a2, a3, a4, a5, a6, rfl⟩
  · have := nle n a1
    have := a1.1.1
    exact ⟨by rw [seg_len]; omega, by rw [seg_len]; omega, by simp, by rw [seg_len]; omega, by rw [seg_len]; omega, seg_mem hat, fun x hx => (by cases hx), seg_mem hat, fun _ => ⟨rfl, rfl, rfl⟩, by show -(B + 200) ≤ 0; omega, by show (0 : Int) ≤ B + 200; omega⟩
  · have hn := nle n a1
    have hp := ple p a2
    have n0 := a1.1.1
    have p0 := a2.1.1
    -- from where the least periods hold
    have rn : From R0.at R0.e n := from_back k.r0 rr (fun t ht => a3 t ht)
    have lp : ∀ t, t < R0.s → R0.at (t - p) = R0.at t := left_of (from_back k.l0 (left_from ll) (left_from a5))
    have hb : b ≤ R0.e := by
      rcases Int.lt_or_le R0.e b with q | q
      · exact absurd (rn (b - 1) (by omega)) a4
      · exact q
    have hE : R0.s ≤ E := by
      rcases Int.lt_or_le E R0.s with q | q
      · exact absurd (lp E q) a6
      · exact q
    have hb2 : R0.s - p - n < b := by
      rcases Int.lt_or_le (R0.s - p - n) b with q | q
      · exact q
      · exact absurd (ring_all (e := R0.e) p0 rn lp (fun t h1 h2 => (a3 t (by omega)).symm) (b - 1)) a4
    have m1 : min b E ≤ b := Int.min_le_left ..
    have m4 : b - min b E ≤ R0.m.length := by omega
    have m5 : R0.s - p - n < min b E := by omega
    generalize min b E = L at *
    refine ⟨by rw [seg_len]; omega, by rw [seg_len]; omega, by rw [seg_len]; omega, by rw [seg_len]; omega, by rw [seg_len]; omega, seg_mem hat, seg_mem hat, seg_mem hat, fun e => Bool.noConfusion e, ?_, ?_⟩
    · show -(B + 200) ≤ L
      omega
    · show L ≤ B + 200
      omega
theorem ko_mv {B : Int} {R : Rw Str} (h : Ko B R) {k : Int} {C : Int} (hk : -C ≤ k ∧ k ≤ C) (hB : 0 ≤ B) : Ko (B + C) (mv R k) := by
  unfold mv
  have a := h.s1
  have b := h.s2
  split
  · rename_i c
    have hm : ∀ x ∈ turn R.l k, x ∈ NM := fun x hx => by
      unfold turn at hx
      rcases List.mem_append.mp hx with q | q
      · exact h.nl x (List.mem_of_mem_drop q)
      · exact h.nl x (List.mem_of_mem_take q)
    exact ⟨by rw [turn_len]; exact h.l0, by rw [turn_len]; exact h.l1, by simp, by rw [turn_len]; exact h.l0, by rw [turn_len]; exact h.l1, hm, fun x hx => (by cases hx), hm, fun _ => ⟨rfl, rfl, rfl⟩, by show -(B + C) ≤ 0; omega, by show (0 : Int) ≤ B + C; omega⟩
  · exact ⟨h.l0, h.l1, h.m1, h.r0, h.r1, h.nl, h.nm, h.nr, fun e => Bool.noConfusion e, by show -(B + C) ≤ R.s - k; omega, by show R.s - k ≤ B + C; omega⟩
end K03

namespace K03
open PySem L2 SX TL
/-! texts of rows -/
abbrev sp : Str := " "
abbrev wO : Str := "("
abbrev wC : Str := ")"
abbrev wA : Str := "at"
def numI (i : Int) : Str := Str.ofString (toString i)
theorem num_pos (n : Nat) : numI (n : Int) = S (numL n) := num_S n
theorem num_neg {n : Nat} (h : 0 < n) : numI (-(n : Int)) = S (45 :: numL n) := by
  cases n with
  | zero => omega
  | succ m =>
    refine ext_tl ?_
    show (Str.ofString (toString (Int.negSucc m))).cps.toList = 45 :: numL (m + 1)
    have e : toString (Int.negSucc m) = "-" ++ Nat.repr (m + 1) := rfl
    rw [e, PyProof.Rows.signs_ofString, String.toList_append, List.map_append, Nat.toList_repr]
    rfl
theorem numL_head {n : Nat} (h : 0 < n) : ∃ c r, numL n = c :: r ∧ c ≠ 48 := by
  induction n using Nat.strongRecOn with
  | _ n ih =>
    by_cases c : n < 10
    · exact ⟨48 + n, [], numL_lt c, by omega⟩
    · obtain ⟨c, r, e, hc⟩ := ih (n / 10) (by omega) (by omega)
      exact ⟨c, r ++ [48 + n % 10], by rw [numL_step (by omega), e]; rfl, hc⟩
theorem num_read {i : Int} (h1 : -(10 ^ 18) < i) (h2 : i < 10 ^ 18) : PySem.intText? (numI i) = some i ∧ (numI i).length ≤ 19 := by
  rcases Int.le_total 0 i with h | h
  · obtain ⟨n, rfl⟩ := Int.eq_ofNat_of_zero_le h
    have hl := numL_len (n := n) (k := 18) (by decide) (by omega)
    exact ⟨int_num (by omega), by rw [num_pos, S_len]; omega⟩
  · obtain ⟨n, hn⟩ := Int.eq_ofNat_of_zero_le (show 0 ≤ -i by omega)
    have e : i = -(n : Int) := by omega
    subst e
    have hl := numL_len (n := n) (k := 18) (by decide) (by omega)
    by_cases h0 : n = 0
    · subst h0
      exact ⟨by decide +kernel, by decide +kernel⟩
    · rw [num_neg (by omega)]
      refine ⟨?_, by rw [S_len, List.length_cons]; omega⟩
      rw [intText_neg (cs := numL n) rfl (numL_digits n) (numL_ne n) (by rw [S_len, List.length_cons]; omega), numL_val]
theorem num_free {i : Int} : 32 ∉ tl (numI i) := by
  rcases Int.le_total 0 i with h | h
  · obtain ⟨n, rfl⟩ := Int.eq_ofNat_of_zero_le h
    rw [num_pos]
    exact numL_free (by omega)
  · obtain ⟨n, hn⟩ := Int.eq_ofNat_of_zero_le (show 0 ≤ -i by omega)
    have e : i = -(n : Int) := by omega
    subst e
    by_cases h0 : n = 0
    · subst h0
      show 32 ∉ tl (numI ((0 : Nat) : Int))
      rw [num_pos]
      exact numL_free (by omega)
    · rw [num_neg (by omega)]
      intro q
      rcases List.mem_cons.mp (show 32 ∈ 45 :: numL n from q) with z | z
      · cases z
      · exact numL_free (by omega) z
def wordsOf (R : Rw Str) : List Str :=
  if R.ring = true then [wO] ++ R.l ++ [wC] else [wO] ++ R.l ++ [wC] ++ R.m ++ [wO] ++ R.r ++ [wC] ++ (if R.s = 0 then [] else [wA, numI R.s])
def rowText (R : Rw Str) : Str := Txt.join sp (wordsOf R)
theorem tl_sp : tl sp = [32] := by decide +kernel
theorem nm_free : ∀ x ∈ NM, 32 ∉ tl x ∧ x.length ≤ 5 := fun x hx => by
  simp only [NM, List.mem_cons, List.not_mem_nil, or_false] at hx
  rcases hx with rfl | rfl | rfl <;> decide +kernel
/-- a word that is short and has no blank -/
def Wd (x : Str) : Prop := 32 ∉ tl x ∧ x.length ≤ 19
theorem wd_nm {x : Str} (h : x ∈ NM) : Wd x := ⟨(nm_free x h).1, by have := (nm_free x h).2; omega⟩
theorem wd_1 : Wd wO := by constructor <;> decide +kernel
theorem wd_2 : Wd wC := by constructor <;> decide +kernel
theorem wd_3 : Wd wA := by constructor <;> decide +kernel
theorem wd_num {i : Int} (h1 : -(10 ^ 18) < i) (h2 : i < 10 ^ 18) : Wd (numI i) := ⟨num_free, (num_read h1 h2).2⟩
theorem words_wd {B : Int} {R : Rw Str} (h : Ko B R) (hB : B < 10 ^ 18) : ∀ x ∈ wordsOf R, Wd x := by
  have s1 := h.s1
  have s2 := h.s2
  intro x hx
  unfold wordsOf at hx
  split at hx
  · simp only [List.mem_append, List.mem_singleton] at hx
    rcases hx with (rfl | hx) | rfl
    · exact wd_1
    · exact wd_nm (h.nl x hx)
    · exact wd_2
  · simp only [List.mem_append, List.mem_singleton] at hx
    rcases hx with ((((((rfl | hx) | rfl) | hx) | rfl) | hx) | rfl) | hx
    · exact wd_1
    · exact wd_nm (h.nl x hx)
    · exact wd_2
    · exact wd_nm (h.nm x hx)
    · exact wd_1
    · exact wd_nm (h.nr x hx)
    · exact wd_2
    · split at hx
      · cases hx
      · simp only [List.mem_cons, List.not_mem_nil, or_false] at hx
        rcases hx with rfl | rfl
        · exact wd_3
        · exact wd_num (by omega) (by omega)
theorem words_len {B : Int} {R : Rw Str} (h : Ko B R) : (wordsOf R).length ≤ 140 ∧ wordsOf R ≠ [] := by
  have a := h.l1
  have b := h.m1
  have c := h.r1
  unfold wordsOf
  split
  · exact ⟨by simp; omega, by simp⟩
  · refine ⟨?_, by simp⟩
    simp only [List.length_append, List.length_singleton]
    split <;> simp <;> omega
theorem sum_len : ∀ {ws : List Str} {k : Nat}, (∀ x ∈ ws, x.length ≤ k) → (ws.map (·.length)).sum ≤ ws.length * k
  | [], _, _ => by simp
  | w :: ws, k, h => by
    have := sum_len (ws := ws) (k := k) fun x hx => h x (List.mem_cons_of_mem _ hx)
    have := h w List.mem_cons_self
    simp only [List.map_cons, List.sum_cons, List.length_cons, Nat.succ_mul]
    omega
theorem join_fit {ws : List Str} (h : ∀ x ∈ ws, Wd x) (hl : ws.length ≤ 150) : (ws.map (·.length)).sum + ws.length * sp.length ≤ 16777216 ∧ (Txt.join sp ws).length ≤ 3000 := by
  have h1 := sum_len (k := 19) fun x hx => (h x hx).2
  have e : sp.length = 1 := by decide +kernel
  have h2 := StrLaws.join_length_le sp ws
  rw [← join_eq] at h2
  rw [e] at h2 ⊢
  have h3 : ws.length * 19 ≤ 150 * 19 := Nat.mul_le_mul_right _ hl
  exact ⟨by omega, by omega⟩
theorem split_words {ws : List Str} (h : ∀ x ∈ ws, Wd x) (h0 : ws ≠ []) : Txt.split (Txt.join sp ws) sp = ws :=
  split_join (S := []) tl_sp (by decide +kernel) h0 fun x hx => (h x hx).1
/-- the ways in which the program writes them -/
theorem tl_text (ws : List Str) : tl (Txt.join sp ws) = joinL [32] (ws.map tl) := by rw [join_eq, tl_join, tl_sp]
theorem joinL_app {S : List Nat} : ∀ {a b : List (List Nat)}, a ≠ [] → b ≠ [] → joinL S (a ++ b) = joinL S a ++ (S ++ joinL S b)
  | [], _, h, _ => absurd rfl h
  | [x], b, _, h => by
    cases b with
    | nil => exact absurd rfl h
    | cons y r => rfl
  | x :: y :: r, b, _, h => by
    show x ++ (S ++ joinL S (y :: r ++ b)) = x ++ (S ++ joinL S (y :: r)) ++ (S ++ joinL S b)
    rw [joinL_app (a := y :: r) (by simp) h]
    simp only [List.append_assoc]
theorem ring_text {l : List Str} (h : l ≠ []) : (("( " : Str) ++ Txt.join sp l) ++ (" )" : Str) = Txt.join sp ([wO] ++ l ++ [wC]) := by
  refine ext_tl ?_
  rw [tl_append, tl_append, tl_text, tl_text, List.map_append, List.map_append, joinL_app (by simp) (by simp), joinL_app (by simp) (by simpa using h)]
  have e1 : tl ("( " : Str) = [40, 32] := by decide +kernel
  have e2 : tl (" )" : Str) = [32, 41] := by decide +kernel
  have e3 : tl wO = [40] := by decide +kernel
  have e4 : tl wC = [41] := by decide +kernel
  simp only [List.map_cons, List.map_nil, e1, e2, e3, e4, joinL, List.append_assoc, List.cons_append, List.nil_append]
theorem at_text {ws : List Str} (h : ws ≠ []) (i : Int) : (Txt.join sp ws ++ (" at " : Str)) ++ numI i = Txt.join sp (ws ++ [wA, numI i]) := by
  refine ext_tl ?_
  rw [tl_append, tl_append, tl_text, tl_text, List.map_append, joinL_app (by simpa using h) (by simp)]
  have e1 : tl (" at " : Str) = [32, 97, 116, 32] := by decide +kernel
  have e2 : tl wA = [97, 116] := by decide +kernel
  simp only [List.map_cons, List.map_nil, e1, e2, joinL, List.append_assoc, List.cons_append, List.nil_append]
end K03

namespace K03
open PySem
theorem flat_getD {α : Type} {d : α} {w : List α} (h : 0 < w.length) : ∀ (c i : Nat), i < c * w.length → (List.replicate c w).flatten.getD i d = w.getD (i % w.length) d
  | 0, i, hi => by omega
  | c + 1, i, hi => by
    rw [List.replicate_succ, List.flatten_cons]
    by_cases q : i < w.length
    · rw [List.getD_eq_getElem?_getD, List.getElem?_append_left q, ← List.getD_eq_getElem?_getD, Nat.mod_eq_of_lt q]
    · rw [List.getD_eq_getElem?_getD, List.getElem?_append_right (by omega), ← List.getD_eq_getElem?_getD, flat_getD h c (i - w.length) (by rw [Nat.succ_mul] at hi; omega)]
      congr 1
      rw [show i = i - w.length + w.length by omega, Nat.add_mod_right, Nat.add_sub_cancel]
theorem flat_len {α : Type} {w : List α} (c : Nat) : (List.replicate c w).flatten.length = c * w.length := by
  induction c with
  | zero => simp
  | succ c ih => rw [List.replicate_succ, List.flatten_cons, List.length_append, ih, Nat.succ_mul]; omega
/-- the law's test of a shorter round -/
theorem prim_test {l : List Str} {d : Nat} (h0 : 0 < d) (hd : d ∣ l.length) : l = (List.replicate (l.length / d) (l.take d)).flatten ↔ Pd (wd l) l.length d := by
  obtain ⟨c, hc⟩ := hd
  by_cases l0 : l.length = 0
  · have : l = [] := List.eq_nil_of_length_eq_zero l0
    subst this
    simp
    exact ⟨h0, fun i hi => by simp at hi⟩
  have c0 : 0 < c := Nat.pos_of_ne_zero fun e => by rw [e] at hc; omega
  have hle : d ≤ l.length := by rw [hc]; exact Nat.le_mul_of_pos_right d c0
  have ed : l.length / d = c := by rw [hc]; exact Nat.mul_div_cancel_left c h0
  have el : (l.take d).length = d := by rw [List.length_take]; omega
  rw [ed]
  constructor
  · intro h
    have key : ∀ i, i < l.length → l.getD i default = l.getD (i % d) default := fun i hi => by
      conv => lhs; rw [h]
      rw [flat_getD (by omega) c i (by rw [el, Nat.mul_comm, ← hc]; exact hi), el, getD_take (Nat.mod_lt i h0)]
    refine ⟨h0, fun i hi => ?_⟩
    show l.getD i default = l.getD (i + d) default
    rw [key i (by omega), key (i + d) hi, Nat.add_mod_right]
  · intro h
    refine ext_getD (by rw [flat_len, el, Nat.mul_comm]; exact hc) fun i hi => ?_
    rw [flat_getD (by omega) c i (by rw [el, Nat.mul_comm, ← hc]; exact hi), el, getD_take (Nat.mod_lt i h0)]
    exact pd_mod h hi
/-- a row moved, by its arrows -/
theorem mv_at {B : Int} {R : Rw Str} (h : Ko B R) (k t : Int) : (mv R k).at t = R.at (t + k) := by
  unfold mv
  split
  · rename_i c
    obtain ⟨e1, e2, e3⟩ := h.hrg c
    have l0 := h.l0
    have e : R = rg R.l := by
      obtain ⟨a, l, m, r, s⟩ := R
      simp only at c e1 e2 e3
      subst c e1 e2 e3
      rfl
    rw [ring_at (by rw [turn_len]; exact l0), turn_len]
    have h2 := Int.emod_nonneg t (show (R.l.length : Int) ≠ 0 by omega)
    have h3 := Int.emod_lt_of_pos t (show (0 : Int) < R.l.length by omega)
    rw [turn_getD l0 (by omega)]
    conv => rhs; rw [e]
    rw [ring_at l0]
    congr 2
    rw [Int.toNat_of_nonneg h2, Int.add_comm k, Int.emod_add_emod]
  · simp only [Rw.at]
    rw [show t - (R.s - k) = t + k - R.s by omega]
    by_cases q : t + k < R.s
    · rw [if_pos q, if_pos (by omega)]
    · rw [if_neg q, if_neg (by omega)]
theorem turn_seg {l : List Str} (h : 0 < l.length) (k : Int) : seg (fun t => (rg l).at (t + k)) 0 l.length = turn l k := by
  refine ext_getD (by rw [seg_len, turn_len]) fun i hi => ?_
  rw [seg_len] at hi
  rw [seg_getD hi, turn_getD h hi, ring_at h, Int.zero_add, Int.add_comm]
/-! ### other writings of a row -/
theorem at_two {l : List Str} (h : 0 < l.length) (x : Int) (c : Nat) (hc : 0 < c) : (List.replicate c l).flatten.getD (x % ((List.replicate c l).flatten.length : Int)).toNat default = l.getD (x % (l.length : Int)).toNat default := by
  have hlen : 0 < c * l.length := Nat.mul_pos hc h
  have a1 := Int.emod_nonneg x (show ((c * l.length : Nat) : Int) ≠ 0 by omega)
  have a2 := Int.emod_lt_of_pos x (show (0 : Int) < ((c * l.length : Nat) : Int) by omega)
  rw [flat_len, flat_getD h c _ (by omega)]
  congr 1
  have e : (x % ((c * l.length : Nat) : Int)) % (l.length : Int) = x % (l.length : Int) := by
    rw [Int.natCast_mul]
    exact Int.emod_emod_of_dvd _ (Int.dvd_mul_left ..)
  obtain ⟨k, hk⟩ := Int.eq_ofNat_of_zero_le a1
  rw [hk] at e ⊢
  rw [Int.toNat_natCast, ← e, ← Int.natCast_emod, Int.toNat_natCast]
theorem wr_ring2 {l : List Str} (h : 0 < l.length) (t : Int) : (rg (List.replicate 2 l).flatten).at t = (rg l).at t := by
  rw [ring_at (by rw [flat_len]; omega), ring_at h]
  exact at_two h t 2 (by decide)
theorem wr_ring1 {l : List Str} (h : 0 < l.length) (t : Int) : (⟨false, l, l, l, 0⟩ : Rw Str).at t = (rg l).at t := by
  rw [ring_at h]
  simp only [Rw.at, Int.sub_zero]
  split
  · rfl
  · split
    · rw [Int.emod_eq_of_lt (by omega) (by omega)]
    · congr 2
      rw [← Int.add_mul_emod_self_left (t - l.length) (l.length : Int) 1, Int.mul_one, Int.sub_add_cancel]
theorem wr_end1 {l m r : List Str} {s : Int} (hl : 0 < l.length) (hr : 0 < r.length) (t : Int) : (⟨false, (List.replicate 2 l).flatten, m ++ r, r, s⟩ : Rw Str).at t = (⟨false, l, m, r, s⟩ : Rw Str).at t := by
  simp only [Rw.at]
  split
  · exact at_two hl _ 2 (by decide)
  · rw [List.length_append]
    by_cases c1 : t - s < m.length
    · rw [if_pos (by omega), if_pos c1, List.getD_eq_getElem?_getD, List.getElem?_append_left (by omega), ← List.getD_eq_getElem?_getD]
    · rw [if_neg c1]
      by_cases c2 : t - s < ((m.length + r.length : Nat) : Int)
      · rw [if_pos c2, List.getD_eq_getElem?_getD, List.getElem?_append_right (by omega), ← List.getD_eq_getElem?_getD, Int.emod_eq_of_lt (by omega) (by omega)]
        congr 1
        omega
      · rw [if_neg c2]
        congr 2
        rw [← Int.add_mul_emod_self_left (t - s - ((m.length + r.length : Nat) : Int)) (r.length : Int) 1, Int.mul_one]
        congr 1
        omega
/-- one sign turned from the end to the front, and from the front to the end -/
theorem rot_back {l : List Str} (h : 0 < l.length) (x : Int) : (l.drop (l.length - 1) ++ l.take (l.length - 1)).getD ((x + 1) % (l.length : Int)).toNat default = l.getD (x % (l.length : Int)).toNat default := by
  have e : l.drop (l.length - 1) ++ l.take (l.length - 1) = turn l (-1) := by
    unfold turn
    have : (-1 : Int) % (l.length : Int) = ((l.length - 1 : Nat) : Int) := by
      rw [← Int.add_mul_emod_self_left (-1) (l.length : Int) 1, Int.mul_one, Int.emod_eq_of_lt (by omega) (by omega)]
      omega
    rw [this, Int.toNat_natCast]
  have h2 := Int.emod_nonneg (x + 1) (show (l.length : Int) ≠ 0 by omega)
  have h3 := Int.emod_lt_of_pos (x + 1) (show (0 : Int) < l.length by omega)
  rw [e, turn_getD h (by omega)]
  congr 2
  rw [Int.toNat_of_nonneg h2, Int.add_comm, Int.emod_add_emod]
  congr 1
  omega
theorem rot_fwd {l : List Str} (h : 0 < l.length) (x : Int) : (l.drop 1 ++ l.take 1).getD ((x - 1) % (l.length : Int)).toNat default = l.getD (x % (l.length : Int)).toNat default := by
  have h2 := Int.emod_nonneg (x - 1) (show (l.length : Int) ≠ 0 by omega)
  have h3 := Int.emod_lt_of_pos (x - 1) (show (0 : Int) < l.length by omega)
  by_cases one : l.length = 1
  · have e : l.drop 1 ++ l.take 1 = l := by
      rw [List.drop_eq_nil_of_le (by omega), List.take_of_length_le (by omega)]; rfl
    rw [e, one]
    simp only [show ((1 : Nat) : Int) = 1 from rfl, Int.emod_one]
  · have e : l.drop 1 ++ l.take 1 = turn l 1 := by
      unfold turn
      rw [Int.emod_eq_of_lt (by omega) (by omega)]
      rfl
    rw [e, turn_getD h (by omega)]
    congr 2
    rw [Int.toNat_of_nonneg h2, Int.add_comm, Int.emod_add_emod]
    congr 1
    omega
theorem wr_end2 {l m r : List Str} {s : Int} (hl : 0 < l.length) (hr : 0 < r.length) (t : Int) :
    (⟨false, (List.replicate 2 (l.drop (l.length - 1) ++ l.take (l.length - 1))).flatten, l.drop (l.length - 1) ++ m ++ r ++ r.take 1, r.drop 1 ++ r.take 1, s - 1⟩ : Rw Str).at t = (⟨false, l, m, r, s⟩ : Rw Str).at t := by
  have e1 : (l.drop (l.length - 1) ++ l.take (l.length - 1)).length = l.length := by rw [List.length_append, List.length_drop, List.length_take]; omega
  have e2 : (r.drop 1 ++ r.take 1).length = r.length := by rw [List.length_append, List.length_drop, List.length_take]; omega
  have e3 : (l.drop (l.length - 1)).length = 1 := by rw [List.length_drop]; omega
  have e4 : (r.take 1).length = 1 := by rw [List.length_take]; omega
  have e5 : (l.drop (l.length - 1) ++ m ++ r ++ r.take 1).length = m.length + r.length + 2 := by
    simp only [List.length_append, e3, e4]
    omega
  simp only [Rw.at]
  by_cases c0 : t < s - 1
  · rw [if_pos c0, if_pos (by omega), at_two (by omega) _ 2 (by decide), e1, show t - (s - 1) = t - s + 1 by omega]
    exact rot_back hl _
  · rw [if_neg c0, e5]
    by_cases c1 : t < s
    · rw [if_pos (by omega), if_pos c1]
      have : t = s - 1 := by omega
      subst this
      rw [show s - 1 - (s - 1) = 0 by omega, show s - 1 - s = -1 by omega]
      have : (-1 : Int) % (l.length : Int) = ((l.length - 1 : Nat) : Int) := by
        rw [← Int.add_mul_emod_self_left (-1) (l.length : Int) 1, Int.mul_one, Int.emod_eq_of_lt (by omega) (by omega)]
        omega
      rw [this, Int.toNat_natCast]
      show (l.drop (l.length - 1) ++ m ++ r ++ r.take 1).getD 0 default = _
      rw [List.append_assoc, List.append_assoc, List.getD_eq_getElem?_getD, List.getElem?_append_left (by omega), List.getElem?_drop, ← List.getD_eq_getElem?_getD]
      rfl
    · rw [if_neg c1]
      by_cases c2 : t - s < m.length
      · rw [if_pos (by omega), if_pos c2]
        rw [List.append_assoc, List.append_assoc, List.getD_eq_getElem?_getD, List.getElem?_append_right (by omega), e3, List.getElem?_append_left (by omega), ← List.getD_eq_getElem?_getD]
        congr 1
        omega
      · rw [if_neg c2]
        by_cases c3 : t - s < ((m.length + r.length : Nat) : Int)
        · rw [if_pos (by omega), Int.emod_eq_of_lt (by omega) (by omega)]
          rw [List.append_assoc, List.append_assoc, List.getD_eq_getElem?_getD, List.getElem?_append_right (by omega), e3, List.getElem?_append_right (by omega), List.getElem?_append_left (by omega), ← List.getD_eq_getElem?_getD]
          congr 1
          omega
        · by_cases c4 : t - s = ((m.length + r.length : Nat) : Int)
          · rw [if_pos (by omega)]
            rw [show t - s - (m.length : Int) = (r.length : Int) by omega, Int.emod_self]
            rw [List.append_assoc, List.append_assoc, List.getD_eq_getElem?_getD, List.getElem?_append_right (by omega), e3, List.getElem?_append_right (by omega), List.getElem?_append_right (by omega), ← List.getD_eq_getElem?_getD]
            rw [show (t - (s - 1)).toNat - 1 - m.length - r.length = 0 by omega, getD_take (by omega)]
            rfl
          · rw [if_neg (by omega), e2, show t - (s - 1) - ((m.length + r.length + 2 : Nat) : Int) = (t - s - m.length - r.length) - 1 by omega, rot_fwd hr]
            congr 2
            rw [← Int.add_mul_emod_self_left (t - s - (m.length : Int) - (r.length : Int)) (r.length : Int) 1, Int.mul_one]
            congr 1
            omega
end K03

namespace K03
open PySem PySem.Spec L2 DL

local macro_rules | `(tactic| walk_at "dl") => `(tactic| first
  | ((with_reducible show WE _ _ (.Constant _ _ _) _ _ _); first | refine we_int ?_ | refine we_str ?_ | refine we_bl ?_ | refine we_non ?_)
  | ((with_reducible show WE _ _ (.Name _ _) _ _ _); first | refine we_var 0 rfl rfl ?_ | refine we_var 1 rfl rfl ?_ | refine we_var 2 rfl rfl ?_ | refine we_var 3 rfl rfl ?_ | refine we_var 4 rfl rfl ?_ | refine we_var 5 rfl rfl ?_ | refine we_var 6 rfl rfl ?_ | refine we_var 7 rfl rfl ?_ | refine we_var 8 rfl rfl ?_ | refine we_var 9 rfl rfl ?_ | refine we_var 10 rfl rfl ?_ | refine we_var 11 rfl rfl ?_ | refine we_var 12 rfl rfl ?_ | refine we_var 13 rfl rfl ?_ | refine we_var 14 rfl rfl ?_ | refine we_var 15 rfl rfl ?_)
  | ((with_reducible show WE _ _ (.BinOp _ _ _ _) _ _ _); refine we_bin ?_)
  | ((with_reducible show WE _ _ (.Compare _ [_] [_] _) _ _ _); refine we_cmp ?_)
  | ((with_reducible show WT _ _ (.Compare _ [_] [_] _) _ _ _); refine wt_cmp ?_)
  | ((with_reducible show WE _ _ (.UnaryOp .USub _ _) _ _ _); refine we_un ?_)
  | ((with_reducible show WT _ _ (.UnaryOp .Not _ _) _ _ _); refine wt_not ?_)
  | ((with_reducible show WE _ _ (.IfExp _ _ _ _) _ _ _); refine we_ifx ?_)
  | ((with_reducible show WE _ _ (.Subscript _ (.Name _ _) _) _ _ _); refine we_ix ?_)
  | ((with_reducible show WE _ _ (.Subscript _ (.Constant _ _ _) _) _ _ _); refine we_ix ?_)
  | ((with_reducible show WE _ _ (.Subscript _ (.Subscript _ _ _) _) _ _ _); refine we_ix ?_)
  | ((with_reducible show WE _ _ (.Subscript _ (.BinOp _ _ _ _) _) _ _ _); refine we_ix ?_)
  | ((with_reducible show WE _ _ (.Subscript _ (.UnaryOp _ _ _) _) _ _ _); refine we_ix ?_)
  | ((with_reducible show WE _ _ (.Subscript _ (.Call _ _ _ _) _) _ _ _); refine we_ix ?_)
  | ((with_reducible show WE _ _ (.Call (.Name "len" _) [_] [] _) _ _ _); refine we_b1 (by assumption) bb_len ?_)
  | ((with_reducible show WE _ _ (.Call (.Name "abs" _) [_] [] _) _ _ _); refine we_b1 (by assumption) bb_abs ?_)
  | ((with_reducible show WE _ _ (.Call (.Name "int" _) [_] [] _) _ _ _); refine we_t1 (by assumption) bb_int ?_)
  | ((with_reducible show WE _ _ (.Call (.Name "list" _) [_] [] _) _ _ _); refine we_t1 (by assumption) bb_list ?_)
  | ((with_reducible show WE _ _ (.Call (.Name "tuple" _) [_] [] _) _ _ _); refine we_t1 (by assumption) bb_tuple ?_)
  | ((with_reducible show WE _ _ (.Call (.Name "str" _) [_] [] _) _ _ _); refine we_t1 (by assumption) bb_str ?_)
  | ((with_reducible show WE _ _ (.Call (.Name "set" _) [_] [] _) _ _ _); refine we_t1 (by assumption) bb_set ?_)
  | ((with_reducible show WE _ _ (.Call (.Name "sorted" _) [_] [] _) _ _ _); refine we_b1 (by assumption) bb_sorted ?_)
  | ((with_reducible show WE _ _ (.Call (.Name "isinstance" _) [_, _] [] _) _ _ _); refine we_b2 (by assumption) bb_isinstance ?_)
  | ((with_reducible show WE _ _ (.Call (.Name "max" _) [_] [] _) _ _ _); refine we_b1 (by assumption) bb_max ?_)
  | ((with_reducible show WE _ _ (.Call (.Name "min" _) [_] [] _) _ _ _); refine we_b1 (by assumption) bb_min ?_)
  | ((with_reducible show WE _ _ (.Call (.Name "max" _) [_, _] [] _) _ _ _); refine we_b2 (by assumption) bb_max ?_)
  | ((with_reducible show WE _ _ (.Call (.Name "min" _) [_, _] [] _) _ _ _); refine we_b2 (by assumption) bb_min ?_)
  | ((with_reducible show BinG _ _ (binaryOp .Add) (.int _) (.int _) _ _); refine b_add ?_)
  | ((with_reducible show BinG _ _ (binaryOp .Sub) (.int _) (.int _) _ _); refine b_sub ?_)
  | ((with_reducible show BinG _ _ (binaryOp .Mod) (.int _) (.int _) _ _); refine b_mod (by omega) ?_)
  | ((with_reducible show BinG _ _ (binaryOp .FloorDiv) (.int _) (.int _) _ _); refine b_div ⟨by omega, by omega⟩ ?_)
  | ((with_reducible show BinG _ _ (binaryOp .Mult) (.int _) (.int _) _ _); first | refine b_mul (.inr ⟨by omega, by omega⟩) ?_ | refine b_mul (.inl ⟨by omega, by omega⟩) ?_)
  | ((with_reducible show BinG _ _ (compareOp .Lt) (.int _) (.int _) _ _); refine b_lt ?_)
  | ((with_reducible show BinG _ _ (compareOp .LtE) (.int _) (.int _) _ _); refine b_le ?_)
  | ((with_reducible show BinG _ _ (compareOp .Gt) (.int _) (.int _) _ _); refine b_gt ?_)
  | ((with_reducible show BinG _ _ (compareOp .GtE) (.int _) (.int _) _ _); refine b_ge ?_)
  | ((with_reducible show BinG _ _ (compareOp .Eq) (.int _) (.int _) _ _); refine b_eqI (by assumption) ?_)
  | ((with_reducible show BinG _ _ (compareOp .NotEq) (.int _) (.int _) _ _); refine b_neI (by assumption) ?_)
  | ((with_reducible show UnG _ _ (unaryOp .USub) (.int _) _ _); refine b_neg ?_)
  | (with_reducible refine ex_bl ?_)
  | ((with_reducible show CallG _ _ (.type "int") [.int _] _ _); refine c_int ?_)
  | ((with_reducible show CallG _ _ (.type "int") [.bl _] _ _); refine c_intB ?_)
  | ((with_reducible show CallG _ _ (.builtin "abs") _ _ _); refine c_abs ?_)
  | ((with_reducible show CallG _ _ (.builtin "len") [.lst _] _ _); refine c_len ?_)
  | ((with_reducible show CallG _ _ (.builtin "len") [.tup _] _ _); refine c_lenT ?_)
  | ((with_reducible show CallG _ _ (.builtin "len") [.raw _] _ _); refine c_lenM (by first | assumption | exact updM_same) ?_)
  | ((with_reducible show CallG _ _ (.type "list") [.tup _] _ _); refine c_listT ?_)
  | ((with_reducible show CallG _ _ (.type "tuple") [.lst _] _ _); refine c_tuple ?_)
  | ((with_reducible show CallG _ _ (.type "tuple") [.tup _] _ _); refine c_tupleT ?_)
  | ((with_reducible show CallG _ _ (.builtin "max") [.int _, .int _] _ _); refine c_max2 rfl ?_)
  | ((with_reducible show CallG _ _ (.builtin "min") [.int _, .int _] _ _); refine c_min2 rfl ?_)
  | ((with_reducible show IxG _ _ (.tup _) _ _ _); refine ix_tupD rfl ?_)
  | ((with_reducible show IxG _ _ (.raw _) _ _ _); refine ix_mlst (by first | assumption | exact updM_same) rfl ?_)
  | ((with_reducible show WA _ _ (_ :: _) _ _ _); refine wa_cons ?_)
  | ((with_reducible show WA _ _ [] _ _ _); refine wa_nil ?_))
section
variable {P : Program} {w : World} {K : PySem.W.Frag} {mg : Str → Option Value} {base : Heap}
/-- what the module says -/
structure Md (K : PySem.W.Frag) (mg : Str → Option Value) (base : Heap) : Prop where
  c : He.SaysD fa fn K
  e : extra K = true
  i : K.In base
  n : base.Ns mainGlobals mg
/-! ### the bag -/
def bagD (cells : List Int) (pos cell seed : Int) : D := .lst [.lst (cells.map .int), .int pos, .int cell, .int seed]
def BagD (d : D) : Prop := ∃ cells pos cell seed, d = bagD cells pos cell seed ∧ (∀ c ∈ cells, 0 ≤ c) ∧ 0 ≤ pos ∧ 0 ≤ cell
def spBag : SpD := fun xs M Q => ∃ ns : List Int, xs = [.klst (ns.map D.int)] ∧ ∀ p d, M p = none → BagD d → Q (.raw (.ref p)) (updM M p d)
theorem sc_bag : FnScope ["script", "cell"] ["script"] d__law_bag.scope := ⟨rfl, rfl, rfl, by decide +kernel, rfl, by decide +kernel, by decide +kernel⟩
theorem cut_ints {ns : List Int} {lo hi : Option Int} : ∃ ms : List Int, cutD (ns.map D.int) lo hi = ms.map D.int ∧ ∀ c, c ∈ ms → c ∈ ns := by
  refine ⟨(ns.drop (HT.sIx ns.length 0 lo)).take (HT.sIx ns.length ns.length hi - HT.sIx ns.length 0 lo), ?_, fun c h => List.mem_of_mem_drop (List.mem_of_mem_take h)⟩
  unfold cutD
  rw [List.length_map, List.map_take, List.map_drop]
theorem cal_bag (m : Md K mg base) : CalD P w K mg base 1 "_law_bag" spBag [] := by
  refine cal_of (d := d__law_bag) rfl (fd__law_bag m.c) (He.glo_ok m.i m.n (glo__law_bag m.c)) sc_bag (fun xs M Q ⟨ns, e, _⟩ => by rw [e]; rfl) (fun _ _ _ _ _ _ us hl => match us, hl with | [_], _ => rfl) ?_
  rintro cdv A outer s H E hr xs M Q ⟨ns, rfl, hQ⟩
  have nd := sc_bag.nd
  have fint : mg "int" = none := He.free_ok m.i m.n (free_int m.c)
  have fabs : mg "abs" = none := He.free_ok m.i m.n (free_abs m.c)
  refine wss_one (ws_ret (we_lstM ?_))
  obtain ⟨ms, hms, hmem⟩ := cut_ints (ns := ns) (lo := none) (hi := some 63)
  let f : Int → Int := fun c => 2 * (if c < 0 then -c else c) + (if decide (c < 0) = true then 1 else 0)
  refine wa_cons (we_lcM (.nm 1) ms D.int (fun c => .int (f c)) rfl nd (own := [("cell", 1)]) (by kernel_rfl) (by decide) (fun s0 H0 C cl fp => pg_name nd rfl (Or.inl rfl)) ?_)
  refine wi_list (we_slice (we_var 0 rfl rfl (wo_none (wo_some (we_int ⟨_, rfl, _, .klst _ _ _, _, rfl, fun hz => ⟨hz, ?_, ?_, ?_⟩⟩)))))
  · rw [hms]; exact li_map ms D.int
  · intro c hc M' hs
    refine ⟨_, rfl, fun s0 H0 C cl fp => ?_⟩
    refine we_bin (we_bin (we_int (we_b1 fabs bb_abs (we_t1 fint bb_int (we_var 1 rfl rfl (c_int (c_abs (b_mul (.inl ⟨by decide, by decide⟩) ?_))))))))
    exact we_t1 fint bb_int (we_cmp (we_var 1 rfl rfl (we_int (b_lt (c_intB (b_add ⟨rfl, rfl⟩))))))
  · refine wa_cons (we_int (wa_cons (we_int (wa_cons (we_int (wa_nil ⟨sz rfl, fun p hp => hQ p _ hp ⟨ms.map f, 0, 0, 40009, ?_, fun c hc => ?_, Int.le_refl _, Int.le_refl _⟩⟩))))))
    · unfold bagD
      simp [List.map_map, Function.comp_def]
    · obtain ⟨b, _, rfl⟩ := List.mem_map.mp hc
      show 0 ≤ 2 * (if b < 0 then -b else b) + (if decide (b < 0) = true then (1 : Int) else 0)
      split <;> split <;> omega
/-! ### take -/
def spTake : SpD := fun xs M Q => ∃ p d many, xs = [.raw (.ref p), .int many] ∧ M p = some d ∧ BagD d ∧ 0 < many ∧ many < 2 ^ 62 ∧ ∀ r d', 0 ≤ r → r < many → BagD d' → Q (.int r) (updM M p d')
theorem sc_take : FnScope ["bag", "many", "cell"] ["bag", "many"] d__law_take.scope := ⟨rfl, rfl, rfl, by decide +kernel, rfl, by decide +kernel, by decide +kernel⟩
theorem cal_take (m : Md K mg base) : CalD P w K mg base 1 "_law_take" spTake [] := by
  refine cal_of (d := d__law_take) rfl (fd__law_take m.c) (He.glo_ok m.i m.n (glo__law_take m.c)) sc_take (fun xs M Q ⟨p, d, many, e, _⟩ => by rw [e]; rfl) (fun _ _ _ _ _ _ us hl => match us, hl with | [_, _], _ => rfl) ?_
  rintro cdv A outer s H E hr xs M Q ⟨p, d, many, rfl, hM, ⟨cells, pos, cell, seed, rfl, hc, hpos, hcell⟩, hm1, hm2, hQ⟩
  have nd := sc_take.nd
  have flen : mg "len" = none := He.free_ok m.i m.n (free_len m.c)
  have fint : mg "int" = none := He.free_ok m.i m.n (free_int m.c)
  refine wss_cons (ws_set 2 nd rfl ?_)
  repeat walk_at "dl"
  refine wss_cut (fun ds1 M1 => ∃ c ps c0 sd, ds1 = [some (.raw (.ref p)), some (.int many), some (.int c)] ∧ 0 ≤ c ∧ 0 ≤ ps ∧ M1 = updM M p (bagD cells ps c0 sd)) (ws_if ?_) ?_
  · repeat walk_at "dl"
    refine ⟨fun h0 => ?_, fun h0 => wss_nil ⟨cell, pos, cell, seed, rfl, hcell, hpos, (updM_self hM).symm⟩⟩
    -- a fresh cell
    refine wss_cut (fun ds1 M1 => ∃ c, ds1 = [some (.raw (.ref p)), some (.int many), some (.int c)] ∧ 0 ≤ c ∧ M1 = M) (ws_set 2 nd rfl ?_) ?_
    · repeat walk_at "dl"
      refine ⟨fun h1 => ?_, fun h1 => ?_⟩
      · repeat walk_at "dl"
        have h2 := of_decide_eq_true h1
        rw [List.length_map] at h2
        exact ix_lst (atI_int hpos h2) ⟨_, rfl, hc _ (by
          rw [List.getD_eq_getElem?_getD, List.getElem?_eq_getElem (by omega)]
          exact List.getElem_mem _), rfl⟩
      · exact we_int ⟨_, rfl, Int.le_refl _, rfl⟩
    · rintro ds1 M1 ⟨c, rfl, hc0, rfl⟩
      refine wss_cons (ws_setIx ?_)
      repeat walk_at "dl"
      refine ⟨p, 1, 1, _, rfl, rfl, hM, rfl, ?_⟩
      have hM2 : updM M1 p (.lst ([D.lst (cells.map .int), .int pos, .int cell, .int seed].set 1 (.int (pos + 1)))) p = some (bagD cells (pos + 1) cell seed) := updM_same
      refine wss_one (ws_if ?_)
      repeat walk_at "dl"
      refine b_pow ⟨by decide, by decide, by decide⟩ ?_
      repeat walk_at "dl"
      refine ⟨fun h1 => ?_, fun h1 => wss_nil ⟨c, pos + 1, cell, seed, rfl, hc0, by omega, rfl⟩⟩
      refine wss_cons (ws_setIx ?_)
      repeat walk_at "dl"
      refine ⟨p, 3, 3, _, rfl, rfl, hM2, rfl, ?_⟩
      rw [updM_updM]
      refine wss_one (ws_ret ?_)
      repeat walk_at "dl"
      exact hQ _ _ (Int.emod_nonneg _ (by omega)) (Int.emod_lt_of_pos _ hm1) ⟨cells, pos + 1, cell, _, rfl, hc, by omega, hcell⟩
  · rintro ds1 M1 ⟨c, ps, c0, sd, rfl, hc0, hps, rfl⟩
    refine wss_cons (ws_setIx ?_)
    repeat walk_at "dl"
    have hlog : many.natAbs.log2 < 9000 := Nat.lt_trans (PySem.Flt.log2_lt_of (k := 62) (by decide) (by omega)) (by decide)
    refine b_divW ⟨hm1, hlog⟩ ?_
    repeat walk_at "dl"
    refine ⟨p, 2, 2, _, rfl, rfl, updM_same, rfl, ?_⟩
    rw [updM_updM]
    refine wss_one (ws_ret ?_)
    repeat walk_at "dl"
    refine hQ _ _ (Int.emod_nonneg _ (by omega)) (Int.emod_lt_of_pos _ hm1) ⟨cells, ps, c / many, sd, rfl, hc, hps, Int.ediv_nonneg hc0 (by omega)⟩
/-! ### pick -/
def spPick : SpD := fun xs M Q => ∃ p d ms, xs = [.raw (.ref p), .lst ms] ∧ M p = some d ∧ BagD d ∧ 0 < ms.length ∧ ms.length < 1000 ∧ ∀ x d', x ∈ ms → BagD d' → Q x (updM M p d')
theorem sc_pick : FnScope ["bag", "menu"] ["bag", "menu"] d__law_pick.scope := ⟨rfl, rfl, rfl, by decide +kernel, rfl, by decide +kernel, by decide +kernel⟩
theorem cal_pick (m : Md K mg base) : CalD P w K mg base 2 "_law_pick" spPick [] := by
  refine cal_of (d := d__law_pick) rfl (fd__law_pick m.c) (He.glo_ok m.i m.n (glo__law_pick m.c)) sc_pick (fun xs M Q ⟨p, d, many, e, _⟩ => by rw [e]; rfl) (fun _ _ _ _ _ _ us hl => match us, hl with | [_, _], _ => rfl) ?_
  rintro cdv A outer s H E hr xs M Q ⟨p, d, ms, rfl, hM, hB, h0, hl, hQ⟩
  have nd := sc_pick.nd
  have flen : mg "len" = none := He.free_ok m.i m.n (free_len m.c)
  refine wss_one (ws_ret (we_ix (we_var 1 rfl rfl (we_cal (cal_take m) hr (by decide) ?_))))
  repeat walk_at "dl"
  refine ⟨p, d, _, rfl, hM, hB, by omega, by omega, fun r d' h1 h2 hB' => ?_⟩
  obtain ⟨k, rfl⟩ := Int.eq_ofNat_of_zero_le h1
  have hk : k < ms.length := by omega
  exact ix_lst (atI_nat (List.getElem?_eq_getElem hk)) (hQ _ _ (List.getElem_mem hk) hB')
def spInt : SpD := fun xs M Q => ∃ i, xs = [.int i] ∧ Q (.bl true) M
theorem sc_int : FnScope ["told"] ["told"] d__law_int.scope := ⟨rfl, rfl, rfl, by decide +kernel, rfl, by decide +kernel, by decide +kernel⟩
theorem cal_int (m : Md K mg base) : CalD P w K mg base 1 "_law_int" spInt [] := by
  refine cal_of (d := d__law_int) rfl (fd__law_int m.c) (He.glo_ok m.i m.n (glo__law_int m.c)) sc_int (fun xs M Q ⟨i, e, _⟩ => by rw [e]; rfl) (fun _ _ _ _ _ _ us hl => match us, hl with | [_], _ => rfl) ?_
  rintro cdv A outer s H E hr xs M Q ⟨i, rfl, hQ⟩
  have fi : mg "isinstance" = none := He.free_ok m.i m.n (free_isinstance m.c)
  have fint : mg "int" = none := He.free_ok m.i m.n (free_int m.c)
  have fbool : mg "bool" = none := He.free_ok m.i m.n (free_bool m.c)
  refine wss_one (ws_ret (we_andT (we_b2 fi bb_isinstance (we_var 0 rfl rfl (we_bltn fint bb_int (v := .ty "int") rfl (fun _ => rp_raw) (c_isi (ClsV.ty "int") (show TyD K _ _ _ from rfl) rfl (tru_is rfl ⟨fun _ => ?_, fun h => by cases h⟩)))))))
  exact we_one (we_notT (we_b2 fi bb_isinstance (we_var 0 rfl rfl (we_bltn fbool bb_bool (v := .ty "bool") rfl (fun _ => rp_raw) (c_isi (ClsV.ty "bool") (show TyD K _ _ _ from rfl) rfl (tru_is rfl hQ))))))
def spTruth : SpD := fun xs M Q => ∃ a b, xs = [.bl a, .bl b] ∧ Q (.bl (decide (a = b))) M
theorem sc_truth : FnScope ["told", "due"] ["told", "due"] d__law_truth.scope := ⟨rfl, rfl, rfl, by decide +kernel, rfl, by decide +kernel, by decide +kernel⟩
theorem cal_truth (m : Md K mg base) : CalD P w K mg base 1 "_law_truth" spTruth [] := by
  refine cal_of (d := d__law_truth) rfl (fd__law_truth m.c) (He.glo_ok m.i m.n (glo__law_truth m.c)) sc_truth (fun xs M Q ⟨a, b, e, _⟩ => by rw [e]; rfl) (fun _ _ _ _ _ _ us hl => match us, hl with | [_, _], _ => rfl) ?_
  rintro cdv A outer s H E hr xs M Q ⟨a, b, rfl, hQ⟩
  have fi : mg "isinstance" = none := He.free_ok m.i m.n (free_isinstance m.c)
  have fbool : mg "bool" = none := He.free_ok m.i m.n (free_bool m.c)
  refine wss_one (ws_ret (we_andT (we_b2 fi bb_isinstance (we_var 0 rfl rfl (we_bltn fbool bb_bool (v := .ty "bool") rfl (fun _ => rp_raw) (c_isi (ClsV.ty "bool") (show TyD K _ _ _ from rfl) rfl (tru_is rfl ⟨fun _ => ?_, fun h => by cases h⟩)))))))
  exact we_one (we_cmp (we_var 0 rfl rfl (we_var 1 rfl rfl (b_eqB hr hQ))))
/-! ### gcd -/
end
end K03

namespace K03
open PySem PySem.Spec L2 DL

local macro_rules | `(tactic| walk_at "dl") => `(tactic| first
  | ((with_reducible show WE _ _ (.Constant _ _ _) _ _ _); first | refine we_int ?_ | refine we_str ?_ | refine we_bl ?_ | refine we_non ?_)
  | ((with_reducible show WE _ _ (.Name _ _) _ _ _); first | refine we_var 0 rfl rfl ?_ | refine we_var 1 rfl rfl ?_ | refine we_var 2 rfl rfl ?_ | refine we_var 3 rfl rfl ?_ | refine we_var 4 rfl rfl ?_ | refine we_var 5 rfl rfl ?_ | refine we_var 6 rfl rfl ?_ | refine we_var 7 rfl rfl ?_ | refine we_var 8 rfl rfl ?_ | refine we_var 9 rfl rfl ?_ | refine we_var 10 rfl rfl ?_ | refine we_var 11 rfl rfl ?_ | refine we_var 12 rfl rfl ?_ | refine we_var 13 rfl rfl ?_ | refine we_var 14 rfl rfl ?_ | refine we_var 15 rfl rfl ?_)
  | ((with_reducible show WE _ _ (.BinOp _ _ _ _) _ _ _); refine we_bin ?_)
  | ((with_reducible show WE _ _ (.Compare _ [_] [_] _) _ _ _); refine we_cmp ?_)
  | ((with_reducible show WT _ _ (.Compare _ [_] [_] _) _ _ _); refine wt_cmp ?_)
  | ((with_reducible show WE _ _ (.UnaryOp .USub _ _) _ _ _); refine we_un ?_)
  | ((with_reducible show WT _ _ (.UnaryOp .Not _ _) _ _ _); refine wt_not ?_)
  | ((with_reducible show WE _ _ (.IfExp _ _ _ _) _ _ _); refine we_ifx ?_)
  | ((with_reducible show WE _ _ (.Subscript _ (.Name _ _) _) _ _ _); refine we_ix ?_)
  | ((with_reducible show WE _ _ (.Subscript _ (.Constant _ _ _) _) _ _ _); refine we_ix ?_)
  | ((with_reducible show WE _ _ (.Subscript _ (.Subscript _ _ _) _) _ _ _); refine we_ix ?_)
  | ((with_reducible show WE _ _ (.Subscript _ (.BinOp _ _ _ _) _) _ _ _); refine we_ix ?_)
  | ((with_reducible show WE _ _ (.Subscript _ (.UnaryOp _ _ _) _) _ _ _); refine we_ix ?_)
  | ((with_reducible show WE _ _ (.Subscript _ (.Call _ _ _ _) _) _ _ _); refine we_ix ?_)
  | ((with_reducible show WE _ _ (.Call (.Name "len" _) [_] [] _) _ _ _); refine we_b1 (by assumption) bb_len ?_)
  | ((with_reducible show WE _ _ (.Call (.Name "abs" _) [_] [] _) _ _ _); refine we_b1 (by assumption) bb_abs ?_)
  | ((with_reducible show WE _ _ (.Call (.Name "int" _) [_] [] _) _ _ _); refine we_t1 (by assumption) bb_int ?_)
  | ((with_reducible show WE _ _ (.Call (.Name "list" _) [_] [] _) _ _ _); refine we_t1 (by assumption) bb_list ?_)
  | ((with_reducible show WE _ _ (.Call (.Name "tuple" _) [_] [] _) _ _ _); refine we_t1 (by assumption) bb_tuple ?_)
  | ((with_reducible show WE _ _ (.Call (.Name "str" _) [_] [] _) _ _ _); refine we_t1 (by assumption) bb_str ?_)
  | ((with_reducible show WE _ _ (.Call (.Name "set" _) [_] [] _) _ _ _); refine we_t1 (by assumption) bb_set ?_)
  | ((with_reducible show WE _ _ (.Call (.Name "sorted" _) [_] [] _) _ _ _); refine we_b1 (by assumption) bb_sorted ?_)
  | ((with_reducible show WE _ _ (.Call (.Name "isinstance" _) [_, _] [] _) _ _ _); refine we_b2 (by assumption) bb_isinstance ?_)
  | ((with_reducible show WE _ _ (.Call (.Name "max" _) [_] [] _) _ _ _); refine we_b1 (by assumption) bb_max ?_)
  | ((with_reducible show WE _ _ (.Call (.Name "min" _) [_] [] _) _ _ _); refine we_b1 (by assumption) bb_min ?_)
  | ((with_reducible show WE _ _ (.Call (.Name "max" _) [_, _] [] _) _ _ _); refine we_b2 (by assumption) bb_max ?_)
  | ((with_reducible show WE _ _ (.Call (.Name "min" _) [_, _] [] _) _ _ _); refine we_b2 (by assumption) bb_min ?_)
  | ((with_reducible show BinG _ _ (binaryOp .Add) (.int _) (.int _) _ _); refine b_add ?_)
  | ((with_reducible show BinG _ _ (binaryOp .Sub) (.int _) (.int _) _ _); refine b_sub ?_)
  | ((with_reducible show BinG _ _ (binaryOp .Mod) (.int _) (.int _) _ _); refine b_mod (by omega) ?_)
  | ((with_reducible show BinG _ _ (binaryOp .FloorDiv) (.int _) (.int _) _ _); refine b_div ⟨by omega, by omega⟩ ?_)
  | ((with_reducible show BinG _ _ (binaryOp .Mult) (.int _) (.int _) _ _); first | refine b_mul (.inr ⟨by omega, by omega⟩) ?_ | refine b_mul (.inl ⟨by omega, by omega⟩) ?_)
  | ((with_reducible show BinG _ _ (compareOp .Lt) (.int _) (.int _) _ _); refine b_lt ?_)
  | ((with_reducible show BinG _ _ (compareOp .LtE) (.int _) (.int _) _ _); refine b_le ?_)
  | ((with_reducible show BinG _ _ (compareOp .Gt) (.int _) (.int _) _ _); refine b_gt ?_)
  | ((with_reducible show BinG _ _ (compareOp .GtE) (.int _) (.int _) _ _); refine b_ge ?_)
  | ((with_reducible show BinG _ _ (compareOp .Eq) (.int _) (.int _) _ _); refine b_eqI (by assumption) ?_)
  | ((with_reducible show BinG _ _ (compareOp .NotEq) (.int _) (.int _) _ _); refine b_neI (by assumption) ?_)
  | ((with_reducible show UnG _ _ (unaryOp .USub) (.int _) _ _); refine b_neg ?_)
  | (with_reducible refine ex_bl ?_)
  | ((with_reducible show CallG _ _ (.type "int") [.int _] _ _); refine c_int ?_)
  | ((with_reducible show CallG _ _ (.type "int") [.bl _] _ _); refine c_intB ?_)
  | ((with_reducible show CallG _ _ (.builtin "abs") _ _ _); refine c_abs ?_)
  | ((with_reducible show CallG _ _ (.builtin "len") [.lst _] _ _); refine c_len ?_)
  | ((with_reducible show CallG _ _ (.builtin "len") [.tup _] _ _); refine c_lenT ?_)
  | ((with_reducible show CallG _ _ (.builtin "len") [.raw _] _ _); refine c_lenM (by first | assumption | exact updM_same) ?_)
  | ((with_reducible show CallG _ _ (.type "list") [.tup _] _ _); refine c_listT ?_)
  | ((with_reducible show CallG _ _ (.type "tuple") [.lst _] _ _); refine c_tuple ?_)
  | ((with_reducible show CallG _ _ (.type "tuple") [.tup _] _ _); refine c_tupleT ?_)
  | ((with_reducible show CallG _ _ (.builtin "max") [.int _, .int _] _ _); refine c_max2 rfl ?_)
  | ((with_reducible show CallG _ _ (.builtin "min") [.int _, .int _] _ _); refine c_min2 rfl ?_)
  | ((with_reducible show IxG _ _ (.tup _) _ _ _); refine ix_tupD rfl ?_)
  | ((with_reducible show IxG _ _ (.raw _) _ _ _); refine ix_mlst (by first | assumption | exact updM_same) rfl ?_)
  | ((with_reducible show WA _ _ (_ :: _) _ _ _); refine wa_cons ?_)
  | ((with_reducible show WA _ _ [] _ _ _); refine wa_nil ?_))
section
variable {P : Program} {w : World} {K : PySem.W.Frag} {mg : Str → Option Value} {base : Heap}
theorem atI_str {ns : List Str} {i : Int} (h0 : 0 ≤ i) (h1 : i < ns.length) : atI (ns.map D.str) i = some (.str (ns.getD i.toNat default)) := by
  obtain ⟨k, rfl⟩ := Int.eq_ofNat_of_zero_le h0
  have hk : k < ns.length := by omega
  refine atI_nat ?_
  rw [List.getElem?_map, List.getElem?_eq_getElem hk]
  simp [List.getD_eq_getElem?_getD, List.getElem?_eq_getElem hk]
theorem flat_rep {α : Type} (k : Nat) (x : α) : (List.replicate k [x]).flatten = List.replicate k x := by
  induction k with
  | zero => rfl
  | succ k ih => rw [List.replicate_succ, List.flatten_cons, ih, List.replicate_succ]; rfl
theorem cut_take {α : Type} {xs : List α} {k : Nat} (h : k ≤ xs.length) : (xs.drop (HT.sIx xs.length 0 none)).take (HT.sIx xs.length xs.length (some (k : Int)) - HT.sIx xs.length 0 none) = xs.take k := by
  have e1 : HT.sIx xs.length 0 none = 0 := rfl
  have e2 : HT.sIx xs.length xs.length (some (k : Int)) = k := by unfold HT.sIx; first | omega | (simp; omega) | (dsimp only; split <;> omega)
  rw [e1, e2, List.drop_zero, Nat.sub_zero]
theorem cutD_take {xs : List Str} {k : Nat} (h : k ≤ xs.length) : cutD (xs.map D.str) none (some (k : Int)) = (xs.take k).map D.str := by
  unfold cutD
  rw [cut_take (by rw [List.length_map]; exact h), List.map_take]
theorem ixN_nat {n j : Nat} (hj : j < n) : ixN n (j : Int) = some j := by
  unfold ixN
  rw [if_pos (by omega), if_pos (by omega)]
  simp
/-! ### shortest_round -/
def spShort : SpD := fun xs M Q => ∃ l : List Str, xs = [.lst (l.map D.str)] ∧ 0 < l.length ∧ l.length ≤ 1000 ∧ ∀ q, Prim (wd l) l.length q → Q (.tup ((l.take q).map D.str)) M
theorem sc_short : FnScope ["arrows", "count", "borders", "border", "at", "least"] ["arrows"] d_shortest_round.scope := ⟨rfl, rfl, rfl, by decide +kernel, rfl, by decide +kernel, by decide +kernel⟩
theorem cal_short (m : Md K mg base) : CalD P w K mg base 1 "shortest_round" spShort [] := by
  refine cal_of (d := d_shortest_round) rfl (fd_shortest_round m.c) (He.glo_ok m.i m.n (glo_shortest_round m.c)) sc_short (fun xs M Q ⟨a, e, _⟩ => by rw [e]; rfl) (fun _ _ _ _ _ _ us hl => match us, hl with | [_], _ => rfl) ?_
  rintro cdv A outer s H E hr xs M Q ⟨l, rfl, h0, hl, hQ⟩
  have nd := sc_short.nd
  have flen : mg "len" = none := He.free_ok m.i m.n (free_len m.c)
  have ftuple : mg "tuple" = none := He.free_ok m.i m.n (free_tuple m.c)
  have frange : mg "range" = none := He.free_ok m.i m.n (free_range m.c)
  have hsz : sizeLine = 16777216 := sizeLine_eq
  generalize hn : l.length = n at h0 hl
  refine wss_cons (ws_set 1 nd rfl <| we_b1 flen bb_len <| we_var 0 rfl rfl <| c_len ?_)
  rw [List.length_map, hn]
  refine wss_cons (ws_set 2 nd rfl <| we_bin <| we_lst <| wa1 <| we_int ⟨sz rfl, we_var 1 rfl rfl <| b_mulLM (by omega) (by omega) (by simp; omega) fun r hr0 => ?_⟩)
  rw [flat_rep, Int.toNat_natCast, show List.replicate n (D.int 0) = (List.replicate n (0 : Int)).map D.int by rw [List.map_replicate]]
  refine wss_cons (ws_set 3 nd rfl <| we_int ?_)
  refine wss_cut (fun ds1 M1 => ∃ (bs : List Int) (o4 : Option D) (b : Nat), ds1 = [some (.lst (l.map D.str)), some (.int n), some (.raw (.ref r)), some (.int (b : Int)), o4, none] ∧ M1 = updM M r (.lst (bs.map D.int)) ∧ bs.length = n ∧ ∃ k : Nat, bs[n - 1]? = some (k : Int) ∧ LB (wd l) n k)
    (ws_for (.nm 4) PassesOwn.never rfl (pgN nd rfl) (wi_range2 frange (wa2 <| we_int <| we_var 1 rfl rfl ⟨1, n, rfl, by omega, ?_⟩))) ?_
  · refine ⟨fun i ds1 M1 => i + 1 ≤ n ∧ ∃ (bs : List Int) (o4 : Option D) (b : Nat), ds1 = [some (.lst (l.map D.str)), some (.int n), some (.raw (.ref r)), some (.int (b : Int)), o4, none] ∧ M1 = updM M r (.lst (bs.map D.int)) ∧ bs.length = n ∧ LB (wd l) (i + 1) b ∧ ∀ j, j ≤ i → ∃ k : Nat, bs[j]? = some (k : Int) ∧ LB (wd l) (j + 1) k, ?_, ?_, ?_⟩
    · refine ⟨by omega, List.replicate n 0, none, 0, rfl, rfl, by simp, lb_one, fun j hj => ⟨0, ?_, ?_⟩⟩
      · rw [List.getElem?_replicate, if_pos (by omega)]; rfl
      · rw [show j = 0 by omega]; exact lb_one
    · rintro ds1 M1 ⟨_, bs, o4, b, rfl, rfl, hb, _, hall⟩
      obtain ⟨k, k1, k2⟩ := hall (n - 1) (by omega)
      rw [show n - 1 + 1 = n by omega] at k2
      exact ⟨bs, o4, b, rfl, rfl, hb, k, k1, k2⟩
    · rintro i ds1 M1 hi ⟨hi1, bs, o4, b, rfl, rfl, hb, lb, hall⟩
      refine ⟨_, rfl, ?_⟩
      have hi2 : i + 1 < n := by omega
      -- while
      refine wss_cut (fun ds1 M1 => ∃ b : Nat, ds1 = [some (.lst (l.map D.str)), some (.int n), some (.raw (.ref r)), some (.int (b : Int)), some (.int (1 + (i : Int))), none] ∧ M1 = updM M r (.lst (bs.map D.int)) ∧ Seek (wd l) (i + 1) b ∧ (b = 0 ∨ wd l (i + 1) = wd l b))
        (ws_while (fun mm ds1 M1 => ∃ b : Nat, ds1 = [some (.lst (l.map D.str)), some (.int n), some (.raw (.ref r)), some (.int (b : Int)), some (.int (1 + (i : Int))), none] ∧ M1 = updM M r (.lst (bs.map D.int)) ∧ Seek (wd l) (i + 1) b ∧ mm = b) PassesOwn.never ⟨b, b, rfl, rfl, seek_start (by omega) lb, rfl⟩ ?_) ?_
      · rintro mm ds1 M1 ⟨b, rfl, rfl, sk, hmm⟩
        have hb1 := sk.1.1
        refine wt_w <| ww_and <| wt_cmp <| we_var 3 rfl rfl <| we_int <| b_gt ⟨_, rfl, fun h => ?_, fun h => ⟨fun h => (by cases h), fun _ => ⟨b, rfl, rfl, sk, .inl (by have := of_decide_eq_false h; omega)⟩⟩⟩
        have hb0 := of_decide_eq_true h
        refine ww_and1 <| wt_cmp <| we_ix <| we_var 0 rfl rfl <| we_var 4 rfl rfl <| ix_lst (atI_str (by omega) (by rw [hn]; omega)) <| we_ix <| we_var 0 rfl rfl <| we_var 3 rfl rfl <| ix_lst (atI_str (by omega) (by rw [hn]; omega)) <| b_neS ⟨_, rfl, fun h => ?_, fun h => ?_⟩
        · have hne : wd l (i + 1) ≠ wd l b := by
            have : (!decide (l.getD (1 + (i : Int)).toNat default = l.getD ((b : Nat) : Int).toNat default)) = true := h
            rw [Bool.not_eq_true', decide_eq_false_iff_not, show (1 + (i : Int)).toNat = i + 1 by omega, Int.toNat_natCast] at this
            exact this
          obtain ⟨k, k1, k2⟩ := hall (b - 1) (by omega)
          rw [show b - 1 + 1 = b by omega] at k2
          refine wss_one <| ws_set 3 nd rfl <| we_ix <| we_var 2 rfl rfl <| we_bin <| we_var 3 rfl rfl <| we_int <| b_sub <| ix_mlst (d := .int (k : Int)) updM_same ?_ ⟨k, by have := k2.1.1; omega, k, rfl, rfl, seek_step sk hne k2, rfl⟩
          rw [show (b : Int) - 1 = ((b - 1 : Nat) : Int) by omega]
          exact atI_nat (by rw [List.getElem?_map, k1]; rfl)
        · refine ⟨b, rfl, rfl, sk, .inr ?_⟩
          have : (!decide (l.getD (1 + (i : Int)).toNat default = l.getD ((b : Nat) : Int).toNat default)) = false := h
          rw [Bool.not_eq_false', decide_eq_true_eq, show (1 + (i : Int)).toNat = i + 1 by omega, Int.toNat_natCast] at this
          exact this
      rintro ds1 M1 ⟨b, rfl, rfl, sk, hb0⟩
      have hb1 := sk.1.1
      -- if
      refine wss_cut (fun ds1 M1 => ∃ b : Nat, ds1 = [some (.lst (l.map D.str)), some (.int n), some (.raw (.ref r)), some (.int (b : Int)), some (.int (1 + (i : Int))), none] ∧ M1 = updM M r (.lst (bs.map D.int)) ∧ LB (wd l) (i + 2) b)
        (ws_if <| wt_cmp <| we_ix <| we_var 0 rfl rfl <| we_var 4 rfl rfl <| ix_lst (atI_str (by omega) (by rw [hn]; omega)) <| we_ix <| we_var 0 rfl rfl <| we_var 3 rfl rfl <| ix_lst (atI_str (by omega) (by rw [hn]; omega)) <| b_eqS ⟨_, rfl, fun h => ?_, fun h => ?_⟩) ?_
      · have : decide (l.getD (1 + (i : Int)).toNat default = l.getD ((b : Nat) : Int).toNat default) = true := h
        rw [decide_eq_true_eq, show (1 + (i : Int)).toNat = i + 1 by omega, Int.toNat_natCast] at this
        exact wss_one <| ws_aug 3 nd rfl rfl <| we_int <| bi_add ⟨b + 1, rfl, rfl, seek_hit sk this⟩
      · have : decide (l.getD (1 + (i : Int)).toNat default = l.getD ((b : Nat) : Int).toNat default) = false := h
        rw [decide_eq_false_iff_not, show (1 + (i : Int)).toNat = i + 1 by omega, Int.toNat_natCast] at this
        rcases hb0 with rfl | h2
        · exact wss_nil ⟨0, rfl, rfl, seek_miss sk this⟩
        · exact absurd h2 this
      rintro ds1 M1 ⟨b, rfl, rfl, lb2⟩
      refine wss_one <| ws_setIx <| we_var 3 rfl rfl <| we_var 2 rfl rfl <| we_var 4 rfl rfl ⟨r, _, i + 1, _, rfl, rfl, updM_same, ?_, ?_⟩
      · rw [List.length_map, hb, show 1 + (i : Int) = ((i + 1 : Nat) : Int) by omega]
        exact ixN_nat (by omega)
      · rw [updM_updM]
        refine ⟨by omega, bs.set (i + 1) (b : Int), _, b, rfl, by rw [List.map_set], by rw [List.length_set]; exact hb, lb2, fun j hj => ?_⟩
        by_cases e : j = i + 1
        · subst e
          exact ⟨b, by rw [List.getElem?_set_self (by omega)], lb2⟩
        · obtain ⟨k, k1, k2⟩ := hall j (by omega)
          exact ⟨k, by rw [List.getElem?_set_ne (Ne.symm e)]; exact k1, k2⟩
  rintro ds1 M1 ⟨bs, o4, b0, rfl, rfl, hb, k, k1, lb⟩
  have hk := lb.1.1
  refine wss_cons (ws_set 5 nd rfl <| we_bin <| we_var 1 rfl rfl <| we_ix <| we_var 2 rfl rfl <| we_bin <| we_var 1 rfl rfl <| we_int <| b_sub <| ix_mlst (d := .int (k : Int)) updM_same ?_ <| b_sub ?_)
  · rw [show (n : Int) - 1 = ((n - 1 : Nat) : Int) by omega]
    exact atI_nat (by rw [List.getElem?_map, k1]; rfl)
  refine wss_forget (p := r) updM_same ?_
  rw [delM_updM' hr0]
  have hpr := kmp_prim h0 lb
  refine wss_cut (fun ds1 M1 => ∃ q : Nat, ds1 = [some (.lst (l.map D.str)), some (.int n), some (.raw (.ref r)), some (.int (b0 : Int)), o4, some (.int (q : Int))] ∧ M1 = M ∧ Prim (wd l) n q)
    (ws_if <| wt_cmp <| we_bin <| we_var 1 rfl rfl <| we_var 5 rfl rfl <| b_mod (by omega) <| we_int <| b_neI hr ⟨_, rfl, fun h => wss_one <| ws_set 5 nd rfl <| we_var 1 rfl rfl ⟨n, rfl, rfl, ?_⟩, fun h => wss_nil ⟨n - k, ?_, rfl, ?_⟩⟩) ?_
  · have h1 : ¬ ((n : Int) % ((n : Int) - (k : Int)) = 0) := by simpa using h
    rw [if_neg fun e => h1 (by rw [show (n : Int) - (k : Int) = ((n - k : Nat) : Int) by omega, ← Int.natCast_emod, e]; rfl)] at hpr
    exact hpr
  · rw [show (n : Int) - (k : Int) = ((n - k : Nat) : Int) by omega]; rfl
  · have h1 : (n : Int) % ((n : Int) - (k : Int)) = 0 := by simpa using h
    rw [show (n : Int) - (k : Int) = ((n - k : Nat) : Int) by omega, ← Int.natCast_emod] at h1
    rw [if_pos (by omega)] at hpr
    exact hpr
  rintro ds1 M1 ⟨q, rfl, rfl, hp⟩
  have hq : q ≤ l.length := by rw [hn]; exact Nat.le_of_dvd h0 hp.dvd
  refine wss_one <| ws_ret <| we_t1 ftuple bb_tuple <| we_slice <| we_var 0 rfl rfl <| wo_none <| wo_some <| we_var 5 rfl rfl ⟨q, rfl, _, .lst _ _ _, c_tuple ?_⟩
  rw [cutD_take hq]
  rw [← hn] at hp
  exact hQ q hp
end
end K03

namespace K03
open PySem PySem.Spec L2 DL

local macro_rules | `(tactic| walk_at "dl") => `(tactic| first
  | ((with_reducible show WE _ _ (.Constant _ _ _) _ _ _); first | refine we_int ?_ | refine we_str ?_ | refine we_bl ?_ | refine we_non ?_)
  | ((with_reducible show WE _ _ (.Name _ _) _ _ _); first | refine we_var 0 rfl rfl ?_ | refine we_var 1 rfl rfl ?_ | refine we_var 2 rfl rfl ?_ | refine we_var 3 rfl rfl ?_ | refine we_var 4 rfl rfl ?_ | refine we_var 5 rfl rfl ?_ | refine we_var 6 rfl rfl ?_ | refine we_var 7 rfl rfl ?_ | refine we_var 8 rfl rfl ?_ | refine we_var 9 rfl rfl ?_ | refine we_var 10 rfl rfl ?_ | refine we_var 11 rfl rfl ?_ | refine we_var 12 rfl rfl ?_ | refine we_var 13 rfl rfl ?_ | refine we_var 14 rfl rfl ?_ | refine we_var 15 rfl rfl ?_)
  | ((with_reducible show WE _ _ (.BinOp _ _ _ _) _ _ _); refine we_bin ?_)
  | ((with_reducible show WE _ _ (.Compare _ [_] [_] _) _ _ _); refine we_cmp ?_)
  | ((with_reducible show WT _ _ (.Compare _ [_] [_] _) _ _ _); refine wt_cmp ?_)
  | ((with_reducible show WE _ _ (.UnaryOp .USub _ _) _ _ _); refine we_un ?_)
  | ((with_reducible show WT _ _ (.UnaryOp .Not _ _) _ _ _); refine wt_not ?_)
  | ((with_reducible show WE _ _ (.IfExp _ _ _ _) _ _ _); refine we_ifx ?_)
  | ((with_reducible show WE _ _ (.Subscript _ (.Name _ _) _) _ _ _); refine we_ix ?_)
  | ((with_reducible show WE _ _ (.Subscript _ (.Constant _ _ _) _) _ _ _); refine we_ix ?_)
  | ((with_reducible show WE _ _ (.Subscript _ (.Subscript _ _ _) _) _ _ _); refine we_ix ?_)
  | ((with_reducible show WE _ _ (.Subscript _ (.BinOp _ _ _ _) _) _ _ _); refine we_ix ?_)
  | ((with_reducible show WE _ _ (.Subscript _ (.UnaryOp _ _ _) _) _ _ _); refine we_ix ?_)
  | ((with_reducible show WE _ _ (.Subscript _ (.Call _ _ _ _) _) _ _ _); refine we_ix ?_)
  | ((with_reducible show WE _ _ (.Call (.Name "len" _) [_] [] _) _ _ _); refine we_b1 (by assumption) bb_len ?_)
  | ((with_reducible show WE _ _ (.Call (.Name "abs" _) [_] [] _) _ _ _); refine we_b1 (by assumption) bb_abs ?_)
  | ((with_reducible show WE _ _ (.Call (.Name "int" _) [_] [] _) _ _ _); refine we_t1 (by assumption) bb_int ?_)
  | ((with_reducible show WE _ _ (.Call (.Name "list" _) [_] [] _) _ _ _); refine we_t1 (by assumption) bb_list ?_)
  | ((with_reducible show WE _ _ (.Call (.Name "tuple" _) [_] [] _) _ _ _); refine we_t1 (by assumption) bb_tuple ?_)
  | ((with_reducible show WE _ _ (.Call (.Name "str" _) [_] [] _) _ _ _); refine we_t1 (by assumption) bb_str ?_)
  | ((with_reducible show WE _ _ (.Call (.Name "set" _) [_] [] _) _ _ _); refine we_t1 (by assumption) bb_set ?_)
  | ((with_reducible show WE _ _ (.Call (.Name "sorted" _) [_] [] _) _ _ _); refine we_b1 (by assumption) bb_sorted ?_)
  | ((with_reducible show WE _ _ (.Call (.Name "isinstance" _) [_, _] [] _) _ _ _); refine we_b2 (by assumption) bb_isinstance ?_)
  | ((with_reducible show WE _ _ (.Call (.Name "max" _) [_] [] _) _ _ _); refine we_b1 (by assumption) bb_max ?_)
  | ((with_reducible show WE _ _ (.Call (.Name "min" _) [_] [] _) _ _ _); refine we_b1 (by assumption) bb_min ?_)
  | ((with_reducible show WE _ _ (.Call (.Name "max" _) [_, _] [] _) _ _ _); refine we_b2 (by assumption) bb_max ?_)
  | ((with_reducible show WE _ _ (.Call (.Name "min" _) [_, _] [] _) _ _ _); refine we_b2 (by assumption) bb_min ?_)
  | ((with_reducible show BinG _ _ (binaryOp .Add) (.int _) (.int _) _ _); refine b_add ?_)
  | ((with_reducible show BinG _ _ (binaryOp .Sub) (.int _) (.int _) _ _); refine b_sub ?_)
  | ((with_reducible show BinG _ _ (binaryOp .Mod) (.int _) (.int _) _ _); refine b_mod (by omega) ?_)
  | ((with_reducible show BinG _ _ (binaryOp .FloorDiv) (.int _) (.int _) _ _); refine b_div ⟨by omega, by omega⟩ ?_)
  | ((with_reducible show BinG _ _ (binaryOp .Mult) (.int _) (.int _) _ _); first | refine b_mul (.inr ⟨by omega, by omega⟩) ?_ | refine b_mul (.inl ⟨by omega, by omega⟩) ?_)
  | ((with_reducible show BinG _ _ (compareOp .Lt) (.int _) (.int _) _ _); refine b_lt ?_)
  | ((with_reducible show BinG _ _ (compareOp .LtE) (.int _) (.int _) _ _); refine b_le ?_)
  | ((with_reducible show BinG _ _ (compareOp .Gt) (.int _) (.int _) _ _); refine b_gt ?_)
  | ((with_reducible show BinG _ _ (compareOp .GtE) (.int _) (.int _) _ _); refine b_ge ?_)
  | ((with_reducible show BinG _ _ (compareOp .Eq) (.int _) (.int _) _ _); refine b_eqI (by assumption) ?_)
  | ((with_reducible show BinG _ _ (compareOp .NotEq) (.int _) (.int _) _ _); refine b_neI (by assumption) ?_)
  | ((with_reducible show UnG _ _ (unaryOp .USub) (.int _) _ _); refine b_neg ?_)
  | (with_reducible refine ex_bl ?_)
  | ((with_reducible show CallG _ _ (.type "int") [.int _] _ _); refine c_int ?_)
  | ((with_reducible show CallG _ _ (.type "int") [.bl _] _ _); refine c_intB ?_)
  | ((with_reducible show CallG _ _ (.builtin "abs") _ _ _); refine c_abs ?_)
  | ((with_reducible show CallG _ _ (.builtin "len") [.lst _] _ _); refine c_len ?_)
  | ((with_reducible show CallG _ _ (.builtin "len") [.tup _] _ _); refine c_lenT ?_)
  | ((with_reducible show CallG _ _ (.builtin "len") [.raw _] _ _); refine c_lenM (by first | assumption | exact updM_same) ?_)
  | ((with_reducible show CallG _ _ (.type "list") [.tup _] _ _); refine c_listT ?_)
  | ((with_reducible show CallG _ _ (.type "tuple") [.lst _] _ _); refine c_tuple ?_)
  | ((with_reducible show CallG _ _ (.type "tuple") [.tup _] _ _); refine c_tupleT ?_)
  | ((with_reducible show CallG _ _ (.builtin "max") [.int _, .int _] _ _); refine c_max2 rfl ?_)
  | ((with_reducible show CallG _ _ (.builtin "min") [.int _, .int _] _ _); refine c_min2 rfl ?_)
  | ((with_reducible show IxG _ _ (.tup _) _ _ _); refine ix_tupD rfl ?_)
  | ((with_reducible show IxG _ _ (.raw _) _ _ _); refine ix_mlst (by first | assumption | exact updM_same) rfl ?_)
  | ((with_reducible show WA _ _ (_ :: _) _ _ _); refine wa_cons ?_)
  | ((with_reducible show WA _ _ [] _ _ _); refine wa_nil ?_))
section
variable {P : Program} {w : World} {K : PySem.W.Frag} {mg : Str → Option Value} {base : Heap}
theorem cutD_drop {xs : List Str} {k : Nat} (h : k ≤ xs.length) : cutD (xs.map D.str) (some (k : Int)) none = (xs.drop k).map D.str := by
  unfold cutD
  have e1 : HT.sIx (xs.map D.str).length 0 (some (k : Int)) = k := by rw [List.length_map]; unfold HT.sIx; first | omega | (simp; omega) | (dsimp only; split <;> omega)
  have e2 : HT.sIx (xs.map D.str).length (xs.map D.str).length none = (xs.map D.str).length := rfl
  rw [e1, e2, List.map_drop, List.take_of_length_le (by rw [List.length_drop]; omega)]
theorem lt9 {k : Nat} (h : Nat.ble k 9 = true) : k < 1000 := Nat.lt_of_le_of_lt (Nat.le_of_ble_eq_true h) (by decide)
/-! ### turned_round -/
def spTurn : SpD := fun xs M Q => ∃ (l : List Str) (k : Int), xs = [.tup (l.map D.str), .int k] ∧ 0 < l.length ∧ l.length ≤ 1000 ∧ Q (.tup ((turn l k).map D.str)) M
theorem sc_turn : FnScope ["arrows", "shift", "at"] ["arrows", "shift"] d_turned_round.scope := ⟨rfl, rfl, rfl, by decide +kernel, rfl, by decide +kernel, by decide +kernel⟩
theorem cal_turn (m : Md K mg base) : CalD P w K mg base 1 "turned_round" spTurn [] := by
  refine cal_of (d := d_turned_round) rfl (fd_turned_round m.c) (He.glo_ok m.i m.n (glo_turned_round m.c)) sc_turn (fun xs M Q ⟨a, b, e, _⟩ => by rw [e]; rfl) (fun _ _ _ _ _ _ us hl => match us, hl with | [_, _], _ => rfl) ?_
  rintro cdv A outer s H E hr xs M Q ⟨l, k, rfl, h0, hl, hQ⟩
  have nd := sc_turn.nd
  have flen : mg "len" = none := He.free_ok m.i m.n (free_len m.c)
  have hsz : sizeLine = 16777216 := sizeLine_eq
  have hp : (0 : Int) < ((l.map D.str).length : Nat) := by rw [List.length_map]; omega
  refine wss_cons (ws_set 2 nd rfl <| we_bin <| we_var 1 rfl rfl <| we_b1 flen bb_len <| we_var 0 rfl rfl <| c_lenT <| b_mod hp ?_)
  have h2 := Int.emod_nonneg k (show ((l.map D.str).length : Int) ≠ 0 by omega)
  have h3 := Int.emod_lt_of_pos k hp
  unfold turn at hQ
  rw [List.length_map] at h2 h3 ⊢
  generalize k % (l.length : Int) = a at h2 h3 hQ
  obtain ⟨a, rfl⟩ := Int.eq_ofNat_of_zero_le h2
  rw [Int.toNat_natCast] at hQ
  refine wss_one <| ws_ret <| we_bin <| we_slice <| we_var 0 rfl rfl <| wo_some <| we_var 2 rfl rfl ⟨a, rfl, wo_none ⟨_, .tup _ _ _, ?_⟩⟩
  refine we_slice <| we_var 0 rfl rfl <| wo_none <| wo_some <| we_var 2 rfl rfl ⟨a, rfl, _, .tup _ _ _, ?_⟩
  rw [cutD_drop (by omega), cutD_take (by omega)]
  refine b_addT (by simp; omega) ?_
  rw [← List.map_append]
  exact hQ
/-! ### Writing -/
abbrev CW (K : PySem.W.Frag) : Addr := He.ga K "Writing"
abbrev sT (l : List Str) : D := .tup (l.map D.str)
def wrF (l m r : List Str) (s : Int) : List (Str × D) := [("left", sT l), ("middle", sT m), ("right", sT r), ("start", .int s), ("end", .int (s + m.length))]
def spWInit (C : Addr) : SpD := fun xs M Q => ∃ (q : Addr) (l m r : List Str) (md : D) (s : Int), xs = [.raw (.ref q), .lst (l.map D.str), md, .lst (r.map D.str), .int s] ∧ (md = .lst (m.map D.str) ∨ md = sT m) ∧ M q = some (.obj C []) ∧ 0 < l.length ∧ l.length ≤ 1000 ∧ 0 < r.length ∧ r.length ≤ 1000 ∧
  ∀ p n, Prim (wd l) l.length p → Prim (wd r) r.length n → Q .non (updM M q (.obj C (wrF (l.take p) m (r.take n) s)))
theorem sc_winit : FnScope ["self", "left", "middle", "right", "start"] ["self", "left", "middle", "right", "start"] d_Writing___init__.scope := ⟨rfl, rfl, rfl, by decide +kernel, rfl, by decide +kernel, by decide +kernel⟩
theorem mak_writing (m : Md K mg base) : MakD P w K mg base 2 "Writing" (CW K) (spWInit (CW K)) [] := by
  refine mak_of (d := d_Writing___init__) rfl (fd_Writing___init__ m.c) (He.mkr_ok (mkr_Writing m.c)) (He.glo_ok m.i m.n (glo_Writing m.c)) sc_winit (fun xs M Q ⟨a, b, c, d, f, g, e, _⟩ => by rw [e]; rfl) (fun _ _ _ _ _ _ us hl => match us, hl with | [_, _, _, _, _], _ => rfl) ?_
  rintro cdv A outer s H E hr xs M Q ⟨q, l, mD, r, md, st, rfl, hmd, hM, h1, h2, h3, h4, hQ⟩
  have nd := sc_winit.nd
  have flen : mg "len" = none := He.free_ok m.i m.n (free_len m.c)
  have ftuple : mg "tuple" = none := He.free_ok m.i m.n (free_tuple m.c)
  have cl := He.cls_ok (cls_Writing m.c)
  have n1 := He.noat_ok (noat_Writing_left m.c)
  have n2 := He.noat_ok (noat_Writing_middle m.c)
  have n3 := He.noat_ok (noat_Writing_right m.c)
  have n4 := He.noat_ok (noat_Writing_start m.c)
  have n5 := He.noat_ok (noat_Writing_end m.c)
  refine wss_cons <| ws_fld <| we_cal (cal_short m) hr (by decide) <| wa1 <| we_var 1 rfl rfl ⟨l, rfl, h1, h2, fun p hp => we_var 0 rfl rfl ⟨q, _, [], rfl, hM, cl, n1, lt9 rfl, ?_⟩⟩
  have go : ∀ M1, CallG PmT (cx0 P w K mg base ["self", "left", "middle", "right", "start"] d_Writing___init__.qual d_Writing___init__.scope (He.fAd K d_Writing___init__.at_) cdv A outer s H E) (.type "tuple") [md] M1 fun d M2 => d = sT mD ∧ M2 = M1 := fun M1 => by
    rcases hmd with rfl | rfl
    · exact c_tuple ⟨rfl, rfl⟩
    · exact c_tupleT ⟨rfl, rfl⟩
  refine wss_cons <| ws_fld <| we_t1 ftuple bb_tuple <| we_var 2 rfl rfl <| (go _).mono ?_
  rintro d1 M1 ⟨rfl, rfl⟩
  refine we_var 0 rfl rfl ⟨q, _, _, rfl, updM_same, cl, n2, lt9 rfl, ?_⟩
  rw [updM_updM]
  refine wss_cons <| ws_fld <| we_cal (cal_short m) hr (by decide) <| wa1 <| we_var 3 rfl rfl ⟨r, rfl, h3, h4, fun n hn => we_var 0 rfl rfl ⟨q, _, _, rfl, updM_same, cl, n3, lt9 rfl, ?_⟩⟩
  rw [updM_updM]
  refine wss_cons <| ws_fld <| we_var 4 rfl rfl <| we_var 0 rfl rfl ⟨q, _, _, rfl, updM_same, cl, n4, lt9 rfl, ?_⟩
  rw [updM_updM]
  refine wss_one <| ws_fld <| we_bin <| we_var 4 rfl rfl <| we_b1 flen bb_len <| we_fld <| we_var 0 rfl rfl ⟨_, _, _, .inr ⟨q, rfl, updM_same⟩, cl, n2, rfl, c_lenT <| b_add <| we_var 0 rfl rfl ⟨q, _, _, rfl, updM_same, cl, n5, lt9 rfl, ?_⟩⟩
  rw [updM_updM, List.length_map]
  exact hQ p n hp hn
/-- a writing whose rounds are not empty -/
abbrev wR (l m r : List Str) (s : Int) : Rw Str := ⟨false, l, m, r, s⟩
def spAt (C : Addr) : SpD := fun xs M Q => ∃ l m r s t, xs = [.obj C (wrF l m r s), .int t] ∧ 0 < l.length ∧ 0 < r.length ∧ Q (.str ((wR l m r s).at t)) M
theorem sc_at : FnScope ["self", "time"] ["self", "time"] d_Writing_arrow_at.scope := ⟨rfl, rfl, rfl, by decide +kernel, rfl, by decide +kernel, by decide +kernel⟩
theorem met_at (m : Md K mg base) : MetD P w K mg base 1 (CW K) "arrow_at" (spAt (CW K)) [] := by
  refine met_of (d := d_Writing_arrow_at) rfl (fd_Writing_arrow_at m.c) (He.cls_ok (cls_Writing m.c)) (He.meth_ok (meth_Writing_arrow_at m.c)) sc_at (fun xs M Q ⟨a, b, c, d, f, e, _⟩ => by rw [e]; rfl) (fun _ _ _ _ _ _ us hl => match us, hl with | [_, _], _ => rfl) ?_
  rintro cdv A outer s H E hr xs M Q ⟨l, mi, r, st, t, rfl, h1, h2, hQ⟩
  have flen : mg "len" = none := He.free_ok m.i m.n (free_len m.c)
  have cl := He.cls_ok (cls_Writing m.c)
  have n1 := He.noat_ok (noat_Writing_left m.c)
  have n2 := He.noat_ok (noat_Writing_middle m.c)
  have n3 := He.noat_ok (noat_Writing_right m.c)
  have n4 := He.noat_ok (noat_Writing_start m.c)
  have n5 := He.noat_ok (noat_Writing_end m.c)
  have hl : (0 : Int) < ((l.map D.str).length : Nat) := by rw [List.length_map]; omega
  have hr2 : (0 : Int) < ((r.map D.str).length : Nat) := by rw [List.length_map]; omega
  refine wss_cons <| ws_if <| wt_cmp <| we_var 1 rfl rfl <| we_fld <| we_var 0 rfl rfl ⟨_, _, _, .inl rfl, cl, n4, rfl, b_lt ⟨_, rfl, fun c => ?_, fun c => wss_nil ?_⟩⟩
  · have c := of_decide_eq_true c
    refine wss_one <| ws_ret <| we_ix <| we_fld <| we_var 0 rfl rfl ⟨_, _, _, .inl rfl, cl, n1, rfl, we_bin <| we_bin <| we_var 1 rfl rfl <| we_fld <| we_var 0 rfl rfl ⟨_, _, _, .inl rfl, cl, n4, rfl, b_sub <| we_b1 flen bb_len <| we_fld <| we_var 0 rfl rfl ⟨_, _, _, .inl rfl, cl, n1, rfl, c_lenT <| b_mod hl <| ix_tupD (atI_str (Int.emod_nonneg _ (by omega)) ?_) ?_⟩⟩⟩
    · have := Int.emod_lt_of_pos (t - st) hl
      rw [List.length_map] at this ⊢
      exact this
    · have e : (wR l mi r st).at t = l.getD ((t - st) % (l.length : Int)).toNat default := by
        simp only [Rw.at]
        rw [if_pos c]
      rw [List.length_map, ← e]
      exact hQ
  · have c := of_decide_eq_false c
    refine wss_cons <| ws_if <| wt_cmp <| we_var 1 rfl rfl <| we_fld <| we_var 0 rfl rfl ⟨_, _, _, .inl rfl, cl, n5, rfl, b_lt ⟨_, rfl, fun c2 => ?_, fun c2 => wss_nil ?_⟩⟩
    · have c2 := of_decide_eq_true c2
      refine wss_one <| ws_ret <| we_ix <| we_fld <| we_var 0 rfl rfl ⟨_, _, _, .inl rfl, cl, n2, rfl, we_bin <| we_var 1 rfl rfl <| we_fld <| we_var 0 rfl rfl ⟨_, _, _, .inl rfl, cl, n4, rfl, b_sub <| ix_tupD (atI_str (by omega) (by omega)) ?_⟩⟩
      have e : (wR l mi r st).at t = mi.getD (t - st).toNat default := by
        simp only [Rw.at]
        rw [if_neg c, if_pos (by omega)]
      rw [← e]
      exact hQ
    · have c2 := of_decide_eq_false c2
      refine wss_one <| ws_ret <| we_ix <| we_fld <| we_var 0 rfl rfl ⟨_, _, _, .inl rfl, cl, n3, rfl, we_bin <| we_bin <| we_var 1 rfl rfl <| we_fld <| we_var 0 rfl rfl ⟨_, _, _, .inl rfl, cl, n5, rfl, b_sub <| we_b1 flen bb_len <| we_fld <| we_var 0 rfl rfl ⟨_, _, _, .inl rfl, cl, n3, rfl, c_lenT <| b_mod hr2 <| ix_tupD (atI_str (Int.emod_nonneg _ (by omega)) ?_) ?_⟩⟩⟩
      · have := Int.emod_lt_of_pos (t - (st + mi.length)) hr2
        rw [List.length_map] at this ⊢
        exact this
      · have e : (wR l mi r st).at t = r.getD ((t - (st + mi.length)) % (r.length : Int)).toNat default := by
          simp only [Rw.at]
          rw [if_neg c, if_neg (by omega), show t - st - (mi.length : Int) = t - (st + mi.length) by omega]
        rw [List.length_map, ← e]
        exact hQ
end
end K03

namespace K03
open PySem PySem.Spec L2 DL

local macro_rules | `(tactic| walk_at "dl") => `(tactic| first
  | ((with_reducible show WE _ _ (.Constant _ _ _) _ _ _); first | refine we_int ?_ | refine we_str ?_ | refine we_bl ?_ | refine we_non ?_)
  | ((with_reducible show WE _ _ (.Name _ _) _ _ _); first | refine we_var 0 rfl rfl ?_ | refine we_var 1 rfl rfl ?_ | refine we_var 2 rfl rfl ?_ | refine we_var 3 rfl rfl ?_ | refine we_var 4 rfl rfl ?_ | refine we_var 5 rfl rfl ?_ | refine we_var 6 rfl rfl ?_ | refine we_var 7 rfl rfl ?_ | refine we_var 8 rfl rfl ?_ | refine we_var 9 rfl rfl ?_ | refine we_var 10 rfl rfl ?_ | refine we_var 11 rfl rfl ?_ | refine we_var 12 rfl rfl ?_ | refine we_var 13 rfl rfl ?_ | refine we_var 14 rfl rfl ?_ | refine we_var 15 rfl rfl ?_)
  | ((with_reducible show WE _ _ (.BinOp _ _ _ _) _ _ _); refine we_bin ?_)
  | ((with_reducible show WE _ _ (.Compare _ [_] [_] _) _ _ _); refine we_cmp ?_)
  | ((with_reducible show WT _ _ (.Compare _ [_] [_] _) _ _ _); refine wt_cmp ?_)
  | ((with_reducible show WE _ _ (.UnaryOp .USub _ _) _ _ _); refine we_un ?_)
  | ((with_reducible show WT _ _ (.UnaryOp .Not _ _) _ _ _); refine wt_not ?_)
  | ((with_reducible show WE _ _ (.IfExp _ _ _ _) _ _ _); refine we_ifx ?_)
  | ((with_reducible show WE _ _ (.Subscript _ (.Name _ _) _) _ _ _); refine we_ix ?_)
  | ((with_reducible show WE _ _ (.Subscript _ (.Constant _ _ _) _) _ _ _); refine we_ix ?_)
  | ((with_reducible show WE _ _ (.Subscript _ (.Subscript _ _ _) _) _ _ _); refine we_ix ?_)
  | ((with_reducible show WE _ _ (.Subscript _ (.BinOp _ _ _ _) _) _ _ _); refine we_ix ?_)
  | ((with_reducible show WE _ _ (.Subscript _ (.UnaryOp _ _ _) _) _ _ _); refine we_ix ?_)
  | ((with_reducible show WE _ _ (.Subscript _ (.Call _ _ _ _) _) _ _ _); refine we_ix ?_)
  | ((with_reducible show WE _ _ (.Call (.Name "len" _) [_] [] _) _ _ _); refine we_b1 (by assumption) bb_len ?_)
  | ((with_reducible show WE _ _ (.Call (.Name "abs" _) [_] [] _) _ _ _); refine we_b1 (by assumption) bb_abs ?_)
  | ((with_reducible show WE _ _ (.Call (.Name "int" _) [_] [] _) _ _ _); refine we_t1 (by assumption) bb_int ?_)
  | ((with_reducible show WE _ _ (.Call (.Name "list" _) [_] [] _) _ _ _); refine we_t1 (by assumption) bb_list ?_)
  | ((with_reducible show WE _ _ (.Call (.Name "tuple" _) [_] [] _) _ _ _); refine we_t1 (by assumption) bb_tuple ?_)
  | ((with_reducible show WE _ _ (.Call (.Name "str" _) [_] [] _) _ _ _); refine we_t1 (by assumption) bb_str ?_)
  | ((with_reducible show WE _ _ (.Call (.Name "set" _) [_] [] _) _ _ _); refine we_t1 (by assumption) bb_set ?_)
  | ((with_reducible show WE _ _ (.Call (.Name "sorted" _) [_] [] _) _ _ _); refine we_b1 (by assumption) bb_sorted ?_)
  | ((with_reducible show WE _ _ (.Call (.Name "isinstance" _) [_, _] [] _) _ _ _); refine we_b2 (by assumption) bb_isinstance ?_)
  | ((with_reducible show WE _ _ (.Call (.Name "max" _) [_] [] _) _ _ _); refine we_b1 (by assumption) bb_max ?_)
  | ((with_reducible show WE _ _ (.Call (.Name "min" _) [_] [] _) _ _ _); refine we_b1 (by assumption) bb_min ?_)
  | ((with_reducible show WE _ _ (.Call (.Name "max" _) [_, _] [] _) _ _ _); refine we_b2 (by assumption) bb_max ?_)
  | ((with_reducible show WE _ _ (.Call (.Name "min" _) [_, _] [] _) _ _ _); refine we_b2 (by assumption) bb_min ?_)
  | ((with_reducible show BinG _ _ (binaryOp .Add) (.int _) (.int _) _ _); refine b_add ?_)
  | ((with_reducible show BinG _ _ (binaryOp .Sub) (.int _) (.int _) _ _); refine b_sub ?_)
  | ((with_reducible show BinG _ _ (binaryOp .Mod) (.int _) (.int _) _ _); refine b_mod (by omega) ?_)
  | ((with_reducible show BinG _ _ (binaryOp .FloorDiv) (.int _) (.int _) _ _); refine b_div ⟨by omega, by omega⟩ ?_)
  | ((with_reducible show BinG _ _ (binaryOp .Mult) (.int _) (.int _) _ _); first | refine b_mul (.inr ⟨by omega, by omega⟩) ?_ | refine b_mul (.inl ⟨by omega, by omega⟩) ?_)
  | ((with_reducible show BinG _ _ (compareOp .Lt) (.int _) (.int _) _ _); refine b_lt ?_)
  | ((with_reducible show BinG _ _ (compareOp .LtE) (.int _) (.int _) _ _); refine b_le ?_)
  | ((with_reducible show BinG _ _ (compareOp .Gt) (.int _) (.int _) _ _); refine b_gt ?_)
  | ((with_reducible show BinG _ _ (compareOp .GtE) (.int _) (.int _) _ _); refine b_ge ?_)
  | ((with_reducible show BinG _ _ (compareOp .Eq) (.int _) (.int _) _ _); refine b_eqI (by assumption) ?_)
  | ((with_reducible show BinG _ _ (compareOp .NotEq) (.int _) (.int _) _ _); refine b_neI (by assumption) ?_)
  | ((with_reducible show UnG _ _ (unaryOp .USub) (.int _) _ _); refine b_neg ?_)
  | (with_reducible refine ex_bl ?_)
  | ((with_reducible show CallG _ _ (.type "int") [.int _] _ _); refine c_int ?_)
  | ((with_reducible show CallG _ _ (.type "int") [.bl _] _ _); refine c_intB ?_)
  | ((with_reducible show CallG _ _ (.builtin "abs") _ _ _); refine c_abs ?_)
  | ((with_reducible show CallG _ _ (.builtin "len") [.lst _] _ _); refine c_len ?_)
  | ((with_reducible show CallG _ _ (.builtin "len") [.tup _] _ _); refine c_lenT ?_)
  | ((with_reducible show CallG _ _ (.builtin "len") [.raw _] _ _); refine c_lenM (by first | assumption | exact updM_same) ?_)
  | ((with_reducible show CallG _ _ (.type "list") [.tup _] _ _); refine c_listT ?_)
  | ((with_reducible show CallG _ _ (.type "tuple") [.lst _] _ _); refine c_tuple ?_)
  | ((with_reducible show CallG _ _ (.type "tuple") [.tup _] _ _); refine c_tupleT ?_)
  | ((with_reducible show CallG _ _ (.builtin "max") [.int _, .int _] _ _); refine c_max2 rfl ?_)
  | ((with_reducible show CallG _ _ (.builtin "min") [.int _, .int _] _ _); refine c_min2 rfl ?_)
  | ((with_reducible show IxG _ _ (.tup _) _ _ _); refine ix_tupD rfl ?_)
  | ((with_reducible show IxG _ _ (.raw _) _ _ _); refine ix_mlst (by first | assumption | exact updM_same) rfl ?_)
  | ((with_reducible show WA _ _ (_ :: _) _ _ _); refine wa_cons ?_)
  | ((with_reducible show WA _ _ [] _ _ _); refine wa_nil ?_))
section
variable {P : Program} {w : World} {K : PySem.W.Frag} {mg : Str → Option Value} {base : Heap}
theorem at_take {l m r : List Str} {s : Int} {p n : Nat} (h1 : 0 < l.length) (h2 : 0 < r.length) (hp : Prim (wd l) l.length p) (hn : Prim (wd r) r.length n) (t : Int) : (wR (l.take p) m (r.take n) s).at t = (wR l m r s).at t := by
  have key : ∀ (l : List Str) (p : Nat) (x : Int), 0 < l.length → Prim (wd l) l.length p → (l.take p).getD (x % ((l.take p).length : Int)).toNat default = l.getD (x % (l.length : Int)).toNat default := fun l p x h hp => by
    have hle : p ≤ l.length := Nat.le_of_dvd h hp.dvd
    have p0 := hp.pd.1
    have el : (l.take p).length = p := by rw [List.length_take]; omega
    have a1 := Int.emod_nonneg x (show (l.length : Int) ≠ 0 by omega)
    have a2 := Int.emod_lt_of_pos x (show (0 : Int) < l.length by omega)
    have b1 := Int.emod_nonneg x (show (p : Int) ≠ 0 by omega)
    have b2 := Int.emod_lt_of_pos x (show (0 : Int) < p by omega)
    rw [el, getD_take (by omega)]
    have h3 := pd_mod hp.pd (r := (x % (l.length : Int)).toNat) (by omega)
    have e : (x % (l.length : Int)).toNat % p = (x % (p : Int)).toNat := by
      obtain ⟨c, hc⟩ := hp.dvd
      have : (x % (l.length : Int)) % (p : Int) = x % (p : Int) := by
        rw [hc, Int.natCast_mul]
        exact Int.emod_emod_of_dvd _ (Int.dvd_mul_right ..)
      obtain ⟨k, hk⟩ := Int.eq_ofNat_of_zero_le a1
      rw [hk] at this ⊢
      rw [Int.toNat_natCast, ← this, ← Int.natCast_emod, Int.toNat_natCast]
    rw [e] at h3
    exact h3.symm
  simp only [Rw.at]
  rw [key l p _ h1 hp, key r n _ h2 hn]
/-! ### stretch -/
def spStretch (C : Addr) : SpD := fun xs M Q => ∃ l m r s a b, xs = [.obj C (wrF l m r s), .int a, .int b] ∧ 0 < l.length ∧ 0 < r.length ∧ -(2 ^ 61) ≤ a ∧ a < 2 ^ 61 ∧ -(2 ^ 61) ≤ b ∧ b < 2 ^ 61 ∧ b - a ≤ 2000 ∧ Q (sT (seg (wR l m r s).at a (b - a).toNat)) M
theorem sc_stretch : FnScope ["self", "first", "behind", "time"] ["self", "first", "behind"] d_Writing_stretch.scope := ⟨rfl, rfl, rfl, by decide +kernel, rfl, by decide +kernel, by decide +kernel⟩
theorem met_stretch (m : Md K mg base) : MetD P w K mg base 2 (CW K) "stretch" (spStretch (CW K)) [] := by
  refine met_of (d := d_Writing_stretch) rfl (fd_Writing_stretch m.c) (He.cls_ok (cls_Writing m.c)) (He.meth_ok (meth_Writing_stretch m.c)) sc_stretch (fun xs M Q ⟨a, b, c, d, f, g, e, _⟩ => by rw [e]; rfl) (fun _ _ _ _ _ _ us hl => match us, hl with | [_, _, _], _ => rfl) ?_
  rintro cdv A outer s H E hr xs M Q ⟨l, mi, r, st, a, b, rfl, h1, h2, h3, h3', h4', h4, h5, hQ⟩
  have nd := sc_stretch.nd
  have ftuple : mg "tuple" = none := He.free_ok m.i m.n (free_tuple m.c)
  have frange : mg "range" = none := He.free_ok m.i m.n (free_range m.c)
  have hsz : sizeLine = 16777216 := sizeLine_eq
  refine wss_one <| ws_ret <| we_t1 ftuple bb_tuple <| we_lcM (.nm 3) (List.range (b - a).toNat) (fun i : Nat => .int (a + (i : Int))) (fun i : Nat => .str ((wR l mi r st).at (a + (i : Int)))) rfl nd (own := [("time", 3)]) (by kernel_rfl) (by decide) (fun s0 H0 C cl fp => pgN nd rfl) (wi_range2 frange <| wa2 <| we_var 1 rfl rfl <| we_var 2 rfl rfl ⟨a, b, rfl, by omega, by omega, li_range _ _, ?_, ?_⟩)
  · intro i hi M' hs
    exact ⟨_, rfl, fun s0 H0 C cl fp => we_met (met_at m) hr (by decide) <| we_var 0 rfl rfl ⟨_, .inl rfl, rfl, wa1 <| we_var 3 rfl rfl ⟨l, mi, r, st, _, rfl, h1, h2, rfl, rfl⟩⟩⟩
  · have e : (List.range (b - a).toNat).map (fun i : Nat => D.str ((wR l mi r st).at (a + (i : Int)))) = (seg (wR l mi r st).at a (b - a).toNat).map D.str := by unfold seg; rw [List.map_map]; rfl
    rw [e]
    exact c_tuple hQ
/-! ### right_begin -/
def spRB (C : Addr) : SpD := fun xs M Q => ∃ l m r s, xs = [.obj C (wrF l m r s)] ∧ 0 < l.length ∧ 0 < r.length ∧
  ((∀ t, s - l.length - r.length ≤ t → t < s + m.length → (wR l m r s).at t = (wR l m r s).at (t + r.length)) → Q .non M) ∧
  ∀ b, s - l.length - r.length < b → b ≤ s + m.length → (∀ t, b ≤ t → t < s + m.length → (wR l m r s).at t = (wR l m r s).at (t + r.length)) → (wR l m r s).at (b - 1) ≠ (wR l m r s).at (b - 1 + r.length) → Q (.int b) M
theorem sc_rb : FnScope ["self", "count", "floor", "begin"] ["self"] d_Writing_right_begin.scope := ⟨rfl, rfl, rfl, by decide +kernel, rfl, by decide +kernel, by decide +kernel⟩
theorem met_rb (m : Md K mg base) : MetD P w K mg base 2 (CW K) "right_begin" (spRB (CW K)) [] := by
  refine met_of (d := d_Writing_right_begin) rfl (fd_Writing_right_begin m.c) (He.cls_ok (cls_Writing m.c)) (He.meth_ok (meth_Writing_right_begin m.c)) sc_rb (fun xs M Q ⟨a, b, c, d, e, _⟩ => by rw [e]; rfl) (fun _ _ _ _ _ _ us hl => match us, hl with | [_], _ => rfl) ?_
  rintro cdv A outer s H E hr xs M Q ⟨l, mi, r, st, rfl, h1, h2, hQ1, hQ2⟩
  have nd := sc_rb.nd
  have flen : mg "len" = none := He.free_ok m.i m.n (free_len m.c)
  have cl := He.cls_ok (cls_Writing m.c)
  have n1 := He.noat_ok (noat_Writing_left m.c)
  have n3 := He.noat_ok (noat_Writing_right m.c)
  have n4 := He.noat_ok (noat_Writing_start m.c)
  have n5 := He.noat_ok (noat_Writing_end m.c)
  generalize hf : (wR l mi r st).at = f at hQ1 hQ2
  refine wss_cons <| ws_set 1 nd rfl <| we_b1 flen bb_len <| we_fld <| we_var 0 rfl rfl ⟨_, _, _, .inl rfl, cl, n3, rfl, c_lenT ?_⟩
  refine wss_cons <| ws_set 2 nd rfl <| we_bin <| we_bin <| we_fld <| we_var 0 rfl rfl ⟨_, _, _, .inl rfl, cl, n4, rfl, we_b1 flen bb_len <| we_fld <| we_var 0 rfl rfl ⟨_, _, _, .inl rfl, cl, n1, rfl, c_lenT <| b_sub <| we_var 1 rfl rfl <| b_sub ?_⟩⟩
  refine wss_cons <| ws_set 3 nd rfl <| we_fld <| we_var 0 rfl rfl ⟨_, _, _, .inl rfl, cl, n5, rfl, ?_⟩
  rw [List.length_map, List.length_map]
  generalize hfl : st - (l.length : Int) - (r.length : Int) = fl at hQ1 hQ2
  refine wss_cut (fun ds1 M1 => ∃ b : Int, ds1 = [some (.obj (CW K) (wrF l mi r st)), some (.int (r.length : Int)), some (.int fl), some (.int b)] ∧ M1 = M ∧ fl ≤ b ∧ b ≤ st + mi.length ∧ (∀ t, b ≤ t → t < st + mi.length → f t = f (t + r.length)) ∧ (b = fl ∨ f (b - 1) ≠ f (b - 1 + r.length)))
    (ws_while (fun mm ds1 M1 => ∃ b : Int, ds1 = [some (.obj (CW K) (wrF l mi r st)), some (.int (r.length : Int)), some (.int fl), some (.int b)] ∧ M1 = M ∧ fl ≤ b ∧ b ≤ st + mi.length ∧ (∀ t, b ≤ t → t < st + mi.length → f t = f (t + r.length)) ∧ mm = (b - fl).toNat) PassesOwn.never ⟨_, _, rfl, rfl, by omega, Int.le_refl _, fun t h3 h4 => by omega, rfl⟩ ?_) ?_
  · rintro mm ds1 M1 ⟨b, rfl, rfl, b1, b2, b3, hmm⟩
    refine wt_w <| ww_and <| wt_cmp <| we_var 3 rfl rfl <| we_var 2 rfl rfl <| b_gt ⟨_, rfl, fun h => ?_, fun h => ⟨fun h => (by cases h), fun _ => ⟨b, rfl, rfl, b1, b2, b3, .inl (by have := of_decide_eq_false h; omega)⟩⟩⟩
    have hb0 := of_decide_eq_true h
    refine ww_and1 <| wt_cmp <| we_met (met_at m) hr (by decide) <| we_var 0 rfl rfl ⟨_, .inl rfl, rfl, wa1 <| we_bin <| we_var 3 rfl rfl <| we_int <| b_sub ⟨l, mi, r, st, _, rfl, h1, h2, ?_⟩⟩
    refine we_met (met_at m) hr (by decide) <| we_var 0 rfl rfl ⟨_, .inl rfl, rfl, wa1 <| we_bin <| we_bin <| we_var 3 rfl rfl <| we_int <| b_sub <| we_var 1 rfl rfl <| b_add ⟨l, mi, r, st, _, rfl, h1, h2, ?_⟩⟩
    rw [hf]
    refine b_eqS ⟨_, rfl, fun h => ?_, fun h => ⟨b, rfl, rfl, b1, b2, b3, .inr (of_decide_eq_false h)⟩⟩
    refine wss_one <| ws_aug 3 nd rfl rfl <| we_int <| bi_sub ⟨(b - 1 - fl).toNat, by omega, b - 1, rfl, rfl, by omega, by omega, fun t h3 h4 => ?_, rfl⟩
    by_cases e : t = b - 1
    · rw [e]; exact of_decide_eq_true h
    · exact b3 t (by omega) h4
  rintro ds1 M1 ⟨b, rfl, rfl, b1, b2, b3, b4⟩
  refine wss_cons <| ws_if <| wt_cmp <| we_var 3 rfl rfl <| we_var 2 rfl rfl <| b_eqI hr ⟨_, rfl, fun h => wss_one <| ws_ret <| we_non <| hQ1 ?_, fun h => wss_nil <| wss_one <| ws_ret <| we_var 3 rfl rfl <| hQ2 b ?_ b2 b3 ?_⟩
  · have := of_decide_eq_true h
    subst this
    exact b3
  · have := of_decide_eq_false h; omega
  · exact b4.resolve_left (of_decide_eq_false h)
/-! ### left_end -/
def spLE (C : Addr) : SpD := fun xs M Q => ∃ l m r s, xs = [.obj C (wrF l m r s)] ∧ 0 < l.length ∧ 0 < r.length ∧
  ∀ E : Int, s ≤ E → E ≤ s + m.length + l.length + r.length → (∀ t, s ≤ t → t < E → (wR l m r s).at t = (wR l m r s).at (t - l.length)) → (E = s + m.length + l.length + r.length ∨ (wR l m r s).at E ≠ (wR l m r s).at (E - l.length)) → Q (.int E) M
theorem sc_le : FnScope ["self", "count", "ceiling", "end"] ["self"] d_Writing_left_end.scope := ⟨rfl, rfl, rfl, by decide +kernel, rfl, by decide +kernel, by decide +kernel⟩
theorem met_le (m : Md K mg base) : MetD P w K mg base 2 (CW K) "left_end" (spLE (CW K)) [] := by
  refine met_of (d := d_Writing_left_end) rfl (fd_Writing_left_end m.c) (He.cls_ok (cls_Writing m.c)) (He.meth_ok (meth_Writing_left_end m.c)) sc_le (fun xs M Q ⟨a, b, c, d, e, _⟩ => by rw [e]; rfl) (fun _ _ _ _ _ _ us hl => match us, hl with | [_], _ => rfl) ?_
  rintro cdv A outer s H E hr xs M Q ⟨l, mi, r, st, rfl, h1, h2, hQ⟩
  have nd := sc_le.nd
  have flen : mg "len" = none := He.free_ok m.i m.n (free_len m.c)
  have cl := He.cls_ok (cls_Writing m.c)
  have n1 := He.noat_ok (noat_Writing_left m.c)
  have n3 := He.noat_ok (noat_Writing_right m.c)
  have n4 := He.noat_ok (noat_Writing_start m.c)
  have n5 := He.noat_ok (noat_Writing_end m.c)
  generalize hf : (wR l mi r st).at = f at hQ
  refine wss_cons <| ws_set 1 nd rfl <| we_b1 flen bb_len <| we_fld <| we_var 0 rfl rfl ⟨_, _, _, .inl rfl, cl, n1, rfl, c_lenT ?_⟩
  refine wss_cons <| ws_set 2 nd rfl <| we_bin <| we_bin <| we_fld <| we_var 0 rfl rfl ⟨_, _, _, .inl rfl, cl, n5, rfl, we_var 1 rfl rfl <| b_add <| we_b1 flen bb_len <| we_fld <| we_var 0 rfl rfl ⟨_, _, _, .inl rfl, cl, n3, rfl, c_lenT <| b_add ?_⟩⟩
  refine wss_cons <| ws_set 3 nd rfl <| we_fld <| we_var 0 rfl rfl ⟨_, _, _, .inl rfl, cl, n4, rfl, ?_⟩
  rw [List.length_map, List.length_map]
  generalize hce : st + (mi.length : Int) + (l.length : Int) + (r.length : Int) = ce at hQ
  refine wss_cut (fun ds1 M1 => ∃ b : Int, ds1 = [some (.obj (CW K) (wrF l mi r st)), some (.int (l.length : Int)), some (.int ce), some (.int b)] ∧ M1 = M ∧ st ≤ b ∧ b ≤ ce ∧ (∀ t, st ≤ t → t < b → f t = f (t - l.length)) ∧ (b = ce ∨ f b ≠ f (b - l.length)))
    (ws_while (fun mm ds1 M1 => ∃ b : Int, ds1 = [some (.obj (CW K) (wrF l mi r st)), some (.int (l.length : Int)), some (.int ce), some (.int b)] ∧ M1 = M ∧ st ≤ b ∧ b ≤ ce ∧ (∀ t, st ≤ t → t < b → f t = f (t - l.length)) ∧ mm = (ce - b).toNat) PassesOwn.never ⟨_, _, rfl, rfl, Int.le_refl _, by omega, fun t h3 h4 => by omega, rfl⟩ ?_) ?_
  · rintro mm ds1 M1 ⟨b, rfl, rfl, b1, b2, b3, hmm⟩
    refine wt_w <| ww_and <| wt_cmp <| we_var 3 rfl rfl <| we_var 2 rfl rfl <| b_lt ⟨_, rfl, fun h => ?_, fun h => ⟨fun h => (by cases h), fun _ => ⟨b, rfl, rfl, b1, b2, b3, .inl (by have := of_decide_eq_false h; omega)⟩⟩⟩
    have hb0 := of_decide_eq_true h
    refine ww_and1 <| wt_cmp <| we_met (met_at m) hr (by decide) <| we_var 0 rfl rfl ⟨_, .inl rfl, rfl, wa1 <| we_var 3 rfl rfl ⟨l, mi, r, st, _, rfl, h1, h2, ?_⟩⟩
    refine we_met (met_at m) hr (by decide) <| we_var 0 rfl rfl ⟨_, .inl rfl, rfl, wa1 <| we_bin <| we_var 3 rfl rfl <| we_var 1 rfl rfl <| b_sub ⟨l, mi, r, st, _, rfl, h1, h2, ?_⟩⟩
    rw [hf]
    refine b_eqS ⟨_, rfl, fun h => ?_, fun h => ⟨b, rfl, rfl, b1, b2, b3, .inr (of_decide_eq_false h)⟩⟩
    refine wss_one <| ws_aug 3 nd rfl rfl <| we_int <| bi_add ⟨(ce - (b + 1)).toNat, by omega, b + 1, rfl, rfl, by omega, by omega, fun t h3 h4 => ?_, rfl⟩
    by_cases e : t = b
    · rw [e]; exact of_decide_eq_true h
    · exact b3 t h3 (by omega)
  rintro ds1 M1 ⟨b, rfl, rfl, b1, b2, b3, b4⟩
  exact wss_one <| ws_ret <| we_var 3 rfl rfl <| hQ b b1 b2 b3 b4
/-! ### least_writing -/
def leastT (R : Rw Str) : D := if R.ring = true then .tup [sT R.l, .non, .non, .non, .non] else .tup [.non, sT R.l, sT R.m, sT R.r, .int R.s]
def spLeast : SpD := fun xs M Q => ∃ (l m r : List Str) (md : D) (s : Int), xs = [.lst (l.map D.str), md, .lst (r.map D.str), .int s] ∧ (md = .lst (m.map D.str) ∨ md = sT m) ∧ 0 < l.length ∧ l.length ≤ 300 ∧ m.length ≤ 300 ∧ 0 < r.length ∧ r.length ≤ 300 ∧ -(2 ^ 60) ≤ s ∧ s ≤ 2 ^ 60 ∧
  ∀ R, Cn (wR l m r s).at R → Q (leastT R) M
theorem sc_least : FnScope ["left", "middle", "right", "start", "told", "begin", "first", "least_left", "least_right"] ["left", "middle", "right", "start"] d_least_writing.scope := ⟨rfl, rfl, rfl, by decide +kernel, rfl, by decide +kernel, by decide +kernel⟩
theorem cal_least (m : Md K mg base) : CalD P w K mg base 4 "least_writing" spLeast [] := by
  refine cal_of (d := d_least_writing) rfl (fd_least_writing m.c) (He.glo_ok m.i m.n (glo_least_writing m.c)) sc_least (fun xs M Q ⟨a, b, c, d, f, e, _⟩ => by rw [e]; rfl) (fun _ _ _ _ _ _ us hl => match us, hl with | [_, _, _, _], _ => rfl) ?_
  rintro cdv A outer s H E hr xs M Q ⟨l, mi, r, md, st, rfl, hmd, h1, h1B, hmB, h2, h2B, hs1, hs2, hQ⟩
  have nd := sc_least.nd
  have flen : mg "len" = none := He.free_ok m.i m.n (free_len m.c)
  have cl := He.cls_ok (cls_Writing m.c)
  have n1 := He.noat_ok (noat_Writing_left m.c)
  have n3 := He.noat_ok (noat_Writing_right m.c)
  have vr : Vr (wR l mi r st) := ⟨h1, h2⟩
  refine wss_cons <| ws_set 4 nd rfl <| we_mak (mak_writing m) hr (by decide) <| wa_cons <| we_var 0 rfl rfl <| wa3 <| we_var 1 rfl rfl <| we_var 2 rfl rfl <| we_var 3 rfl rfl fun q hq => ⟨q, l, mi, r, md, st, rfl, hmd, updM_same, h1, by omega, h2, by omega, fun p n hp hn => mkEnd_of hq ?_⟩
  have hat := at_take (m := mi) (s := st) h1 h2 hp hn
  have hat' : (wR (l.take p) mi (r.take n) st).at = (wR l mi r st).at := funext hat
  have hpl : p ≤ l.length := Nat.le_of_dvd h1 hp.dvd
  have hnl : n ≤ r.length := Nat.le_of_dvd h2 hn.dvd
  have p0 := hp.pd.1
  have n0 := hn.pd.1
  have el : (l.take p).length = p := by rw [List.length_take]; omega
  have er : (r.take n).length = n := by rw [List.length_take]; omega
  obtain ⟨rm, rf0⟩ := rmin_of h2 (at_right vr) hn
  have rf : From (wR l mi r st).at (st + mi.length) n := rf0
  clear rf0
  obtain ⟨lm, lf⟩ := rmin_of h1 (at_left vr) (prim_rev hp)
  have lf : ∀ t, t < st → (wR l mi r st).at (t - p) = (wR l mi r st).at t := left_of lf
  generalize (wR l mi r st).at = f at *
  refine wss_cons <| ws_set 5 nd rfl <| we_met0 (met_rb m) hr (by decide) <| we_var 4 rfl rfl ⟨_, .inl rfl, rfl, l.take p, mi, r.take n, st, rfl, by omega, by omega, ?_⟩
  rw [el, er, hat']
  refine ⟨fun hc => ?_, fun b hb1 hb2 hb3 hb4 => ?_⟩
  · obtain ⟨cn, epn⟩ := cn_ring rm lm rf lf hc
    refine wss_cons <| ws_if <| wt_cmp <| we_var 5 rfl rfl <| we_non <| b_isN (fun G v h => nonN h) ⟨_, rfl, fun _ => ?_, fun h => (by cases h)⟩
    refine wss_one <| ws_ret <| we_tup <| wa_cons <| we_met (met_stretch m) hr (by decide) <| we_var 4 rfl rfl ⟨_, .inl rfl, rfl, wa2 <| we_int <| we_b1 flen bb_len <| we_fld <| we_var 4 rfl rfl ⟨_, _, _, .inl rfl, cl, n1, rfl, c_lenT ?_⟩⟩
    rw [List.length_map, el]
    refine ⟨l.take p, mi, r.take n, st, 0, p, rfl, by omega, by omega, by omega, by omega, by omega, by omega, by omega, ?_⟩
    rw [hat', show ((p : Int) - 0).toNat = p by omega]
    refine wa_cons <| we_non <| wa3 <| we_non <| we_non <| we_non ⟨sz rfl, ?_⟩
    have := hQ _ cn
    rw [← epn] at this
    exact this
  · refine wss_cons <| ws_if <| wt_cmp <| we_var 5 rfl rfl <| we_non <| b_isN (k := false) (fun G v h => nonI h) ⟨_, rfl, fun h => (by cases h), fun _ => wss_nil ?_⟩
    refine wss_cons <| ws_set 6 nd rfl <| we_met0 (met_le m) hr (by decide) <| we_var 4 rfl rfl ⟨_, .inl rfl, rfl, l.take p, mi, r.take n, st, rfl, by omega, by omega, ?_⟩
    rw [el, er, hat']
    intro E hE1 hE2 hE3 hE4
    have cn := cn_ended rm lm rf lf (by omega) hb2 hb3 hb4 hE1 hE3 hE4
    have m1 : min b E ≤ b := Int.min_le_left ..
    have m2 : min b E ≤ E := Int.min_le_right ..
    have m3 : st - p - n < min b E := by omega
    have m4 : b - min b E ≤ mi.length := by omega
    refine wss_cut (fun ds1 M1 => ds1 = [some (.lst (l.map D.str)), some md, some (.lst (r.map D.str)), some (.int st), some (.obj (CW K) (wrF (l.take p) mi (r.take n) st)), some (.int b), some (.int (min b E)), none, none] ∧ M1 = M)
      (ws_if <| wt_cmp <| we_var 5 rfl rfl <| we_var 6 rfl rfl <| b_lt ⟨_, rfl, fun h => wss_one <| ws_set 6 nd rfl <| we_var 5 rfl rfl ⟨?_, rfl⟩, fun h => wss_nil ⟨?_, rfl⟩⟩) ?_
    · have := of_decide_eq_true h
      rw [show min b E = b by omega]; rfl
    · have := of_decide_eq_false h
      rw [show min b E = E by omega]; rfl
    rintro ds1 M1 ⟨rfl, rfl⟩
    generalize min b E = L at *
    refine wss_cons <| ws_set 7 nd rfl <| we_met (met_stretch m) hr (by decide) <| we_var 4 rfl rfl ⟨_, .inl rfl, rfl, wa2 <| we_bin <| we_var 6 rfl rfl <| we_b1 flen bb_len <| we_fld <| we_var 4 rfl rfl ⟨_, _, _, .inl rfl, cl, n1, rfl, c_lenT <| b_sub <| we_var 6 rfl rfl ?_⟩⟩
    rw [List.length_map, el]
    refine ⟨l.take p, mi, r.take n, st, _, _, rfl, by omega, by omega, by omega, by omega, by omega, by omega, by omega, ?_⟩
    rw [hat', show (L - (L - (p : Int))).toNat = p by omega]
    refine wss_cons <| ws_set 8 nd rfl <| we_met (met_stretch m) hr (by decide) <| we_var 4 rfl rfl ⟨_, .inl rfl, rfl, wa2 <| we_var 5 rfl rfl <| we_bin <| we_var 5 rfl rfl <| we_b1 flen bb_len <| we_fld <| we_var 4 rfl rfl ⟨_, _, _, .inl rfl, cl, n3, rfl, c_lenT <| b_add ?_⟩⟩
    rw [List.length_map, er]
    refine ⟨l.take p, mi, r.take n, st, _, _, rfl, by omega, by omega, by omega, by omega, by omega, by omega, by omega, ?_⟩
    rw [hat', show (b + (n : Int) - b).toNat = n by omega]
    refine wss_one <| ws_ret <| we_tup <| wa_cons <| we_non <| wa_cons <| we_var 7 rfl rfl <| wa3 <| we_met (met_stretch m) hr (by decide) <| we_var 4 rfl rfl ⟨_, .inl rfl, rfl, wa2 <| we_var 6 rfl rfl <| we_var 5 rfl rfl ⟨l.take p, mi, r.take n, st, _, _, rfl, by omega, by omega, by omega, by omega, by omega, by omega, by omega, ?_⟩⟩
    rw [hat']
    exact we_var 8 rfl rfl <| we_var 6 rfl rfl ⟨sz rfl, hQ _ cn⟩
end
end K03

namespace K03
open PySem PySem.Spec L2 DL

local macro_rules | `(tactic| walk_at "dl") => `(tactic| first
  | ((with_reducible show WE _ _ (.Constant _ _ _) _ _ _); first | refine we_int ?_ | refine we_str ?_ | refine we_bl ?_ | refine we_non ?_)
  | ((with_reducible show WE _ _ (.Name _ _) _ _ _); first | refine we_var 0 rfl rfl ?_ | refine we_var 1 rfl rfl ?_ | refine we_var 2 rfl rfl ?_ | refine we_var 3 rfl rfl ?_ | refine we_var 4 rfl rfl ?_ | refine we_var 5 rfl rfl ?_ | refine we_var 6 rfl rfl ?_ | refine we_var 7 rfl rfl ?_ | refine we_var 8 rfl rfl ?_ | refine we_var 9 rfl rfl ?_ | refine we_var 10 rfl rfl ?_ | refine we_var 11 rfl rfl ?_ | refine we_var 12 rfl rfl ?_ | refine we_var 13 rfl rfl ?_ | refine we_var 14 rfl rfl ?_ | refine we_var 15 rfl rfl ?_)
  | ((with_reducible show WE _ _ (.BinOp _ _ _ _) _ _ _); refine we_bin ?_)
  | ((with_reducible show WE _ _ (.Compare _ [_] [_] _) _ _ _); refine we_cmp ?_)
  | ((with_reducible show WT _ _ (.Compare _ [_] [_] _) _ _ _); refine wt_cmp ?_)
  | ((with_reducible show WE _ _ (.UnaryOp .USub _ _) _ _ _); refine we_un ?_)
  | ((with_reducible show WT _ _ (.UnaryOp .Not _ _) _ _ _); refine wt_not ?_)
  | ((with_reducible show WE _ _ (.IfExp _ _ _ _) _ _ _); refine we_ifx ?_)
  | ((with_reducible show WE _ _ (.Subscript _ (.Name _ _) _) _ _ _); refine we_ix ?_)
  | ((with_reducible show WE _ _ (.Subscript _ (.Constant _ _ _) _) _ _ _); refine we_ix ?_)
  | ((with_reducible show WE _ _ (.Subscript _ (.Subscript _ _ _) _) _ _ _); refine we_ix ?_)
  | ((with_reducible show WE _ _ (.Subscript _ (.BinOp _ _ _ _) _) _ _ _); refine we_ix ?_)
  | ((with_reducible show WE _ _ (.Subscript _ (.UnaryOp _ _ _) _) _ _ _); refine we_ix ?_)
  | ((with_reducible show WE _ _ (.Subscript _ (.Call _ _ _ _) _) _ _ _); refine we_ix ?_)
  | ((with_reducible show WE _ _ (.Call (.Name "len" _) [_] [] _) _ _ _); refine we_b1 (by assumption) bb_len ?_)
  | ((with_reducible show WE _ _ (.Call (.Name "abs" _) [_] [] _) _ _ _); refine we_b1 (by assumption) bb_abs ?_)
  | ((with_reducible show WE _ _ (.Call (.Name "int" _) [_] [] _) _ _ _); refine we_t1 (by assumption) bb_int ?_)
  | ((with_reducible show WE _ _ (.Call (.Name "list" _) [_] [] _) _ _ _); refine we_t1 (by assumption) bb_list ?_)
  | ((with_reducible show WE _ _ (.Call (.Name "tuple" _) [_] [] _) _ _ _); refine we_t1 (by assumption) bb_tuple ?_)
  | ((with_reducible show WE _ _ (.Call (.Name "str" _) [_] [] _) _ _ _); refine we_t1 (by assumption) bb_str ?_)
  | ((with_reducible show WE _ _ (.Call (.Name "set" _) [_] [] _) _ _ _); refine we_t1 (by assumption) bb_set ?_)
  | ((with_reducible show WE _ _ (.Call (.Name "sorted" _) [_] [] _) _ _ _); refine we_b1 (by assumption) bb_sorted ?_)
  | ((with_reducible show WE _ _ (.Call (.Name "isinstance" _) [_, _] [] _) _ _ _); refine we_b2 (by assumption) bb_isinstance ?_)
  | ((with_reducible show WE _ _ (.Call (.Name "max" _) [_] [] _) _ _ _); refine we_b1 (by assumption) bb_max ?_)
  | ((with_reducible show WE _ _ (.Call (.Name "min" _) [_] [] _) _ _ _); refine we_b1 (by assumption) bb_min ?_)
  | ((with_reducible show WE _ _ (.Call (.Name "max" _) [_, _] [] _) _ _ _); refine we_b2 (by assumption) bb_max ?_)
  | ((with_reducible show WE _ _ (.Call (.Name "min" _) [_, _] [] _) _ _ _); refine we_b2 (by assumption) bb_min ?_)
  | ((with_reducible show BinG _ _ (binaryOp .Add) (.int _) (.int _) _ _); refine b_add ?_)
  | ((with_reducible show BinG _ _ (binaryOp .Sub) (.int _) (.int _) _ _); refine b_sub ?_)
  | ((with_reducible show BinG _ _ (binaryOp .Mod) (.int _) (.int _) _ _); refine b_mod (by omega) ?_)
  | ((with_reducible show BinG _ _ (binaryOp .FloorDiv) (.int _) (.int _) _ _); refine b_div ⟨by omega, by omega⟩ ?_)
  | ((with_reducible show BinG _ _ (binaryOp .Mult) (.int _) (.int _) _ _); first | refine b_mul (.inr ⟨by omega, by omega⟩) ?_ | refine b_mul (.inl ⟨by omega, by omega⟩) ?_)
  | ((with_reducible show BinG _ _ (compareOp .Lt) (.int _) (.int _) _ _); refine b_lt ?_)
  | ((with_reducible show BinG _ _ (compareOp .LtE) (.int _) (.int _) _ _); refine b_le ?_)
  | ((with_reducible show BinG _ _ (compareOp .Gt) (.int _) (.int _) _ _); refine b_gt ?_)
  | ((with_reducible show BinG _ _ (compareOp .GtE) (.int _) (.int _) _ _); refine b_ge ?_)
  | ((with_reducible show BinG _ _ (compareOp .Eq) (.int _) (.int _) _ _); refine b_eqI (by assumption) ?_)
  | ((with_reducible show BinG _ _ (compareOp .NotEq) (.int _) (.int _) _ _); refine b_neI (by assumption) ?_)
  | ((with_reducible show UnG _ _ (unaryOp .USub) (.int _) _ _); refine b_neg ?_)
  | (with_reducible refine ex_bl ?_)
  | ((with_reducible show CallG _ _ (.type "int") [.int _] _ _); refine c_int ?_)
  | ((with_reducible show CallG _ _ (.type "int") [.bl _] _ _); refine c_intB ?_)
  | ((with_reducible show CallG _ _ (.builtin "abs") _ _ _); refine c_abs ?_)
  | ((with_reducible show CallG _ _ (.builtin "len") [.lst _] _ _); refine c_len ?_)
  | ((with_reducible show CallG _ _ (.builtin "len") [.tup _] _ _); refine c_lenT ?_)
  | ((with_reducible show CallG _ _ (.builtin "len") [.raw _] _ _); refine c_lenM (by first | assumption | exact updM_same) ?_)
  | ((with_reducible show CallG _ _ (.type "list") [.tup _] _ _); refine c_listT ?_)
  | ((with_reducible show CallG _ _ (.type "tuple") [.lst _] _ _); refine c_tuple ?_)
  | ((with_reducible show CallG _ _ (.type "tuple") [.tup _] _ _); refine c_tupleT ?_)
  | ((with_reducible show CallG _ _ (.builtin "max") [.int _, .int _] _ _); refine c_max2 rfl ?_)
  | ((with_reducible show CallG _ _ (.builtin "min") [.int _, .int _] _ _); refine c_min2 rfl ?_)
  | ((with_reducible show IxG _ _ (.tup _) _ _ _); refine ix_tupD rfl ?_)
  | ((with_reducible show IxG _ _ (.raw _) _ _ _); refine ix_mlst (by first | assumption | exact updM_same) rfl ?_)
  | ((with_reducible show WA _ _ (_ :: _) _ _ _); refine wa_cons ?_)
  | ((with_reducible show WA _ _ [] _ _ _); refine wa_nil ?_))
section
variable {P : Program} {w : World} {K : PySem.W.Frag} {mg : Str → Option Value} {base : Heap}
abbrev CR (K : PySem.W.Frag) : Addr := He.ga K "Row"
def rowG (a b c d e : D) : List (Str × D) := [("ring", a), ("left", b), ("middle", c), ("right", d), ("start", e)]
def rowF (R : Rw Str) : List (Str × D) := if R.ring = true then rowG (sT R.l) .non .non .non .non else rowG .non (sT R.l) (sT R.m) (sT R.r) (.int R.s)
def rowO (K : PySem.W.Frag) (R : Rw Str) : D := .obj (CR K) (rowF R)
theorem rowO_rg {l : List Str} : rowO K (rg l) = .obj (CR K) (rowG (sT l) .non .non .non .non) := rfl
theorem rowO_en {l m r : List Str} {s : Int} : rowO K (wR l m r s) = .obj (CR K) (rowG .non (sT l) (sT m) (sT r) (.int s)) := rfl
/-- a row of ours is a ring or ended -/
theorem ko_cases {B : Int} {R : Rw Str} (h : Ko B R) : (∃ l, R = rg l) ∨ ∃ l m r s, R = wR l m r s := by
  obtain ⟨k, l, m, r, s⟩ := R
  cases k with
  | true =>
    obtain ⟨e1, e2, e3⟩ := h.hrg rfl
    simp only at e1 e2 e3
    subst e1 e2 e3
    exact .inl ⟨r, rfl⟩
  | false => exact .inr ⟨l, m, r, s, rfl⟩
/-! ### Row(..) -/
def spRInit (C : Addr) : SpD := fun xs M Q => ∃ (q : Addr) (a b c d e : D), xs = [.raw (.ref q), a, b, c, d, e] ∧ M q = some (.obj C []) ∧ Q .non (updM M q (.obj C (rowG a b c d e)))
theorem sc_rinit : FnScope ["self", "ring", "left", "middle", "right", "start"] ["self", "ring", "left", "middle", "right", "start"] d_Row___init__.scope := ⟨rfl, rfl, rfl, by decide +kernel, rfl, by decide +kernel, by decide +kernel⟩
theorem mak_row (m : Md K mg base) : MakD P w K mg base 1 "Row" (CR K) (spRInit (CR K)) [] := by
  refine mak_of (d := d_Row___init__) rfl (fd_Row___init__ m.c) (He.mkr_ok (mkr_Row m.c)) (He.glo_ok m.i m.n (glo_Row m.c)) sc_rinit (fun xs M Q ⟨a, b, c, d, f, g, e, _⟩ => by rw [‹xs = _›]; rfl) (fun _ _ _ _ _ _ us hl => match us, hl with | [_, _, _, _, _, _], _ => rfl) ?_
  rintro cdv A outer s H E hr xs M Q ⟨q, a, b, c, d, e, rfl, hM, hQ⟩
  have cl := He.cls_ok (cls_Row m.c)
  have n1 := He.noat_ok (noat_Row_ring m.c)
  have n2 := He.noat_ok (noat_Row_left m.c)
  have n3 := He.noat_ok (noat_Row_middle m.c)
  have n4 := He.noat_ok (noat_Row_right m.c)
  have n5 := He.noat_ok (noat_Row_start m.c)
  refine wss_cons <| ws_fld <| we_var 1 rfl rfl <| we_var 0 rfl rfl ⟨q, _, [], rfl, hM, cl, n1, lt9 rfl, ?_⟩
  refine wss_cons <| ws_fld <| we_var 2 rfl rfl <| we_var 0 rfl rfl ⟨q, _, _, rfl, updM_same, cl, n2, lt9 rfl, ?_⟩
  rw [updM_updM]
  refine wss_cons <| ws_fld <| we_var 3 rfl rfl <| we_var 0 rfl rfl ⟨q, _, _, rfl, updM_same, cl, n3, lt9 rfl, ?_⟩
  rw [updM_updM]
  refine wss_cons <| ws_fld <| we_var 4 rfl rfl <| we_var 0 rfl rfl ⟨q, _, _, rfl, updM_same, cl, n4, lt9 rfl, ?_⟩
  rw [updM_updM]
  refine wss_one <| ws_fld <| we_var 5 rfl rfl <| we_var 0 rfl rfl ⟨q, _, _, rfl, updM_same, cl, n5, lt9 rfl, ?_⟩
  rw [updM_updM]
  exact hQ
theorem row_init {C q : Addr} {M : Mst} {Q : QD} {a b c d e : D} (hq : M q = none) (h : Q (.obj C (rowG a b c d e)) M) : spRInit C (.raw (.ref q) :: ([a, b, c, d, e] ++ [])) (updM M q (.obj C [])) (MkEnd C q Q) := ⟨q, a, b, c, d, e, rfl, updM_same, mkEnd_of hq h⟩
/-! ### arrow -/
def spArrow (K : PySem.W.Frag) : SpD := fun xs M Q => ∃ B R t, xs = [rowO K R, .int t] ∧ Ko B R ∧ Q (.str (R.at t)) M
theorem sc_arrow : FnScope ["self", "t", "place"] ["self", "t"] d_Row_arrow.scope := ⟨rfl, rfl, rfl, by decide +kernel, rfl, by decide +kernel, by decide +kernel⟩
theorem met_arrow (m : Md K mg base) : MetD P w K mg base 1 (CR K) "arrow" (spArrow K) [] := by
  refine met_of (d := d_Row_arrow) rfl (fd_Row_arrow m.c) (He.cls_ok (cls_Row m.c)) (He.meth_ok (meth_Row_arrow m.c)) sc_arrow (fun xs M Q ⟨a, b, c, e, _⟩ => by rw [e]; rfl) (fun _ _ _ _ _ _ us hl => match us, hl with | [_, _], _ => rfl) ?_
  rintro cdv A outer s H E hr xs M Q ⟨B, R, t, rfl, ko, hQ⟩
  have nd := sc_arrow.nd
  have flen : mg "len" = none := He.free_ok m.i m.n (free_len m.c)
  have cl := He.cls_ok (cls_Row m.c)
  have n1 := He.noat_ok (noat_Row_ring m.c)
  have n2 := He.noat_ok (noat_Row_left m.c)
  have n3 := He.noat_ok (noat_Row_middle m.c)
  have n4 := He.noat_ok (noat_Row_right m.c)
  have n5 := He.noat_ok (noat_Row_start m.c)
  have ht : ∀ (l : List Str) (x : Int), 0 < l.length → 0 ≤ x % (l.length : Int) ∧ x % (l.length : Int) < l.length := fun l x h => ⟨Int.emod_nonneg _ (by omega), Int.emod_lt_of_pos _ (by omega)⟩
  rcases ko_cases ko with ⟨l, rfl⟩ | ⟨l, mi, r, st, rfl⟩
  · have h0 : 0 < l.length := ko.l0
    have h1 := ht l t h0
    rw [rowO_rg]
    refine wss_cons <| ws_if <| wt_cmp <| we_fld <| we_var 0 rfl rfl ⟨_, _, _, .inl rfl, cl, n1, rfl, we_non <| b_notN (fun G v h => nonT h) ⟨_, rfl, fun _ => ?_, fun h => (by cases h)⟩⟩
    refine wss_one <| ws_ret <| we_ix <| we_fld <| we_var 0 rfl rfl ⟨_, _, _, .inl rfl, cl, n1, rfl, we_bin <| we_var 1 rfl rfl <| we_b1 flen bb_len <| we_fld <| we_var 0 rfl rfl ⟨_, _, _, .inl rfl, cl, n1, rfl, c_lenT <| b_mod (by rw [List.length_map]; omega) ?_⟩⟩
    rw [List.length_map]
    refine ix_tupD (atI_str h1.1 h1.2) ?_
    rw [← ring_at h0]
    exact hQ
  · have h0 : 0 < l.length := ko.l0
    have h0' : 0 < r.length := ko.r0
    rw [rowO_en]
    refine wss_cons <| ws_if <| wt_cmp <| we_fld <| we_var 0 rfl rfl ⟨_, _, _, .inl rfl, cl, n1, rfl, we_non <| b_notN (fun G v h => nonN h) ⟨_, rfl, fun h => (by cases h), fun _ => wss_nil ?_⟩⟩
    refine wss_cons <| ws_set 2 nd rfl <| we_bin <| we_var 1 rfl rfl <| we_fld <| we_var 0 rfl rfl ⟨_, _, _, .inl rfl, cl, n5, rfl, b_sub ?_⟩
    refine wss_cons <| ws_if <| wt_cmp <| we_var 2 rfl rfl <| we_int <| b_lt ⟨_, rfl, fun c => ?_, fun c => wss_nil ?_⟩
    · have c := of_decide_eq_true c
      have h1 := ht l (t - st) h0
      refine wss_one <| ws_ret <| we_ix <| we_fld <| we_var 0 rfl rfl ⟨_, _, _, .inl rfl, cl, n2, rfl, we_bin <| we_var 2 rfl rfl <| we_b1 flen bb_len <| we_fld <| we_var 0 rfl rfl ⟨_, _, _, .inl rfl, cl, n2, rfl, c_lenT <| b_mod (by rw [List.length_map]; omega) ?_⟩⟩
      rw [List.length_map]
      refine ix_tupD (atI_str h1.1 h1.2) ?_
      have e : (wR l mi r st).at t = l.getD ((t - st) % (l.length : Int)).toNat default := by
        simp only [Rw.at]
        rw [if_pos (by omega)]
      rw [← e]
      exact hQ
    · have c := of_decide_eq_false c
      refine wss_cons <| ws_if <| wt_cmp <| we_var 2 rfl rfl <| we_b1 flen bb_len <| we_fld <| we_var 0 rfl rfl ⟨_, _, _, .inl rfl, cl, n3, rfl, c_lenT <| b_lt ⟨_, rfl, fun c2 => ?_, fun c2 => wss_nil ?_⟩⟩
      · have c2 := of_decide_eq_true c2
        rw [List.length_map] at c2
        refine wss_one <| ws_ret <| we_ix <| we_fld <| we_var 0 rfl rfl ⟨_, _, _, .inl rfl, cl, n3, rfl, we_var 2 rfl rfl <| ix_tupD (atI_str (by omega) (by omega)) ?_⟩
        have e : (wR l mi r st).at t = mi.getD (t - st).toNat default := by
          simp only [Rw.at]
          rw [if_neg (by omega), if_pos (by omega)]
        rw [← e]
        exact hQ
      · have c2 := of_decide_eq_false c2
        rw [List.length_map] at c2
        have h1 := ht r (t - st - mi.length) h0'
        refine wss_one <| ws_ret <| we_ix <| we_fld <| we_var 0 rfl rfl ⟨_, _, _, .inl rfl, cl, n4, rfl, we_bin <| we_bin <| we_var 2 rfl rfl <| we_b1 flen bb_len <| we_fld <| we_var 0 rfl rfl ⟨_, _, _, .inl rfl, cl, n3, rfl, c_lenT <| b_sub <| we_b1 flen bb_len <| we_fld <| we_var 0 rfl rfl ⟨_, _, _, .inl rfl, cl, n4, rfl, c_lenT <| b_mod (by rw [List.length_map]; omega) ?_⟩⟩⟩
        rw [List.length_map, List.length_map]
        refine ix_tupD (atI_str h1.1 h1.2) ?_
        have e : (wR l mi r st).at t = r.getD ((t - st - mi.length) % (r.length : Int)).toNat default := by
          simp only [Rw.at]
          rw [if_neg (by omega), if_neg (by omega)]
        rw [← e]
        exact hQ
/-! ### part -/
def spPart (K : PySem.W.Frag) : SpD := fun xs M Q => ∃ B R a b, xs = [rowO K R, .int a, .int b] ∧ Ko B R ∧ -(2 ^ 61) ≤ a ∧ a < 2 ^ 61 ∧ -(2 ^ 61) ≤ b ∧ b < 2 ^ 61 ∧ b - a ≤ 2000 ∧ Q (.lst ((seg R.at a (b - a).toNat).map D.str)) M
theorem sc_part : FnScope ["self", "a", "b", "time"] ["self", "a", "b"] d_Row_part.scope := ⟨rfl, rfl, rfl, by decide +kernel, rfl, by decide +kernel, by decide +kernel⟩
theorem met_part (m : Md K mg base) : MetD P w K mg base 2 (CR K) "part" (spPart K) [] := by
  refine met_of (d := d_Row_part) rfl (fd_Row_part m.c) (He.cls_ok (cls_Row m.c)) (He.meth_ok (meth_Row_part m.c)) sc_part (fun xs M Q ⟨a, b, c, d, e, _⟩ => by rw [e]; rfl) (fun _ _ _ _ _ _ us hl => match us, hl with | [_, _, _], _ => rfl) ?_
  rintro cdv A outer s H E hr xs M Q ⟨B, R, a, b, rfl, ko, h3, h3', h4', h4, h5, hQ⟩
  have nd := sc_part.nd
  have frange : mg "range" = none := He.free_ok m.i m.n (free_range m.c)
  have hsz : sizeLine = 16777216 := sizeLine_eq
  refine wss_one <| ws_ret <| we_lcM (.nm 3) (List.range (b - a).toNat) (fun i : Nat => .int (a + (i : Int))) (fun i : Nat => .str (R.at (a + (i : Int)))) rfl nd (own := [("time", 3)]) (by kernel_rfl) (by decide) (fun s0 H0 C cl fp => pgN nd rfl) (wi_range2 frange <| wa2 <| we_var 1 rfl rfl <| we_var 2 rfl rfl ⟨a, b, rfl, by omega, by omega, li_range _ _, ?_, ?_⟩)
  · intro i hi M' hs
    exact ⟨_, rfl, fun s0 H0 C cl fp => we_met (met_arrow m) hr (by decide) <| we_var 0 rfl rfl ⟨_, .inl rfl, (by unfold rowF; split <;> rfl), wa1 <| we_var 3 rfl rfl ⟨B, R, _, rfl, ko, rfl, rfl⟩⟩⟩
  · have e : (List.range (b - a).toNat).map (fun i : Nat => D.str (R.at (a + (i : Int)))) = (seg R.at a (b - a).toNat).map D.str := by unfold seg; rw [List.map_map]; rfl
    rw [e]
    exact hQ
theorem row_no {R : Rw Str} {f : Str} (h1 : (rowG .non .non .non .non .non).lookup f = none) : (rowF R).lookup f = none := by
  have : ∀ a b c d e : D, (rowG a b c d e).lookup f = none := fun a b c d e => by
    simp only [rowG, List.lookup] at h1 ⊢
    split at h1 <;> first | (cases h1; done) | skip
    split at h1 <;> first | (cases h1; done) | skip
    split at h1 <;> first | (cases h1; done) | skip
    split at h1 <;> first | (cases h1; done) | skip
    split at h1 <;> first | (cases h1; done) | skip
    rfl
  unfold rowF
  split <;> exact this _ _ _ _ _
/-! ### moved -/
def spMoved (K : PySem.W.Frag) : SpD := fun xs M Q => ∃ B R k, xs = [rowO K R, .int k] ∧ Ko B R ∧ Q (rowO K (mv R k)) M
theorem sc_moved : FnScope ["self", "k"] ["self", "k"] d_Row_moved.scope := ⟨rfl, rfl, rfl, by decide +kernel, rfl, by decide +kernel, by decide +kernel⟩
theorem met_moved (m : Md K mg base) : MetD P w K mg base 3 (CR K) "moved" (spMoved K) [] := by
  refine met_of (d := d_Row_moved) rfl (fd_Row_moved m.c) (He.cls_ok (cls_Row m.c)) (He.meth_ok (meth_Row_moved m.c)) sc_moved (fun xs M Q ⟨a, b, c, e, _⟩ => by rw [e]; rfl) (fun _ _ _ _ _ _ us hl => match us, hl with | [_, _], _ => rfl) ?_
  rintro cdv A outer s H E hr xs M Q ⟨B, R, k, rfl, ko, hQ⟩
  have cl := He.cls_ok (cls_Row m.c)
  have n1 := He.noat_ok (noat_Row_ring m.c)
  have n2 := He.noat_ok (noat_Row_left m.c)
  have n3 := He.noat_ok (noat_Row_middle m.c)
  have n4 := He.noat_ok (noat_Row_right m.c)
  have n5 := He.noat_ok (noat_Row_start m.c)
  rcases ko_cases ko with ⟨l, rfl⟩ | ⟨l, mi, r, st, rfl⟩
  · have h0 : 0 < l.length := ko.l0
    have h1 : l.length ≤ 30 := ko.l1
    rw [rowO_rg]
    refine wss_cons <| ws_if <| wt_cmp <| we_fld <| we_var 0 rfl rfl ⟨_, _, _, .inl rfl, cl, n1, rfl, we_non <| b_notN (fun G v h => nonT h) ⟨_, rfl, fun _ => ?_, fun h => (by cases h)⟩⟩
    exact wss_one <| ws_ret <| we_mak (mak_row m) hr (by decide) <| wa_cons <| we_cal (cal_turn m) hr (by decide) <| wa2 <| we_fld <| we_var 0 rfl rfl ⟨_, _, _, .inl rfl, cl, n1, rfl, we_var 1 rfl rfl ⟨l, k, rfl, h0, by omega, wa_cons <| we_non <| wa3 <| we_non <| we_non <| we_non fun q hq => row_init hq hQ⟩⟩
  · rw [rowO_en]
    refine wss_cons <| ws_if <| wt_cmp <| we_fld <| we_var 0 rfl rfl ⟨_, _, _, .inl rfl, cl, n1, rfl, we_non <| b_notN (fun G v h => nonN h) ⟨_, rfl, fun h => (by cases h), fun _ => wss_nil ?_⟩⟩
    exact wss_one <| ws_ret <| we_mak (mak_row m) hr (by decide) <| wa_cons <| we_non <| wa_cons <| we_fld <| we_var 0 rfl rfl ⟨_, _, _, .inl rfl, cl, n2, rfl, wa3 <| we_fld <| we_var 0 rfl rfl ⟨_, _, _, .inl rfl, cl, n3, rfl, we_fld <| we_var 0 rfl rfl ⟨_, _, _, .inl rfl, cl, n4, rfl, we_bin <| we_fld <| we_var 0 rfl rfl ⟨_, _, _, .inl rfl, cl, n5, rfl, we_var 1 rfl rfl <| b_sub fun q hq => row_init hq hQ⟩⟩⟩⟩
/-! ### listed -/
def listL (R : Rw Str) : List Str := if R.ring = true then R.l else R.l ++ R.m ++ R.r
def spListed (K : PySem.W.Frag) : SpD := fun xs M Q => ∃ B R, xs = [rowO K R] ∧ Ko B R ∧ Q (sT (listL R)) M
theorem sc_listed : FnScope ["self"] ["self"] d_Row_listed.scope := ⟨rfl, rfl, rfl, by decide +kernel, rfl, by decide +kernel, by decide +kernel⟩
theorem met_listed (m : Md K mg base) : MetD P w K mg base 1 (CR K) "listed" (spListed K) [] := by
  refine met_of (d := d_Row_listed) rfl (fd_Row_listed m.c) (He.cls_ok (cls_Row m.c)) (He.meth_ok (meth_Row_listed m.c)) sc_listed (fun xs M Q ⟨a, b, e, _⟩ => by rw [e]; rfl) (fun _ _ _ _ _ _ us hl => match us, hl with | [_], _ => rfl) ?_
  rintro cdv A outer s H E hr xs M Q ⟨B, R, rfl, ko, hQ⟩
  have cl := He.cls_ok (cls_Row m.c)
  have n1 := He.noat_ok (noat_Row_ring m.c)
  have n2 := He.noat_ok (noat_Row_left m.c)
  have n3 := He.noat_ok (noat_Row_middle m.c)
  have n4 := He.noat_ok (noat_Row_right m.c)
  have hsz : sizeLine = 16777216 := sizeLine_eq
  have k1 := ko.l1
  have k2 := ko.m1
  have k3 := ko.r1
  rcases ko_cases ko with ⟨l, rfl⟩ | ⟨l, mi, r, st, rfl⟩
  · rw [rowO_rg]
    refine wss_cons <| ws_if <| wt_cmp <| we_fld <| we_var 0 rfl rfl ⟨_, _, _, .inl rfl, cl, n1, rfl, we_non <| b_notN (fun G v h => nonT h) ⟨_, rfl, fun _ => ?_, fun h => (by cases h)⟩⟩
    exact wss_one <| ws_ret <| we_fld <| we_var 0 rfl rfl ⟨_, _, _, .inl rfl, cl, n1, rfl, hQ⟩
  · rw [rowO_en]
    refine wss_cons <| ws_if <| wt_cmp <| we_fld <| we_var 0 rfl rfl ⟨_, _, _, .inl rfl, cl, n1, rfl, we_non <| b_notN (fun G v h => nonN h) ⟨_, rfl, fun h => (by cases h), fun _ => wss_nil ?_⟩⟩
    refine wss_one <| ws_ret <| we_bin <| we_bin <| we_fld <| we_var 0 rfl rfl ⟨_, _, _, .inl rfl, cl, n2, rfl, we_fld <| we_var 0 rfl rfl ⟨_, _, _, .inl rfl, cl, n3, rfl, b_addT (by simp at k1 k2 ⊢; omega) <| we_fld <| we_var 0 rfl rfl ⟨_, _, _, .inl rfl, cl, n4, rfl, b_addT (by simp at k1 k2 k3 ⊢; omega) ?_⟩⟩⟩
    rw [← List.map_append, ← List.map_append]
    exact hQ
end
end K03

namespace K03
open PySem PySem.Spec L2 DL

local macro_rules | `(tactic| walk_at "dl") => `(tactic| first
  | ((with_reducible show WE _ _ (.Constant _ _ _) _ _ _); first | refine we_int ?_ | refine we_str ?_ | refine we_bl ?_ | refine we_non ?_)
  | ((with_reducible show WE _ _ (.Name _ _) _ _ _); first | refine we_var 0 rfl rfl ?_ | refine we_var 1 rfl rfl ?_ | refine we_var 2 rfl rfl ?_ | refine we_var 3 rfl rfl ?_ | refine we_var 4 rfl rfl ?_ | refine we_var 5 rfl rfl ?_ | refine we_var 6 rfl rfl ?_ | refine we_var 7 rfl rfl ?_ | refine we_var 8 rfl rfl ?_ | refine we_var 9 rfl rfl ?_ | refine we_var 10 rfl rfl ?_ | refine we_var 11 rfl rfl ?_ | refine we_var 12 rfl rfl ?_ | refine we_var 13 rfl rfl ?_ | refine we_var 14 rfl rfl ?_ | refine we_var 15 rfl rfl ?_)
  | ((with_reducible show WE _ _ (.BinOp _ _ _ _) _ _ _); refine we_bin ?_)
  | ((with_reducible show WE _ _ (.Compare _ [_] [_] _) _ _ _); refine we_cmp ?_)
  | ((with_reducible show WT _ _ (.Compare _ [_] [_] _) _ _ _); refine wt_cmp ?_)
  | ((with_reducible show WE _ _ (.UnaryOp .USub _ _) _ _ _); refine we_un ?_)
  | ((with_reducible show WT _ _ (.UnaryOp .Not _ _) _ _ _); refine wt_not ?_)
  | ((with_reducible show WE _ _ (.IfExp _ _ _ _) _ _ _); refine we_ifx ?_)
  | ((with_reducible show WE _ _ (.Subscript _ (.Name _ _) _) _ _ _); refine we_ix ?_)
  | ((with_reducible show WE _ _ (.Subscript _ (.Constant _ _ _) _) _ _ _); refine we_ix ?_)
  | ((with_reducible show WE _ _ (.Subscript _ (.Subscript _ _ _) _) _ _ _); refine we_ix ?_)
  | ((with_reducible show WE _ _ (.Subscript _ (.BinOp _ _ _ _) _) _ _ _); refine we_ix ?_)
  | ((with_reducible show WE _ _ (.Subscript _ (.UnaryOp _ _ _) _) _ _ _); refine we_ix ?_)
  | ((with_reducible show WE _ _ (.Subscript _ (.Call _ _ _ _) _) _ _ _); refine we_ix ?_)
  | ((with_reducible show WE _ _ (.Call (.Name "len" _) [_] [] _) _ _ _); refine we_b1 (by assumption) bb_len ?_)
  | ((with_reducible show WE _ _ (.Call (.Name "abs" _) [_] [] _) _ _ _); refine we_b1 (by assumption) bb_abs ?_)
  | ((with_reducible show WE _ _ (.Call (.Name "int" _) [_] [] _) _ _ _); refine we_t1 (by assumption) bb_int ?_)
  | ((with_reducible show WE _ _ (.Call (.Name "list" _) [_] [] _) _ _ _); refine we_t1 (by assumption) bb_list ?_)
  | ((with_reducible show WE _ _ (.Call (.Name "tuple" _) [_] [] _) _ _ _); refine we_t1 (by assumption) bb_tuple ?_)
  | ((with_reducible show WE _ _ (.Call (.Name "str" _) [_] [] _) _ _ _); refine we_t1 (by assumption) bb_str ?_)
  | ((with_reducible show WE _ _ (.Call (.Name "set" _) [_] [] _) _ _ _); refine we_t1 (by assumption) bb_set ?_)
  | ((with_reducible show WE _ _ (.Call (.Name "sorted" _) [_] [] _) _ _ _); refine we_b1 (by assumption) bb_sorted ?_)
  | ((with_reducible show WE _ _ (.Call (.Name "isinstance" _) [_, _] [] _) _ _ _); refine we_b2 (by assumption) bb_isinstance ?_)
  | ((with_reducible show WE _ _ (.Call (.Name "max" _) [_] [] _) _ _ _); refine we_b1 (by assumption) bb_max ?_)
  | ((with_reducible show WE _ _ (.Call (.Name "min" _) [_] [] _) _ _ _); refine we_b1 (by assumption) bb_min ?_)
  | ((with_reducible show WE _ _ (.Call (.Name "max" _) [_, _] [] _) _ _ _); refine we_b2 (by assumption) bb_max ?_)
  | ((with_reducible show WE _ _ (.Call (.Name "min" _) [_, _] [] _) _ _ _); refine we_b2 (by assumption) bb_min ?_)
  | ((with_reducible show BinG _ _ (binaryOp .Add) (.int _) (.int _) _ _); refine b_add ?_)
  | ((with_reducible show BinG _ _ (binaryOp .Sub) (.int _) (.int _) _ _); refine b_sub ?_)
  | ((with_reducible show BinG _ _ (binaryOp .Mod) (.int _) (.int _) _ _); refine b_mod (by omega) ?_)
  | ((with_reducible show BinG _ _ (binaryOp .FloorDiv) (.int _) (.int _) _ _); refine b_div ⟨by omega, by omega⟩ ?_)
  | ((with_reducible show BinG _ _ (binaryOp .Mult) (.int _) (.int _) _ _); first | refine b_mul (.inr ⟨by omega, by omega⟩) ?_ | refine b_mul (.inl ⟨by omega, by omega⟩) ?_)
  | ((with_reducible show BinG _ _ (compareOp .Lt) (.int _) (.int _) _ _); refine b_lt ?_)
  | ((with_reducible show BinG _ _ (compareOp .LtE) (.int _) (.int _) _ _); refine b_le ?_)
  | ((with_reducible show BinG _ _ (compareOp .Gt) (.int _) (.int _) _ _); refine b_gt ?_)
  | ((with_reducible show BinG _ _ (compareOp .GtE) (.int _) (.int _) _ _); refine b_ge ?_)
  | ((with_reducible show BinG _ _ (compareOp .Eq) (.int _) (.int _) _ _); refine b_eqI (by assumption) ?_)
  | ((with_reducible show BinG _ _ (compareOp .NotEq) (.int _) (.int _) _ _); refine b_neI (by assumption) ?_)
  | ((with_reducible show UnG _ _ (unaryOp .USub) (.int _) _ _); refine b_neg ?_)
  | (with_reducible refine ex_bl ?_)
  | ((with_reducible show CallG _ _ (.type "int") [.int _] _ _); refine c_int ?_)
  | ((with_reducible show CallG _ _ (.type "int") [.bl _] _ _); refine c_intB ?_)
  | ((with_reducible show CallG _ _ (.builtin "abs") _ _ _); refine c_abs ?_)
  | ((with_reducible show CallG _ _ (.builtin "len") [.lst _] _ _); refine c_len ?_)
  | ((with_reducible show CallG _ _ (.builtin "len") [.tup _] _ _); refine c_lenT ?_)
  | ((with_reducible show CallG _ _ (.builtin "len") [.raw _] _ _); refine c_lenM (by first | assumption | exact updM_same) ?_)
  | ((with_reducible show CallG _ _ (.type "list") [.tup _] _ _); refine c_listT ?_)
  | ((with_reducible show CallG _ _ (.type "tuple") [.lst _] _ _); refine c_tuple ?_)
  | ((with_reducible show CallG _ _ (.type "tuple") [.tup _] _ _); refine c_tupleT ?_)
  | ((with_reducible show CallG _ _ (.builtin "max") [.int _, .int _] _ _); refine c_max2 rfl ?_)
  | ((with_reducible show CallG _ _ (.builtin "min") [.int _, .int _] _ _); refine c_min2 rfl ?_)
  | ((with_reducible show IxG _ _ (.tup _) _ _ _); refine ix_tupD rfl ?_)
  | ((with_reducible show IxG _ _ (.raw _) _ _ _); refine ix_mlst (by first | assumption | exact updM_same) rfl ?_)
  | ((with_reducible show WA _ _ (_ :: _) _ _ _); refine wa_cons ?_)
  | ((with_reducible show WA _ _ [] _ _ _); refine wa_nil ?_))
section
variable {P : Program} {w : World} {K : PySem.W.Frag} {mg : Str → Option Value} {base : Heap}
theorem nm_ok : ∀ x ∈ NM, encS.ok x := fun x hx => by
  simp only [NM, List.mem_cons, List.not_mem_nil, or_false] at hx
  rcases hx with rfl | rfl | rfl <;> (show PyData.canLay0 _ = true) <;> decide +kernel
theorem nl_ok {l : List Str} (h : ∀ x ∈ l, x ∈ NM) : (encT encS).ok l := fun x hx => nm_ok x (h x hx)
theorem sh_non : SeqAt.shaped PyData.none = true := by decide
theorem pd_non : pd .non = some PyData.none := by simp only [pd]
theorem eqv_nn : PyData.eqv PyData.none PyData.none = true := by simp [PyData.eqv]
theorem eqv_tn {xs : List PyData} : PyData.eqv (.tuple xs) PyData.none = false := by simp [PyData.eqv]
theorem eqv_nt {xs : List PyData} : PyData.eqv PyData.none (.tuple xs) = false := by simp [PyData.eqv]
/-! ### == -/
def spEq (K : PySem.W.Frag) : SpD := fun xs M Q => ∃ B C R S, xs = [rowO K R, rowO K S] ∧ Ko B R ∧ Ko C S ∧ ∀ k, (k = true ↔ R = S) → Q (.bl k) M
theorem sc_eq : FnScope ["self", "other"] ["self", "other"] d_Row___eq__.scope := ⟨rfl, rfl, rfl, by decide +kernel, rfl, by decide +kernel, by decide +kernel⟩
theorem met_eq (m : Md K mg base) : MetD P w K mg base 1 (CR K) "__eq__" (spEq K) [] := by
  refine met_of (d := d_Row___eq__) rfl (fd_Row___eq__ m.c) (He.cls_ok (cls_Row m.c)) (He.meth_ok (meth_Row___eq__ m.c)) sc_eq (fun xs M Q ⟨a, b, c, d, e, _⟩ => by rw [e]; rfl) (fun _ _ _ _ _ _ us hl => match us, hl with | [_, _], _ => rfl) ?_
  rintro cdv A outer s H E hr xs M Q ⟨B, C, R, S, rfl, kR, kS, hQ⟩
  have fi : mg "isinstance" = none := He.free_ok m.i m.n (free_isinstance m.c)
  have cl := He.cls_ok (cls_Row m.c)
  have n1 := He.noat_ok (noat_Row_ring m.c)
  have n2 := He.noat_ok (noat_Row_left m.c)
  have n3 := He.noat_ok (noat_Row_middle m.c)
  have n4 := He.noat_ok (noat_Row_right m.c)
  have n5 := He.noat_ok (noat_Row_start m.c)
  have ic := (insB_ok cl (ex_ins_Row m.e)).1
  have hu := hr.units
  refine wss_cons <| ws_if <| wt_not <| wt_truth <| we_b2 fi bb_isinstance <| we_var 1 rfl rfl <| we_glob (He.glo_ok m.i m.n (glo_Row m.c)) (v := .ref (CR K)) rfl (fun _ => rp_raw) <| c_isi (ClsV.own (CR K)) (t := .ref (CR K)) ⟨ic, rfl⟩ ic.me <| tru_is rfl ⟨fun h => (by cases h), fun _ => wss_nil ?_⟩
  rcases ko_cases kR with ⟨l, rfl⟩ | ⟨l, mi, r, st, rfl⟩ <;> rcases ko_cases kS with ⟨l', rfl⟩ | ⟨l', mi', r', st', rfl⟩
  · rw [rowO_rg, rowO_rg]
    refine wss_cons <| ws_if <| wt_w <| ww_or <| wt_cmp <| we_fld <| we_var 0 rfl rfl ⟨_, _, _, .inl rfl, cl, n1, rfl, we_fld <| we_var 1 rfl rfl ⟨_, _, _, .inl rfl, cl, n1, rfl, b_neE (encT encS) (a := l) (b := l') hr ⟨_, rfl, fun h => ?_, fun h => ?_⟩ (nl_ok kR.nl) (nl_ok kS.nl)⟩⟩
    · have h1 : l ≠ l' := by simpa using h
      refine ⟨fun _ => wss_one <| ws_ret <| we_bl ?_, fun h => (by cases h)⟩
      exact hQ false ⟨fun h => (by cases h), fun e => absurd (congrArg Rw.l e) h1⟩
    · have h1 : l = l' := by simpa using h
      refine ww_or1 <| wt_cmp <| we_fld <| we_var 0 rfl rfl ⟨_, _, _, .inl rfl, cl, n5, rfl, we_fld <| we_var 1 rfl rfl ⟨_, _, _, .inl rfl, cl, n5, rfl, b_neD hu pd_non pd_non sh_non sh_non eqv_nn ⟨_, rfl, fun h => (by cases h), fun _ => wss_nil ?_⟩⟩⟩
      refine wss_one <| ws_ret <| we_andT <| we_cmp <| we_fld <| we_var 0 rfl rfl ⟨_, _, _, .inl rfl, cl, n2, rfl, we_fld <| we_var 1 rfl rfl ⟨_, _, _, .inl rfl, cl, n2, rfl, b_eqD hu pd_non pd_non sh_non sh_non eqv_nn <| tru_is rfl ⟨fun _ => ?_, fun h => (by cases h)⟩⟩⟩
      refine we_andT <| we_cmp <| we_fld <| we_var 0 rfl rfl ⟨_, _, _, .inl rfl, cl, n3, rfl, we_fld <| we_var 1 rfl rfl ⟨_, _, _, .inl rfl, cl, n3, rfl, b_eqD hu pd_non pd_non sh_non sh_non eqv_nn <| tru_is rfl ⟨fun _ => ?_, fun h => (by cases h)⟩⟩⟩
      exact we_one <| we_cmp <| we_fld <| we_var 0 rfl rfl ⟨_, _, _, .inl rfl, cl, n4, rfl, we_fld <| we_var 1 rfl rfl ⟨_, _, _, .inl rfl, cl, n4, rfl, b_eqD hu pd_non pd_non sh_non sh_non eqv_nn <| hQ true ⟨fun _ => by rw [h1], fun _ => rfl⟩⟩⟩
  · rw [rowO_rg, rowO_en]
    refine wss_cons <| ws_if <| wt_w <| ww_or <| wt_cmp <| we_fld <| we_var 0 rfl rfl ⟨_, _, _, .inl rfl, cl, n1, rfl, we_fld <| we_var 1 rfl rfl ⟨_, _, _, .inl rfl, cl, n1, rfl, b_neD hu ((encT encS).hp l) pd_non (enc_shaped _ (nl_ok kR.nl) (by decide)) sh_non eqv_tn ⟨_, rfl, fun _ => ?_, fun h => (by cases h)⟩⟩⟩
    refine ⟨fun _ => wss_one <| ws_ret <| we_bl ?_, fun h => (by cases h)⟩
    exact hQ false ⟨fun h => (by cases h), fun e => Bool.noConfusion (congrArg Rw.ring e)⟩
  · rw [rowO_rg, rowO_en]
    refine wss_cons <| ws_if <| wt_w <| ww_or <| wt_cmp <| we_fld <| we_var 0 rfl rfl ⟨_, _, _, .inl rfl, cl, n1, rfl, we_fld <| we_var 1 rfl rfl ⟨_, _, _, .inl rfl, cl, n1, rfl, b_neD hu pd_non ((encT encS).hp l') sh_non (enc_shaped _ (nl_ok kS.nl) (by decide)) eqv_nt ⟨_, rfl, fun _ => ?_, fun h => (by cases h)⟩⟩⟩
    refine ⟨fun _ => wss_one <| ws_ret <| we_bl ?_, fun h => (by cases h)⟩
    exact hQ false ⟨fun h => (by cases h), fun e => Bool.noConfusion (congrArg Rw.ring e)⟩
  · rw [rowO_en, rowO_en]
    refine wss_cons <| ws_if <| wt_w <| ww_or <| wt_cmp <| we_fld <| we_var 0 rfl rfl ⟨_, _, _, .inl rfl, cl, n1, rfl, we_fld <| we_var 1 rfl rfl ⟨_, _, _, .inl rfl, cl, n1, rfl, b_neD hu pd_non pd_non sh_non sh_non eqv_nn ⟨_, rfl, fun h => (by cases h), fun _ => ?_⟩⟩⟩
    refine ww_or1 <| wt_cmp <| we_fld <| we_var 0 rfl rfl ⟨_, _, _, .inl rfl, cl, n5, rfl, we_fld <| we_var 1 rfl rfl ⟨_, _, _, .inl rfl, cl, n5, rfl, b_neI hr ⟨_, rfl, fun h => ?_, fun h => wss_nil ?_⟩⟩⟩
    · have h1 : st ≠ st' := by simpa using h
      refine wss_one <| ws_ret <| we_bl ?_
      exact hQ false ⟨fun h => (by cases h), fun e => absurd (congrArg Rw.s e) h1⟩
    have h0 : st = st' := by simpa using h
    refine wss_one <| ws_ret <| we_andT <| we_cmp <| we_fld <| we_var 0 rfl rfl ⟨_, _, _, .inl rfl, cl, n2, rfl, we_fld <| we_var 1 rfl rfl ⟨_, _, _, .inl rfl, cl, n2, rfl, b_eqE (encT encS) (a := l) (b := l') hr (tru_is rfl ⟨fun h1 => ?_, fun h1 => hQ _ ⟨fun h => ?_, fun e => ?_⟩⟩) (nl_ok kR.nl) (nl_ok kS.nl)⟩⟩
    · refine we_andT <| we_cmp <| we_fld <| we_var 0 rfl rfl ⟨_, _, _, .inl rfl, cl, n3, rfl, we_fld <| we_var 1 rfl rfl ⟨_, _, _, .inl rfl, cl, n3, rfl, b_eqE (encT encS) (a := mi) (b := mi') hr (tru_is rfl ⟨fun h2 => ?_, fun h2 => hQ _ ⟨fun h => ?_, fun e => ?_⟩⟩) (nl_ok kR.nm) (nl_ok kS.nm)⟩⟩
      · refine we_one <| we_cmp <| we_fld <| we_var 0 rfl rfl ⟨_, _, _, .inl rfl, cl, n4, rfl, we_fld <| we_var 1 rfl rfl ⟨_, _, _, .inl rfl, cl, n4, rfl, b_eqE (encT encS) (a := r) (b := r') hr (hQ _ ⟨fun h3 => ?_, fun e => ?_⟩) (nl_ok kR.nr) (nl_ok kS.nr)⟩⟩
        · rw [of_decide_eq_true h1, of_decide_eq_true h2, of_decide_eq_true h3, h0]
        · exact decide_eq_true (congrArg Rw.r e)
      · exact absurd (of_decide_eq_true h) (of_decide_eq_false h2)
      · exact absurd (congrArg Rw.m e) (of_decide_eq_false h2)
    · exact absurd (of_decide_eq_true h) (of_decide_eq_false h1)
    · exact absurd (congrArg Rw.l e) (of_decide_eq_false h1)
theorem b_neM {X : Cx} {Pm : Hp → Prop} {M : Mst} {Q : QD} {j k : Nat} {sp : SpD} {x y : D} {fs gs : List (Str × D)} (m : Md X.K mg base) (g : MetD X.prog X.w X.K X.mg X.base k (CR X.K) "__eq__" sp []) (hr : Room j X.A) (hk : k + 1 ≤ j) (hx : IsObj M x (CR X.K) fs) (hy : IsObj M y (CR X.K) gs) (h : sp [x, y] M fun d M1 => ∃ t, d = .bl t ∧ Q (.bl (!t)) M1) : BinG Pm X (compareOp .NotEq) x y M Q := by
  obtain ⟨f, fd, ps, F1, cl, hm, hb⟩ := g.nil
  have e : He.ma X.K (CR X.K) "__eq__" = f := by unfold He.ma; rw [hm.at_]
  exact b_neOwn (yB := some (.builtin "object.__eq__")) (e ▸ ex_ne_Row m.e) (by kernel_rfl) F1 hb hr hk hx hy h
/-! ### ring_row, ended_row -/
def spRing (K : PySem.W.Frag) : SpD := fun xs M Q => ∃ l : List Str, xs = [.lst (l.map D.str)] ∧ 0 < l.length ∧ l.length ≤ 300 ∧ ∀ R, Cn (rg l).at R → Q (rowO K R) M
theorem sc_ring : FnScope ["arrows"] ["arrows"] d_ring_row.scope := ⟨rfl, rfl, rfl, by decide +kernel, rfl, by decide +kernel, by decide +kernel⟩
theorem cal_ring (m : Md K mg base) : CalD P w K mg base 3 "ring_row" (spRing K) [] := by
  refine cal_of (d := d_ring_row) rfl (fd_ring_row m.c) (He.glo_ok m.i m.n (glo_ring_row m.c)) sc_ring (fun xs M Q ⟨a, e, _⟩ => by rw [e]; rfl) (fun _ _ _ _ _ _ us hl => match us, hl with | [_], _ => rfl) ?_
  rintro cdv A outer s H E hr xs M Q ⟨l, rfl, h0, h1, hQ⟩
  have flen : mg "len" = none := He.free_ok m.i m.n (free_len m.c)
  refine wss_cons <| ws_if <| wt_cmp <| we_b1 flen bb_len <| we_var 0 rfl rfl <| c_len <| we_int <| b_eqI hr ⟨_, rfl, fun h => ?_, fun _ => wss_nil ?_⟩
  · have := of_decide_eq_true h
    rw [List.length_map] at this
    omega
  exact wss_one <| ws_ret <| we_mak (mak_row m) hr (by decide) <| wa_cons <| we_cal (cal_short m) hr (by decide) <| wa1 <| we_var 0 rfl rfl ⟨l, rfl, h0, by omega, fun q hq => wa_cons <| we_non <| wa3 <| we_non <| we_non <| we_non fun a ha => row_init ha (hQ _ (cn_of_ring h0 hq))⟩
def spEnded (K : PySem.W.Frag) : SpD := fun xs M Q => ∃ (l m r : List Str) (md : D) (s : Int), xs = [.lst (l.map D.str), md, .lst (r.map D.str), .int s] ∧ (md = .lst (m.map D.str) ∨ md = sT m) ∧ 0 < l.length ∧ l.length ≤ 300 ∧ m.length ≤ 300 ∧ 0 < r.length ∧ r.length ≤ 300 ∧ -(2 ^ 60) ≤ s ∧ s ≤ 2 ^ 60 ∧
  ∀ R, Cn (wR l m r s).at R → Q (rowO K R) M
theorem sc_ended : FnScope ["left", "middle", "right", "start", "ring", "least_left", "least_middle", "least_right", "begin"] ["left", "middle", "right", "start"] d_ended_row.scope := ⟨rfl, rfl, rfl, by decide +kernel, rfl, by decide +kernel, by decide +kernel⟩
theorem cn_form {f : Int → Str} {R : Rw Str} (h : Cn f R) : (∃ l, R = rg l) ∨ ∃ l m r s, R = wR l m r s := by
  rcases h with ⟨n, _, _, rfl⟩ | ⟨n, p, b, E, _, _, _, _, _, _, rfl⟩
  · exact .inl ⟨_, rfl⟩
  · exact .inr ⟨_, _, _, _, rfl⟩
theorem cal_ended (m : Md K mg base) : CalD P w K mg base 5 "ended_row" (spEnded K) [] := by
  obtain ⟨fd, F⟩ := fd_ended_row m.c
  obtain ⟨us, hu, hb⟩ := F.binds1 (ps := ["left", "middle", "right", "start"]) 4 1 (by intro e; cases e) rfl (fun T kV doc pm an cdv ct us its hu hi => match us, its, hu, hi with | [_, _, _, _], [_], _, _ => ⟨_, rfl, rfl⟩)
  refine ⟨_, fd, _, [], us, fnD F sc_ended (fun xs M Q ⟨a, b, c, d, f, e, _⟩ => by rw [e]; rfl) ?_, He.glo_ok m.i m.n (glo_ended_row m.c), F.kp, hb, hu, fun _ => RpL.nil⟩
  rintro cdv A outer s H E hr xs M Q ⟨l, mi, r, md, st, rfl, hmd, h1, h1B, hmB, h2, h2B, hs1, hs2, hQ⟩
  have nd := sc_ended.nd
  have flen : mg "len" = none := He.free_ok m.i m.n (free_len m.c)
  refine wss_cons <| ws_if <| wt_cmp <| we_b1 flen bb_len <| we_var 0 rfl rfl <| c_len <| we_int <| b_eqI hr ⟨_, rfl, fun h => ?_, fun _ => wss_nil ?_⟩
  · have := of_decide_eq_true h
    rw [List.length_map] at this
    omega
  refine wss_cons <| ws_if <| wt_cmp <| we_b1 flen bb_len <| we_var 2 rfl rfl <| c_len <| we_int <| b_eqI hr ⟨_, rfl, fun h => ?_, fun _ => wss_nil ?_⟩
  · have := of_decide_eq_true h
    rw [List.length_map] at this
    omega
  refine wss_cons <| ws_asg (.tp [4, 5, 6, 7, 8]) (pg_tup rfl <| pgs_cons (pgN nd rfl) <| pgs_cons (pgN nd rfl) <| pgs_cons (pgN nd rfl) <| pgs_cons (pgN nd rfl) <| pgs_cons (pgN nd rfl) pgs_nil) <| we_cal (cal_least m) hr (by decide) <| wa_cons <| we_var 0 rfl rfl <| wa3 <| we_var 1 rfl rfl <| we_var 2 rfl rfl <| we_var 3 rfl rfl ⟨l, mi, r, md, st, rfl, hmd, h1, h1B, hmB, h2, h2B, hs1, hs2, fun R cn => ?_⟩
  have hq := hQ R cn
  rcases cn_form cn with ⟨l', rfl⟩ | ⟨l', m', r', s', rfl⟩
  · refine ⟨_, rfl, ?_⟩
    exact wss_one <| ws_ret <| we_mak (mak_row m) hr (by decide) <| wa_cons <| we_var 4 rfl rfl <| wa_cons <| we_var 5 rfl rfl <| wa3 <| we_var 6 rfl rfl <| we_var 7 rfl rfl <| we_var 8 rfl rfl fun a ha => row_init ha hq
  · refine ⟨_, rfl, ?_⟩
    exact wss_one <| ws_ret <| we_mak (mak_row m) hr (by decide) <| wa_cons <| we_var 4 rfl rfl <| wa_cons <| we_var 5 rfl rfl <| wa3 <| we_var 6 rfl rfl <| we_var 7 rfl rfl <| we_var 8 rfl rfl fun a ha => row_init ha hq
end
end K03

namespace K03
open PySem PySem.Spec L2 DL

local macro_rules | `(tactic| walk_at "dl") => `(tactic| first
  | ((with_reducible show WE _ _ (.Constant _ _ _) _ _ _); first | refine we_int ?_ | refine we_str ?_ | refine we_bl ?_ | refine we_non ?_)
  | ((with_reducible show WE _ _ (.Name _ _) _ _ _); first | refine we_var 0 rfl rfl ?_ | refine we_var 1 rfl rfl ?_ | refine we_var 2 rfl rfl ?_ | refine we_var 3 rfl rfl ?_ | refine we_var 4 rfl rfl ?_ | refine we_var 5 rfl rfl ?_ | refine we_var 6 rfl rfl ?_ | refine we_var 7 rfl rfl ?_ | refine we_var 8 rfl rfl ?_ | refine we_var 9 rfl rfl ?_ | refine we_var 10 rfl rfl ?_ | refine we_var 11 rfl rfl ?_ | refine we_var 12 rfl rfl ?_ | refine we_var 13 rfl rfl ?_ | refine we_var 14 rfl rfl ?_ | refine we_var 15 rfl rfl ?_)
  | ((with_reducible show WE _ _ (.BinOp _ _ _ _) _ _ _); refine we_bin ?_)
  | ((with_reducible show WE _ _ (.Compare _ [_] [_] _) _ _ _); refine we_cmp ?_)
  | ((with_reducible show WT _ _ (.Compare _ [_] [_] _) _ _ _); refine wt_cmp ?_)
  | ((with_reducible show WE _ _ (.UnaryOp .USub _ _) _ _ _); refine we_un ?_)
  | ((with_reducible show WT _ _ (.UnaryOp .Not _ _) _ _ _); refine wt_not ?_)
  | ((with_reducible show WE _ _ (.IfExp _ _ _ _) _ _ _); refine we_ifx ?_)
  | ((with_reducible show WE _ _ (.Subscript _ (.Name _ _) _) _ _ _); refine we_ix ?_)
  | ((with_reducible show WE _ _ (.Subscript _ (.Constant _ _ _) _) _ _ _); refine we_ix ?_)
  | ((with_reducible show WE _ _ (.Subscript _ (.Subscript _ _ _) _) _ _ _); refine we_ix ?_)
  | ((with_reducible show WE _ _ (.Subscript _ (.BinOp _ _ _ _) _) _ _ _); refine we_ix ?_)
  | ((with_reducible show WE _ _ (.Subscript _ (.UnaryOp _ _ _) _) _ _ _); refine we_ix ?_)
  | ((with_reducible show WE _ _ (.Subscript _ (.Call _ _ _ _) _) _ _ _); refine we_ix ?_)
  | ((with_reducible show WE _ _ (.Call (.Name "len" _) [_] [] _) _ _ _); refine we_b1 (by assumption) bb_len ?_)
  | ((with_reducible show WE _ _ (.Call (.Name "abs" _) [_] [] _) _ _ _); refine we_b1 (by assumption) bb_abs ?_)
  | ((with_reducible show WE _ _ (.Call (.Name "int" _) [_] [] _) _ _ _); refine we_t1 (by assumption) bb_int ?_)
  | ((with_reducible show WE _ _ (.Call (.Name "list" _) [_] [] _) _ _ _); refine we_t1 (by assumption) bb_list ?_)
  | ((with_reducible show WE _ _ (.Call (.Name "tuple" _) [_] [] _) _ _ _); refine we_t1 (by assumption) bb_tuple ?_)
  | ((with_reducible show WE _ _ (.Call (.Name "str" _) [_] [] _) _ _ _); refine we_t1 (by assumption) bb_str ?_)
  | ((with_reducible show WE _ _ (.Call (.Name "set" _) [_] [] _) _ _ _); refine we_t1 (by assumption) bb_set ?_)
  | ((with_reducible show WE _ _ (.Call (.Name "sorted" _) [_] [] _) _ _ _); refine we_b1 (by assumption) bb_sorted ?_)
  | ((with_reducible show WE _ _ (.Call (.Name "isinstance" _) [_, _] [] _) _ _ _); refine we_b2 (by assumption) bb_isinstance ?_)
  | ((with_reducible show WE _ _ (.Call (.Name "max" _) [_] [] _) _ _ _); refine we_b1 (by assumption) bb_max ?_)
  | ((with_reducible show WE _ _ (.Call (.Name "min" _) [_] [] _) _ _ _); refine we_b1 (by assumption) bb_min ?_)
  | ((with_reducible show WE _ _ (.Call (.Name "max" _) [_, _] [] _) _ _ _); refine we_b2 (by assumption) bb_max ?_)
  | ((with_reducible show WE _ _ (.Call (.Name "min" _) [_, _] [] _) _ _ _); refine we_b2 (by assumption) bb_min ?_)
  | ((with_reducible show BinG _ _ (binaryOp .Add) (.int _) (.int _) _ _); refine b_add ?_)
  | ((with_reducible show BinG _ _ (binaryOp .Sub) (.int _) (.int _) _ _); refine b_sub ?_)
  | ((with_reducible show BinG _ _ (binaryOp .Mod) (.int _) (.int _) _ _); refine b_mod (by omega) ?_)
  | ((with_reducible show BinG _ _ (binaryOp .FloorDiv) (.int _) (.int _) _ _); refine b_div ⟨by omega, by omega⟩ ?_)
  | ((with_reducible show BinG _ _ (binaryOp .Mult) (.int _) (.int _) _ _); first | refine b_mul (.inr ⟨by omega, by omega⟩) ?_ | refine b_mul (.inl ⟨by omega, by omega⟩) ?_)
  | ((with_reducible show BinG _ _ (compareOp .Lt) (.int _) (.int _) _ _); refine b_lt ?_)
  | ((with_reducible show BinG _ _ (compareOp .LtE) (.int _) (.int _) _ _); refine b_le ?_)
  | ((with_reducible show BinG _ _ (compareOp .Gt) (.int _) (.int _) _ _); refine b_gt ?_)
  | ((with_reducible show BinG _ _ (compareOp .GtE) (.int _) (.int _) _ _); refine b_ge ?_)
  | ((with_reducible show BinG _ _ (compareOp .Eq) (.int _) (.int _) _ _); refine b_eqI (by assumption) ?_)
  | ((with_reducible show BinG _ _ (compareOp .NotEq) (.int _) (.int _) _ _); refine b_neI (by assumption) ?_)
  | ((with_reducible show UnG _ _ (unaryOp .USub) (.int _) _ _); refine b_neg ?_)
  | (with_reducible refine ex_bl ?_)
  | ((with_reducible show CallG _ _ (.type "int") [.int _] _ _); refine c_int ?_)
  | ((with_reducible show CallG _ _ (.type "int") [.bl _] _ _); refine c_intB ?_)
  | ((with_reducible show CallG _ _ (.builtin "abs") _ _ _); refine c_abs ?_)
  | ((with_reducible show CallG _ _ (.builtin "len") [.lst _] _ _); refine c_len ?_)
  | ((with_reducible show CallG _ _ (.builtin "len") [.tup _] _ _); refine c_lenT ?_)
  | ((with_reducible show CallG _ _ (.builtin "len") [.raw _] _ _); refine c_lenM (by first | assumption | exact updM_same) ?_)
  | ((with_reducible show CallG _ _ (.type "list") [.tup _] _ _); refine c_listT ?_)
  | ((with_reducible show CallG _ _ (.type "tuple") [.lst _] _ _); refine c_tuple ?_)
  | ((with_reducible show CallG _ _ (.type "tuple") [.tup _] _ _); refine c_tupleT ?_)
  | ((with_reducible show CallG _ _ (.builtin "max") [.int _, .int _] _ _); refine c_max2 rfl ?_)
  | ((with_reducible show CallG _ _ (.builtin "min") [.int _, .int _] _ _); refine c_min2 rfl ?_)
  | ((with_reducible show IxG _ _ (.tup _) _ _ _); refine ix_tupD rfl ?_)
  | ((with_reducible show IxG _ _ (.raw _) _ _ _); refine ix_mlst (by first | assumption | exact updM_same) rfl ?_)
  | ((with_reducible show WA _ _ (_ :: _) _ _ _); refine wa_cons ?_)
  | ((with_reducible show WA _ _ [] _ _ _); refine wa_nil ?_))
section
variable {P : Program} {w : World} {K : PySem.W.Frag} {mg : Str → Option Value} {base : Heap}
theorem li_str (z : Str) : LI z.cps.toList (fun c => D.str ⟨#[c]⟩) z.cps.toList.length (fun i => .str ⟨#[z.cps.toList.getD i 0]⟩) :=
  ⟨rfl, fun i h => by dsimp only; rw [List.getD_eq_getElem?_getD, List.getElem?_eq_getElem h]; rfl⟩
theorem at0 {c : Nat} {r : List Nat} : atI (c :: r) 0 = some c := atI_nat (j := 0) rfl
theorem subIn_one (z : Str) (c : Nat) : subIn ⟨#[c]⟩ z = decide (c ∈ z.cps.toList) := by
  have := SX.in_one z.cps.toList c
  rw [SX.S_tl] at this
  exact this
theorem one_eq (c d : Nat) : decide ((⟨#[c]⟩ : Str) = ⟨#[d]⟩) = decide (c = d) := by
  rw [Bool.eq_iff_iff, decide_eq_true_eq, decide_eq_true_eq]
  exact ⟨fun h => by injection h with h; injection h with h; injection h, fun h => by rw [h]⟩
abbrev FIRST : Str := "abcdefghijklmnopqrstuvwxyz0123456789["
abbrev LATER : Str := "abcdefghijklmnopqrstuvwxyz0123456789[]|+/~:."
abbrev DIG : Str := "0123456789"
/-- the reading of a name, sign by sign -/
def nmRun : List Nat → Int → Bool
  | [], d => decide (d = 0)
  | c :: r, d => decide (c ∈ LATER.cps.toList) && (if c = 91 then decide (0 ≤ d + 1) && nmRun r (d + 1) else if c = 93 then decide (0 ≤ d - 1) && nmRun r (d - 1) else !(decide (d = 0) && (decide (c = 124) || decide (c = 43))) && (decide (0 ≤ d) && nmRun r d))
theorem nm_run : ∀ x ∈ NM, nmRun x.cps.toList 0 = true ∧ ∃ c r, x.cps.toList = c :: r ∧ c ∈ FIRST.cps.toList := fun x hx => by
  simp only [NM, List.mem_cons, List.not_mem_nil, or_false] at hx
  rcases hx with rfl | rfl | rfl
  · exact ⟨by decide +kernel, 120, [], by decide +kernel, by decide +kernel⟩
  · exact ⟨by decide +kernel, 121, [121], by decide +kernel, by decide +kernel⟩
  · exact ⟨by decide +kernel, 91, [98, 124, 99, 93], by decide +kernel, by decide +kernel⟩
theorem len_sz {x : Str} (h : x.length ≤ 1000) : x.length ≤ sizeLine := Nat.le_trans h (by rw [sizeLine_eq]; decide)
/-! ### is_name -/
def spName : SpD := fun xs M Q => ∃ x, xs = [.str x] ∧ ((x ∈ NM ∧ Q (.bl true) M) ∨ (x = wO ∧ Q (.bl false) M))
theorem sc_name : FnScope ["word", "depth", "sign"] ["word"] d_is_name.scope := ⟨rfl, rfl, rfl, by decide +kernel, rfl, by decide +kernel, by decide +kernel⟩
theorem cal_name (m : Md K mg base) : CalD P w K mg base 1 "is_name" spName [] := by
  refine cal_of (d := d_is_name) rfl (fd_is_name m.c) (He.glo_ok m.i m.n (glo_is_name m.c)) sc_name (fun xs M Q ⟨a, e, _⟩ => by rw [e]; rfl) (fun _ _ _ _ _ _ us hl => match us, hl with | [_], _ => rfl) ?_
  rintro cdv A outer s H E hr xs M Q ⟨x, rfl, hx⟩
  have nd := sc_name.nd
  have cF := cstS_ok m.i m.n (ex_cst_FIRST_SIGNS m.e)
  have cL := cstS_ok m.i m.n (ex_cst_LATER_SIGNS m.e)
  rcases hx with ⟨hx, hQ⟩ | ⟨rfl, hQ⟩
  · obtain ⟨run, c0, r0, ec, hc0⟩ := nm_run x hx
    have hl := (nm_free x hx).2
    refine wss_cons <| ws_if <| wt_w <| ww_or <| wt_cmp <| we_var 0 rfl rfl <| we_str <| b_eqS ⟨_, rfl, fun h => ?_, fun _ => ?_⟩
    · have := of_decide_eq_true h
      rw [this, show ("" : Str).cps.toList = [] by decide +kernel] at ec
      cases ec
    refine ww_or1 <| wt_cmp <| we_ix <| we_var 0 rfl rfl <| we_int <| ix_strD (c := c0) (len_sz (by omega)) (by rw [ec]; exact at0) <| we_cstS cF <| b_notinS ⟨_, rfl, fun h => ?_, fun _ => wss_nil ?_⟩
    · rw [subIn_one, decide_eq_true hc0] at h
      cases h
    refine wss_cons <| ws_set 1 nd rfl <| we_int ?_
    refine wss_cons <| ws_forL (.nm 2) x.cps.toList (fun c => .str ⟨#[c]⟩) (fun rem ds1 M1 => ∃ (d : Int) (o : Option D), ds1 = [some (.str x), some (.int d), o] ∧ M1 = M ∧ nmRun rem d = true) PassesOwn.never rfl (pgN nd rfl) ?_ ?_ ?_
    · exact wi_str <| we_var 0 rfl rfl ⟨x, rfl, li_str x, 0, none, rfl, rfl, run⟩
    · rintro ds1 M1 ⟨d, o, rfl, rfl, h⟩
      refine wss_one <| ws_ret <| we_cmp <| we_var 1 rfl rfl <| we_int <| b_eqI hr ?_
      rw [show decide (d = 0) = true from h]
      exact hQ
    rintro c r ds1 M1 ⟨d, o, rfl, rfl, h⟩
    refine ⟨_, rfl, ?_⟩
    simp only [nmRun, Bool.and_eq_true] at h
    obtain ⟨h1, h2⟩ := h
    refine wss_cons <| ws_if <| wt_cmp <| we_var 2 rfl rfl <| we_cstS cL <| b_notinS ⟨_, rfl, fun h => ?_, fun _ => wss_nil ?_⟩
    · rw [subIn_one, h1] at h
      cases h
    have e91 : decide ((⟨#[c]⟩ : Str) = ("[" : Str)) = decide (c = 91) := one_eq c 91
    have e93 : decide ((⟨#[c]⟩ : Str) = ("]" : Str)) = decide (c = 93) := one_eq c 93
    have e124 : decide ((⟨#[c]⟩ : Str) = ("|" : Str)) = decide (c = 124) := one_eq c 124
    have e43 : decide ((⟨#[c]⟩ : Str) = ("+" : Str)) = decide (c = 43) := one_eq c 43
    refine wss_cut (fun ds1 M2 => ∃ d : Int, ds1 = [some (.str x), some (.int d), some (.str ⟨#[c]⟩)] ∧ M2 = M1 ∧ 0 ≤ d ∧ nmRun r d = true) (ws_if <| wt_cmp <| we_var 2 rfl rfl <| we_str <| b_eqS ⟨_, rfl, fun h => ?_, fun h => ?_⟩) ?_
    · rw [e91] at h
      rw [if_pos (of_decide_eq_true h), Bool.and_eq_true] at h2
      exact wss_one <| ws_aug 1 nd rfl rfl <| we_int <| bi_add ⟨d + 1, rfl, rfl, of_decide_eq_true h2.1, h2.2⟩
    · rw [e91] at h
      rw [if_neg (of_decide_eq_false h)] at h2
      refine wss_one <| ws_if <| wt_cmp <| we_var 2 rfl rfl <| we_str <| b_eqS ⟨_, rfl, fun h => ?_, fun h => ?_⟩
      · rw [e93] at h
        rw [if_pos (of_decide_eq_true h), Bool.and_eq_true] at h2
        exact wss_one <| ws_aug 1 nd rfl rfl <| we_int <| bi_sub ⟨d - 1, rfl, rfl, of_decide_eq_true h2.1, h2.2⟩
      · rw [e93] at h
        rw [if_neg (of_decide_eq_false h), Bool.and_eq_true, Bool.not_eq_true', Bool.and_eq_true] at h2
        obtain ⟨h3, h4, h5⟩ := h2
        refine wss_one <| ws_if <| wt_w <| ww_and <| wt_cmp <| we_var 1 rfl rfl <| we_int <| b_eqI hr ⟨_, rfl, fun hd => ?_, fun hd => ⟨fun h => (by cases h), fun _ => wss_nil ⟨d, rfl, rfl, of_decide_eq_true h4, h5⟩⟩⟩
        rw [hd, Bool.true_and, Bool.or_eq_false_iff] at h3
        refine ww_and1 <| wt_w <| ww_or <| wt_cmp <| we_var 2 rfl rfl <| we_str <| b_eqS ⟨_, rfl, fun h => ?_, fun _ => ?_⟩
        · rw [e124, h3.1] at h
          cases h
        refine ww_or1 <| wt_cmp <| we_var 2 rfl rfl <| we_str <| b_eqS ⟨_, rfl, fun h => ?_, fun _ => wss_nil ⟨d, rfl, rfl, of_decide_eq_true h4, h5⟩⟩
        rw [e43, h3.2] at h
        cases h
    rintro ds1 M2 ⟨d, rfl, rfl, h3, h4⟩
    refine wss_one <| ws_if <| wt_cmp <| we_var 1 rfl rfl <| we_int <| b_lt ⟨_, rfl, fun h => ?_, fun _ => wss_nil ⟨d, _, rfl, rfl, h4⟩⟩
    have := of_decide_eq_true h
    omega
  · refine wss_cons <| ws_if <| wt_w <| ww_or <| wt_cmp <| we_var 0 rfl rfl <| we_str <| b_eqS ⟨_, rfl, fun h => ?_, fun _ => ?_⟩
    · exact absurd (of_decide_eq_true h) (by decide +kernel)
    refine ww_or1 <| wt_cmp <| we_ix <| we_var 0 rfl rfl <| we_int <| ix_strD (c := 40) (len_sz (by decide +kernel)) (by decide +kernel) <| we_cstS cF <| b_notinS ⟨_, rfl, fun _ => ?_, fun h => ?_⟩
    · exact wss_one <| ws_ret <| we_bl hQ
    · rw [subIn_one] at h
      exact absurd h (by decide +kernel)
/-! ### is_number -/
def spNumber : SpD := fun xs M Q => ∃ (n : Nat) (z : Int), xs = [.str (SX.S (TL.numL n)), .int z, .int 18] ∧ n < 10 ^ 18 ∧ z ≤ n ∧ Q (.bl true) M
theorem sc_number : FnScope ["word", "least", "digits", "sign"] ["word", "least", "digits"] d_is_number.scope := ⟨rfl, rfl, rfl, by decide +kernel, rfl, by decide +kernel, by decide +kernel⟩
theorem dig_in : ∀ c : Nat, 48 ≤ c ∧ c ≤ 57 → c ∈ DIG.cps.toList := fun c h => by
  have e : DIG.cps.toList = [48, 49, 50, 51, 52, 53, 54, 55, 56, 57] := by decide +kernel
  rw [e]
  simp only [List.mem_cons, List.not_mem_nil, or_false]
  omega
theorem ok_number (m : Md K mg base) {fd : FuncData} (F : FunD K d_is_number.name d_is_number.qual d_is_number.params d_is_number.body d_is_number.scope (d_is_number.dvs K) (d_is_number.kws K) (He.fAd K d_is_number.at_) fd) :
    FnOk P w K mg base CX0 1 (He.fAd K d_is_number.at_) fd ["word", "least", "digits"] (toSp K spNumber) := by
  refine fnD F sc_number (fun xs M Q ⟨a, b, e, _⟩ => by rw [e]; rfl) ?_
  rintro cdv A outer s H E hr xs M Q ⟨n, z, rfl, hn, hz, hQ⟩
  have nd := sc_number.nd
  have flen : mg "len" = none := He.free_ok m.i m.n (free_len m.c)
  have fint : mg "int" = none := He.free_ok m.i m.n (free_int m.c)
  have cD := cstS_ok m.i m.n (ex_cst_DIGITS m.e)
  have hl := TL.numL_len (n := n) (k := 18) (by decide) (by omega)
  have h0 := TL.numL_ne n
  have hl0 : 0 < (TL.numL n).length := List.length_pos_iff.mpr h0
  have hsl : (SX.S (TL.numL n)).length = (TL.numL n).length := SX.S_len _
  refine wss_cons <| ws_if <| wt_w <| ww_or <| wt_cmp <| we_b1 flen bb_len <| we_var 0 rfl rfl <| c_lenS (len_sz (by omega)) <| we_int <| b_lt ⟨_, rfl, fun h => ?_, fun _ => ?_⟩
  · have := of_decide_eq_true h
    omega
  refine ww_or1 <| wt_cmp <| we_b1 flen bb_len <| we_var 0 rfl rfl <| c_lenS (len_sz (by omega)) <| we_var 2 rfl rfl <| b_gt ⟨_, rfl, fun h => ?_, fun _ => wss_nil ?_⟩
  · have := of_decide_eq_true h
    omega
  refine wss_cut (fun ds1 M1 => ∃ o, ds1 = [some (.str (SX.S (TL.numL n))), some (.int z), some (.int 18), o] ∧ M1 = M) (ws_forL (.nm 3) (TL.numL n) (fun c => .str ⟨#[c]⟩) (fun rem ds1 M1 => (∃ o, ds1 = [some (.str (SX.S (TL.numL n))), some (.int z), some (.int 18), o]) ∧ M1 = M ∧ ∀ c ∈ rem, 48 ≤ c ∧ c ≤ 57) PassesOwn.never rfl (pgN nd rfl) ?_ ?_ ?_) ?_
  · exact wi_str <| we_var 0 rfl rfl ⟨_, rfl, li_str _, ⟨none, rfl⟩, rfl, TL.numL_digits n⟩
  · rintro ds1 M1 ⟨⟨o, rfl⟩, rfl, _⟩
    exact ⟨o, rfl, rfl⟩
  · rintro c r ds1 M1 ⟨⟨o, rfl⟩, rfl, hc⟩
    refine ⟨_, rfl, wss_one <| ws_if <| wt_cmp <| we_var 3 rfl rfl <| we_cstS cD <| b_notinS ⟨_, rfl, fun h => ?_, fun _ => wss_nil ⟨⟨_, rfl⟩, rfl, fun d hd => hc d (List.mem_cons_of_mem _ hd)⟩⟩⟩
    rw [subIn_one, decide_eq_true (dig_in c (hc c List.mem_cons_self))] at h
    cases h
  rintro ds1 M1 ⟨o, rfl, rfl⟩
  obtain ⟨c0, r0, ec⟩ : ∃ c r, TL.numL n = c :: r := by
    cases h : TL.numL n with
    | nil => exact absurd h h0
    | cons c r => exact ⟨c, r, rfl⟩
  have hc0 : c0 = 48 → (TL.numL n).length = 1 := fun e => by
    by_cases q : n = 0
    · rw [q, TL.numL_lt (by omega)]; rfl
    · obtain ⟨c, r, e1, e2⟩ := numL_head (n := n) (by omega)
      rw [ec] at e1
      injection e1 with e1
      omega
  refine wss_cut (fun ds1 M2 => ds1 = [some (.str (SX.S (TL.numL n))), some (.int z), some (.int 18), o] ∧ M2 = M1) (ws_if <| wt_w <| ww_and <| wt_cmp <| we_ix <| we_var 0 rfl rfl <| we_int <| ix_strD (c := c0) (len_sz (by omega)) (by show atI (TL.numL n) 0 = some c0; rw [ec]; exact at0) <| we_str <| b_eqS ⟨_, rfl, fun h => ?_, fun h => ⟨fun h => (by cases h), fun _ => wss_nil ⟨rfl, rfl⟩⟩⟩) ?_
  · have e : c0 = 48 := of_decide_eq_true ((one_eq c0 48).symm.trans h)
    refine ww_and1 <| wt_cmp <| we_b1 flen bb_len <| we_var 0 rfl rfl <| c_lenS (len_sz (by omega)) <| we_int <| b_gt ⟨_, rfl, fun h => ?_, fun _ => wss_nil ⟨rfl, rfl⟩⟩
    have := of_decide_eq_true h
    have := hc0 e
    omega
  rintro ds1 M2 ⟨rfl, rfl⟩
  refine wss_one <| ws_ret <| we_cmp <| we_t1 fint bb_int <| we_var 0 rfl rfl <| c_intS (n := (n : Int)) ?_ (by omega) <| we_var 1 rfl rfl <| b_ge ?_
  · have := TL.int_num (n := n) (by omega)
    rw [SX.num_S] at this
    exact this
  · rw [decide_eq_true hz]
    exact hQ
theorem cal_num2 (m : Md K mg base) : CalK P w K mg base 1 "is_number" 1 ["least", "digits"] (fun xs ys => xs ++ ys) spNumber := by
  obtain ⟨fd, F⟩ := fd_is_number m.c
  have F' : FunD K d_is_number.name d_is_number.qual d_is_number.params d_is_number.body d_is_number.scope [] (d_is_number.kws K) (He.fAd K d_is_number.at_) fd := F
  obtain ⟨mv, hb⟩ := F'.kbinds0 (ps := ["word", "least", "digits"]) 1 ["least", "digits"] [] (fun us _ ws => us ++ ws) (by intro e; cases e) (fun q hq => (by cases hq)) (fun r1 _ r3 => r1.append r3) (fun D doc pm an cdv ct us mv ws h1 h2 h3 => match us, mv, ws, h1, h2, h3 with | [_], [], [_, _], _, _, _ => rfl)
  exact ⟨_, fd, _, _, _, ok_number m F, He.glo_ok m.i m.n (glo_is_number m.c), F.kp, hb, fun G vs zs xs ys _ _ h1 h2 => h1.append h2⟩
theorem cal_num1 (m : Md K mg base) : CalK P w K mg base 1 "is_number" 1 ["digits"] (fun xs ys => xs ++ [.int 0] ++ ys) spNumber := by
  obtain ⟨fd, F⟩ := fd_is_number m.c
  have F' : FunD K d_is_number.name d_is_number.qual d_is_number.params d_is_number.body d_is_number.scope [] (d_is_number.kws K) (He.fAd K d_is_number.at_) fd := F
  obtain ⟨mv, hb⟩ := F'.kbinds0 (ps := ["word", "least", "digits"]) 1 ["digits"] [("least", .int 0)] (fun us ms ws => us ++ ms ++ ws) (by intro e; cases e) (fun q hq => List.mem_of_getElem? (i := 0) (by rw [List.mem_singleton.mp hq]; rfl)) (fun r1 r2 r3 => (r1.append r2).append r3) (fun D doc pm an cdv ct us mv ws h1 h2 h3 => match us, mv, ws, h1, h2, h3 with | [_], [_], [_], _, _, _ => ⟨_, _, _, _, _, _, rfl, rfl, rfl⟩)
  exact ⟨_, fd, _, _, _, ok_number m F, He.glo_ok m.i m.n (glo_is_number m.c), F.kp, hb, fun G vs zs xs ys _ _ h1 h2 => (h1.append (RpL.cons rp_int RpL.nil)).append h2⟩
end
end K03

namespace K03
open PySem PySem.Spec L2 DL

local macro_rules | `(tactic| walk_at "dl") => `(tactic| first
  | ((with_reducible show WE _ _ (.Constant _ _ _) _ _ _); first | refine we_int ?_ | refine we_str ?_ | refine we_bl ?_ | refine we_non ?_)
  | ((with_reducible show WE _ _ (.Name _ _) _ _ _); first | refine we_var 0 rfl rfl ?_ | refine we_var 1 rfl rfl ?_ | refine we_var 2 rfl rfl ?_ | refine we_var 3 rfl rfl ?_ | refine we_var 4 rfl rfl ?_ | refine we_var 5 rfl rfl ?_ | refine we_var 6 rfl rfl ?_ | refine we_var 7 rfl rfl ?_ | refine we_var 8 rfl rfl ?_ | refine we_var 9 rfl rfl ?_ | refine we_var 10 rfl rfl ?_ | refine we_var 11 rfl rfl ?_ | refine we_var 12 rfl rfl ?_ | refine we_var 13 rfl rfl ?_ | refine we_var 14 rfl rfl ?_ | refine we_var 15 rfl rfl ?_)
  | ((with_reducible show WE _ _ (.BinOp _ _ _ _) _ _ _); refine we_bin ?_)
  | ((with_reducible show WE _ _ (.Compare _ [_] [_] _) _ _ _); refine we_cmp ?_)
  | ((with_reducible show WT _ _ (.Compare _ [_] [_] _) _ _ _); refine wt_cmp ?_)
  | ((with_reducible show WE _ _ (.UnaryOp .USub _ _) _ _ _); refine we_un ?_)
  | ((with_reducible show WT _ _ (.UnaryOp .Not _ _) _ _ _); refine wt_not ?_)
  | ((with_reducible show WE _ _ (.IfExp _ _ _ _) _ _ _); refine we_ifx ?_)
  | ((with_reducible show WE _ _ (.Subscript _ (.Name _ _) _) _ _ _); refine we_ix ?_)
  | ((with_reducible show WE _ _ (.Subscript _ (.Constant _ _ _) _) _ _ _); refine we_ix ?_)
  | ((with_reducible show WE _ _ (.Subscript _ (.Subscript _ _ _) _) _ _ _); refine we_ix ?_)
  | ((with_reducible show WE _ _ (.Subscript _ (.BinOp _ _ _ _) _) _ _ _); refine we_ix ?_)
  | ((with_reducible show WE _ _ (.Subscript _ (.UnaryOp _ _ _) _) _ _ _); refine we_ix ?_)
  | ((with_reducible show WE _ _ (.Subscript _ (.Call _ _ _ _) _) _ _ _); refine we_ix ?_)
  | ((with_reducible show WE _ _ (.Call (.Name "len" _) [_] [] _) _ _ _); refine we_b1 (by assumption) bb_len ?_)
  | ((with_reducible show WE _ _ (.Call (.Name "abs" _) [_] [] _) _ _ _); refine we_b1 (by assumption) bb_abs ?_)
  | ((with_reducible show WE _ _ (.Call (.Name "int" _) [_] [] _) _ _ _); refine we_t1 (by assumption) bb_int ?_)
  | ((with_reducible show WE _ _ (.Call (.Name "list" _) [_] [] _) _ _ _); refine we_t1 (by assumption) bb_list ?_)
  | ((with_reducible show WE _ _ (.Call (.Name "tuple" _) [_] [] _) _ _ _); refine we_t1 (by assumption) bb_tuple ?_)
  | ((with_reducible show WE _ _ (.Call (.Name "str" _) [_] [] _) _ _ _); refine we_t1 (by assumption) bb_str ?_)
  | ((with_reducible show WE _ _ (.Call (.Name "set" _) [_] [] _) _ _ _); refine we_t1 (by assumption) bb_set ?_)
  | ((with_reducible show WE _ _ (.Call (.Name "sorted" _) [_] [] _) _ _ _); refine we_b1 (by assumption) bb_sorted ?_)
  | ((with_reducible show WE _ _ (.Call (.Name "isinstance" _) [_, _] [] _) _ _ _); refine we_b2 (by assumption) bb_isinstance ?_)
  | ((with_reducible show WE _ _ (.Call (.Name "max" _) [_] [] _) _ _ _); refine we_b1 (by assumption) bb_max ?_)
  | ((with_reducible show WE _ _ (.Call (.Name "min" _) [_] [] _) _ _ _); refine we_b1 (by assumption) bb_min ?_)
  | ((with_reducible show WE _ _ (.Call (.Name "max" _) [_, _] [] _) _ _ _); refine we_b2 (by assumption) bb_max ?_)
  | ((with_reducible show WE _ _ (.Call (.Name "min" _) [_, _] [] _) _ _ _); refine we_b2 (by assumption) bb_min ?_)
  | ((with_reducible show BinG _ _ (binaryOp .Add) (.int _) (.int _) _ _); refine b_add ?_)
  | ((with_reducible show BinG _ _ (binaryOp .Sub) (.int _) (.int _) _ _); refine b_sub ?_)
  | ((with_reducible show BinG _ _ (binaryOp .Mod) (.int _) (.int _) _ _); refine b_mod (by omega) ?_)
  | ((with_reducible show BinG _ _ (binaryOp .FloorDiv) (.int _) (.int _) _ _); refine b_div ⟨by omega, by omega⟩ ?_)
  | ((with_reducible show BinG _ _ (binaryOp .Mult) (.int _) (.int _) _ _); first | refine b_mul (.inr ⟨by omega, by omega⟩) ?_ | refine b_mul (.inl ⟨by omega, by omega⟩) ?_)
  | ((with_reducible show BinG _ _ (compareOp .Lt) (.int _) (.int _) _ _); refine b_lt ?_)
  | ((with_reducible show BinG _ _ (compareOp .LtE) (.int _) (.int _) _ _); refine b_le ?_)
  | ((with_reducible show BinG _ _ (compareOp .Gt) (.int _) (.int _) _ _); refine b_gt ?_)
  | ((with_reducible show BinG _ _ (compareOp .GtE) (.int _) (.int _) _ _); refine b_ge ?_)
  | ((with_reducible show BinG _ _ (compareOp .Eq) (.int _) (.int _) _ _); refine b_eqI (by assumption) ?_)
  | ((with_reducible show BinG _ _ (compareOp .NotEq) (.int _) (.int _) _ _); refine b_neI (by assumption) ?_)
  | ((with_reducible show UnG _ _ (unaryOp .USub) (.int _) _ _); refine b_neg ?_)
  | (with_reducible refine ex_bl ?_)
  | ((with_reducible show CallG _ _ (.type "int") [.int _] _ _); refine c_int ?_)
  | ((with_reducible show CallG _ _ (.type "int") [.bl _] _ _); refine c_intB ?_)
  | ((with_reducible show CallG _ _ (.builtin "abs") _ _ _); refine c_abs ?_)
  | ((with_reducible show CallG _ _ (.builtin "len") [.lst _] _ _); refine c_len ?_)
  | ((with_reducible show CallG _ _ (.builtin "len") [.tup _] _ _); refine c_lenT ?_)
  | ((with_reducible show CallG _ _ (.builtin "len") [.raw _] _ _); refine c_lenM (by first | assumption | exact updM_same) ?_)
  | ((with_reducible show CallG _ _ (.type "list") [.tup _] _ _); refine c_listT ?_)
  | ((with_reducible show CallG _ _ (.type "tuple") [.lst _] _ _); refine c_tuple ?_)
  | ((with_reducible show CallG _ _ (.type "tuple") [.tup _] _ _); refine c_tupleT ?_)
  | ((with_reducible show CallG _ _ (.builtin "max") [.int _, .int _] _ _); refine c_max2 rfl ?_)
  | ((with_reducible show CallG _ _ (.builtin "min") [.int _, .int _] _ _); refine c_min2 rfl ?_)
  | ((with_reducible show IxG _ _ (.tup _) _ _ _); refine ix_tupD rfl ?_)
  | ((with_reducible show IxG _ _ (.raw _) _ _ _); refine ix_mlst (by first | assumption | exact updM_same) rfl ?_)
  | ((with_reducible show WA _ _ (_ :: _) _ _ _); refine wa_cons ?_)
  | ((with_reducible show WA _ _ [] _ _ _); refine wa_nil ?_))
section
variable {P : Program} {w : World} {K : PySem.W.Frag} {mg : Str → Option Value} {base : Heap}
theorem sw (c : Nat) (r : List Nat) : Txt.startswith (SX.S (c :: r)) ("-" : Str) = decide (c = 45) := by
  have e : ("-" : Str) = SX.S [45] := by decide +kernel
  rw [e]
  unfold Txt.startswith Builtin.Str.subAt
  have h1 : (SX.S [45]).length = 1 := rfl
  have h2 : (SX.S (c :: r)).length = r.length + 1 := SX.S_len _
  rw [h1, h2]
  have h3 : (SX.S (c :: r)).cps.extract 0 (0 + 1) = #[c] := by
    show (c :: r).toArray.extract 0 1 = #[c]
    simp
  rw [h3]
  have h4 : decide (0 + 1 ≤ r.length + 1) = true := decide_eq_true (by omega)
  rw [h4, Bool.true_and]
  rw [Bool.eq_iff_iff, beq_iff_eq, decide_eq_true_eq]
  show #[c] = #[45] ↔ _
  simp
theorem eapp (x : Str) : Str.empty ++ x = x := TL.ext_tl (by rw [TL.tl_append]; rfl)
/-! ### is_time -/
def spTime : SpD := fun xs M Q => ∃ i : Int, xs = [.str (numI i)] ∧ -(10 ^ 18) < i ∧ i < 10 ^ 18 ∧ Q (.bl true) M
theorem sc_time : FnScope ["word"] ["word"] d_is_time.scope := ⟨rfl, rfl, rfl, by decide +kernel, rfl, by decide +kernel, by decide +kernel⟩
theorem cal_time (m : Md K mg base) : CalD P w K mg base 2 "is_time" spTime [] := by
  refine cal_of (d := d_is_time) rfl (fd_is_time m.c) (He.glo_ok m.i m.n (glo_is_time m.c)) sc_time (fun xs M Q ⟨a, e, _⟩ => by rw [e]; rfl) (fun _ _ _ _ _ _ us hl => match us, hl with | [_], _ => rfl) ?_
  rintro cdv A outer s H E hr xs M Q ⟨i, rfl, h1, h2, hQ⟩
  have pos : ∀ n : Nat, n < 10 ^ 18 → i = (n : Int) → WSs PmT (cx0 P w K mg base ["word"] d_is_time.qual d_is_time.scope (He.fAd K d_is_time.at_) cdv A outer s H E) d_is_time.body M [some (.str (SX.S (TL.numL n)))] { nx := fun _ M' => Q .non M', rt := Q } := fun n hn e => by
    obtain ⟨c, r, ec⟩ : ∃ c r, TL.numL n = c :: r := by
      cases h : TL.numL n with
      | nil => exact absurd h (TL.numL_ne n)
      | cons c r => exact ⟨c, r, rfl⟩
    have hc := TL.numL_digits n c (by rw [ec]; exact List.mem_cons_self)
    refine wss_cons <| ws_if <| wt_truth <| we_startswith <| we_var 0 rfl rfl ⟨_, rfl, we_str ⟨_, rfl, tru_is rfl ⟨fun h => ?_, fun _ => wss_nil ?_⟩⟩⟩
    · rw [ec, sw, decide_eq_true_eq] at h
      omega
    exact wss_one <| ws_ret <| we_calK1 (cal_num1 m) hr (by decide) <| we_var 0 rfl rfl <| we_int ⟨n, 0, rfl, hn, by omega, hQ⟩
  rcases Int.lt_or_le i 0 with h | h
  · obtain ⟨n, hn⟩ := Int.eq_ofNat_of_zero_le (show 0 ≤ -i by omega)
    have e : i = -(n : Int) := by omega
    subst e
    rw [num_neg (show 0 < n by omega)]
    refine wss_cons <| ws_if <| wt_truth <| we_startswith <| we_var 0 rfl rfl ⟨_, rfl, we_str ⟨_, rfl, tru_is rfl ⟨fun _ => ?_, fun h => ?_⟩⟩⟩
    · have hl := TL.numL_len (n := n) (k := 18) (by decide) (by omega)
      refine wss_one <| ws_ret <| we_calK2 (cal_num2 m) hr (by decide) <| we_slice <| we_var 0 rfl rfl <| wo_some <| we_int ⟨1, rfl, wo_none ⟨_, .str _ _ _ (len_sz (by rw [SX.S_len, List.length_cons]; omega)), ?_⟩⟩
      rw [SX.slice_from (by decide)]
      exact we_int <| we_int ⟨n, 1, rfl, by omega, by omega, hQ⟩
    · rw [sw] at h
      cases h
  · obtain ⟨n, rfl⟩ := Int.eq_ofNat_of_zero_le h
    have := pos n (by omega) rfl
    rw [← num_pos] at this
    exact this
/-! ### Row.text, str -/
def spText (K : PySem.W.Frag) : SpD := fun xs M Q => ∃ B R, xs = [rowO K R] ∧ Ko B R ∧ B < 10 ^ 18 ∧ Q (.str (rowText R)) M
theorem sc_text : FnScope ["self", "words"] ["self"] d_Row_text.scope := ⟨rfl, rfl, rfl, by decide +kernel, rfl, by decide +kernel, by decide +kernel⟩
theorem met_text (m : Md K mg base) : MetD P w K mg base 1 (CR K) "text" (spText K) [] := by
  refine met_of (d := d_Row_text) rfl (fd_Row_text m.c) (He.cls_ok (cls_Row m.c)) (He.meth_ok (meth_Row_text m.c)) sc_text (fun xs M Q ⟨a, b, e, _⟩ => by rw [e]; rfl) (fun _ _ _ _ _ _ us hl => match us, hl with | [_], _ => rfl) ?_
  rintro cdv A outer s H E hr xs M Q ⟨B, R, rfl, ko, hB, hQ⟩
  have nd := sc_text.nd
  have cl := He.cls_ok (cls_Row m.c)
  have n1 := He.noat_ok (noat_Row_ring m.c)
  have n2 := He.noat_ok (noat_Row_left m.c)
  have n3 := He.noat_ok (noat_Row_middle m.c)
  have n4 := He.noat_ok (noat_Row_right m.c)
  have n5 := He.noat_ok (noat_Row_start m.c)
  have hsz : sizeLine = 16777216 := sizeLine_eq
  have ww := words_wd ko hB
  have wl := (words_len ko).1
  have s1 := ko.s1
  have s2 := ko.s2
  have k1 := ko.l1
  have k2 := ko.m1
  have k3 := ko.r1
  have la : ∀ x y : Str, (x ++ y).length = x.length + y.length := fun x y => Str.length_append ..
  rcases ko_cases ko with ⟨l, rfl⟩ | ⟨l, mi, r, st, rfl⟩
  · have hl0 : 0 < l.length := ko.l0
    have e : wordsOf (rg l) = [wO] ++ l ++ [wC] := rfl
    have jf := join_fit (ws := l) (fun x hx => wd_nm (ko.nl x hx)) (by have : l.length ≤ 30 := k1; omega)
    have jl : (Txt.join (Str.ofString " ") l).length ≤ 3000 := jf.2
    have q1 : ("( " : Str).length = 2 := by decide +kernel
    have q2 : (" )" : Str).length = 2 := by decide +kernel
    rw [rowO_rg]
    refine wss_cons <| ws_if <| wt_cmp <| we_fld <| we_var 0 rfl rfl ⟨_, _, _, .inl rfl, cl, n1, rfl, we_non <| b_notN (fun G v h => nonT h) ⟨_, rfl, fun _ => ?_, fun h => (by cases h)⟩⟩
    refine wss_one <| ws_ret <| we_joined <| we_str ⟨_, rfl, ?_, we_fmt <| we_joinT <| we_str ⟨_, rfl, we_fld <| we_var 0 rfl rfl ⟨_, _, _, .inl rfl, cl, n1, rfl, l, rfl, jf.1, .inl ⟨_, rfl, by omega, _, rfl, ?_, we_str ⟨_, rfl, ?_, ?_⟩⟩⟩⟩⟩
    · rw [eapp, q1]; omega
    · rw [eapp, la, q1]; omega
    · rw [eapp, la, la, q1, q2]; omega
    · show Q (.str _) M
      rw [eapp, ring_text (List.ne_nil_of_length_pos hl0)]
      exact hQ
  · have hfit : ∀ x ∈ ([wO] ++ l ++ [wC] ++ mi ++ [wO] ++ r ++ [wC]), Wd x := fun x hx => ww x (by
      show x ∈ [wO] ++ l ++ [wC] ++ mi ++ [wO] ++ r ++ [wC] ++ _
      exact List.mem_append_left _ hx)
    have jf := join_fit hfit (by simp at k1 k2 k3 ⊢; omega)
    have hne : ([wO] ++ l ++ [wC] ++ mi ++ [wO] ++ r ++ [wC]) ≠ [] := by simp
    have k1' : l.length ≤ 30 := k1
    have k2' : mi.length ≤ 60 := k2
    have k3' : r.length ≤ 30 := k3
    rw [rowO_en]
    refine wss_cons <| ws_if <| wt_cmp <| we_fld <| we_var 0 rfl rfl ⟨_, _, _, .inl rfl, cl, n1, rfl, we_non <| b_notN (fun G v h => nonN h) ⟨_, rfl, fun h => (by cases h), fun _ => wss_nil ?_⟩⟩
    refine wss_cons <| ws_set 1 nd rfl <| we_lst <| wa_cons <| we_str <| wa_starT <| we_fld <| we_var 0 rfl rfl ⟨_, _, _, .inl rfl, cl, n2, rfl, _, rfl, wa_cons <| we_str <| wa_starT <| we_fld <| we_var 0 rfl rfl ⟨_, _, _, .inl rfl, cl, n3, rfl, _, rfl, wa_cons <| we_str <| wa_starT <| we_fld <| we_var 0 rfl rfl ⟨_, _, _, .inl rfl, cl, n4, rfl, _, rfl, wa1 <| we_str ⟨by simp; omega, ?_⟩⟩⟩⟩
    have ew : (D.str wO :: (l.map D.str ++ (D.str wC :: (mi.map D.str ++ (D.str wO :: (r.map D.str ++ [D.str wC])))))) = ([wO] ++ l ++ [wC] ++ mi ++ [wO] ++ r ++ [wC]).map D.str := by simp
    have ew2 : (wordsOf (wR l mi r st)) = ([wO] ++ l ++ [wC] ++ mi ++ [wO] ++ r ++ [wC]) ++ (if st = 0 then [] else [wA, numI st]) := rfl
    rw [show (some (D.lst (D.str wO :: (l.map D.str ++ (D.str wC :: (mi.map D.str ++ (D.str wO :: (r.map D.str ++ [D.str wC])))))))) = some (D.lst (([wO] ++ l ++ [wC] ++ mi ++ [wO] ++ r ++ [wC]).map D.str)) by rw [ew]]
    unfold rowText at hQ
    rw [ew2] at hQ
    generalize ([wO] ++ l ++ [wC] ++ mi ++ [wO] ++ r ++ [wC]) = ws at *
    refine wss_cons <| ws_if <| wt_cmp <| we_fld <| we_var 0 rfl rfl ⟨_, _, _, .inl rfl, cl, n5, rfl, we_int <| b_eqI hr ⟨_, rfl, fun h => ?_, fun h => wss_nil ?_⟩⟩
    · rw [if_pos (of_decide_eq_true h), List.append_nil] at hQ
      exact wss_one <| ws_ret <| we_join <| we_str ⟨_, rfl, we_var 1 rfl rfl ⟨ws, rfl, jf.1, hQ⟩⟩
    · rw [if_neg (of_decide_eq_false h), ← at_text hne] at hQ
      have s1' : -B ≤ st := s1
      have s2' : st ≤ B := s2
      have hnl := (num_read (i := st) (by omega) (by omega)).2
      have jl : (Txt.join (Str.ofString " ") ws).length ≤ 3000 := jf.2
      have q1 : (" at " : Str).length = 4 := by decide +kernel
      refine wss_one <| ws_ret <| we_joined <| we_fmt <| we_join <| we_str ⟨_, rfl, we_var 1 rfl rfl ⟨ws, rfl, jf.1, .inl ⟨_, rfl, by omega, _, rfl, ?_, we_str ⟨_, rfl, ?_, we_fmt <| we_fld <| we_var 0 rfl rfl ⟨_, _, _, .inl rfl, cl, n5, rfl, .inr ⟨st, rfl, ?_, _, rfl, ?_, ?_⟩⟩⟩⟩⟩⟩
      · rw [eapp]; omega
      · rw [eapp, la, q1]; omega
      · exact Nat.lt_trans (PySem.Flt.log2_lt_of (k := 62) (by decide) (by omega)) (by decide)
      · rw [eapp, la, la, q1]
        have : (Str.ofString (toString st)).length ≤ 19 := hnl
        omega
      · show Q (.str _) M
        rw [eapp]
        exact hQ
theorem sc_str : FnScope ["self"] ["self"] d_Row___str__.scope := ⟨rfl, rfl, rfl, by decide +kernel, rfl, by decide +kernel, by decide +kernel⟩
theorem met_str (m : Md K mg base) : MetD P w K mg base 2 (CR K) "__str__" (spText K) [] := by
  refine met_of (d := d_Row___str__) rfl (fd_Row___str__ m.c) (He.cls_ok (cls_Row m.c)) (He.meth_ok (meth_Row___str__ m.c)) sc_str (fun xs M Q ⟨a, b, e, _⟩ => by rw [e]; rfl) (fun _ _ _ _ _ _ us hl => match us, hl with | [_], _ => rfl) ?_
  rintro cdv A outer s H E hr xs M Q ⟨B, R, rfl, ko, hB, hQ⟩
  have fstr : mg "str" = none := He.free_ok m.i m.n (free_str m.c)
  exact wss_one <| ws_ret <| we_t1 fstr bb_str <| we_met0 (met_text m) hr (by decide) <| we_var 0 rfl rfl ⟨_, .inl rfl, (by unfold rowF; split <;> rfl), B, R, rfl, ko, hB, c_strS hQ⟩
end
end K03

namespace K03
open PySem PySem.Spec L2 DL

local macro_rules | `(tactic| walk_at "dl") => `(tactic| first
  | ((with_reducible show WE _ _ (.Constant _ _ _) _ _ _); first | refine we_int ?_ | refine we_str ?_ | refine we_bl ?_ | refine we_non ?_)
  | ((with_reducible show WE _ _ (.Name _ _) _ _ _); first | refine we_var 0 rfl rfl ?_ | refine we_var 1 rfl rfl ?_ | refine we_var 2 rfl rfl ?_ | refine we_var 3 rfl rfl ?_ | refine we_var 4 rfl rfl ?_ | refine we_var 5 rfl rfl ?_ | refine we_var 6 rfl rfl ?_ | refine we_var 7 rfl rfl ?_ | refine we_var 8 rfl rfl ?_ | refine we_var 9 rfl rfl ?_ | refine we_var 10 rfl rfl ?_ | refine we_var 11 rfl rfl ?_ | refine we_var 12 rfl rfl ?_ | refine we_var 13 rfl rfl ?_ | refine we_var 14 rfl rfl ?_ | refine we_var 15 rfl rfl ?_)
  | ((with_reducible show WE _ _ (.BinOp _ _ _ _) _ _ _); refine we_bin ?_)
  | ((with_reducible show WE _ _ (.Compare _ [_] [_] _) _ _ _); refine we_cmp ?_)
  | ((with_reducible show WT _ _ (.Compare _ [_] [_] _) _ _ _); refine wt_cmp ?_)
  | ((with_reducible show WE _ _ (.UnaryOp .USub _ _) _ _ _); refine we_un ?_)
  | ((with_reducible show WT _ _ (.UnaryOp .Not _ _) _ _ _); refine wt_not ?_)
  | ((with_reducible show WE _ _ (.IfExp _ _ _ _) _ _ _); refine we_ifx ?_)
  | ((with_reducible show WE _ _ (.Subscript _ (.Name _ _) _) _ _ _); refine we_ix ?_)
  | ((with_reducible show WE _ _ (.Subscript _ (.Constant _ _ _) _) _ _ _); refine we_ix ?_)
  | ((with_reducible show WE _ _ (.Subscript _ (.Subscript _ _ _) _) _ _ _); refine we_ix ?_)
  | ((with_reducible show WE _ _ (.Subscript _ (.BinOp _ _ _ _) _) _ _ _); refine we_ix ?_)
  | ((with_reducible show WE _ _ (.Subscript _ (.UnaryOp _ _ _) _) _ _ _); refine we_ix ?_)
  | ((with_reducible show WE _ _ (.Subscript _ (.Call _ _ _ _) _) _ _ _); refine we_ix ?_)
  | ((with_reducible show WE _ _ (.Call (.Name "len" _) [_] [] _) _ _ _); refine we_b1 (by assumption) bb_len ?_)
  | ((with_reducible show WE _ _ (.Call (.Name "abs" _) [_] [] _) _ _ _); refine we_b1 (by assumption) bb_abs ?_)
  | ((with_reducible show WE _ _ (.Call (.Name "int" _) [_] [] _) _ _ _); refine we_t1 (by assumption) bb_int ?_)
  | ((with_reducible show WE _ _ (.Call (.Name "list" _) [_] [] _) _ _ _); refine we_t1 (by assumption) bb_list ?_)
  | ((with_reducible show WE _ _ (.Call (.Name "tuple" _) [_] [] _) _ _ _); refine we_t1 (by assumption) bb_tuple ?_)
  | ((with_reducible show WE _ _ (.Call (.Name "str" _) [_] [] _) _ _ _); refine we_t1 (by assumption) bb_str ?_)
  | ((with_reducible show WE _ _ (.Call (.Name "set" _) [_] [] _) _ _ _); refine we_t1 (by assumption) bb_set ?_)
  | ((with_reducible show WE _ _ (.Call (.Name "sorted" _) [_] [] _) _ _ _); refine we_b1 (by assumption) bb_sorted ?_)
  | ((with_reducible show WE _ _ (.Call (.Name "isinstance" _) [_, _] [] _) _ _ _); refine we_b2 (by assumption) bb_isinstance ?_)
  | ((with_reducible show WE _ _ (.Call (.Name "max" _) [_] [] _) _ _ _); refine we_b1 (by assumption) bb_max ?_)
  | ((with_reducible show WE _ _ (.Call (.Name "min" _) [_] [] _) _ _ _); refine we_b1 (by assumption) bb_min ?_)
  | ((with_reducible show WE _ _ (.Call (.Name "max" _) [_, _] [] _) _ _ _); refine we_b2 (by assumption) bb_max ?_)
  | ((with_reducible show WE _ _ (.Call (.Name "min" _) [_, _] [] _) _ _ _); refine we_b2 (by assumption) bb_min ?_)
  | ((with_reducible show BinG _ _ (binaryOp .Add) (.int _) (.int _) _ _); refine b_add ?_)
  | ((with_reducible show BinG _ _ (binaryOp .Sub) (.int _) (.int _) _ _); refine b_sub ?_)
  | ((with_reducible show BinG _ _ (binaryOp .Mod) (.int _) (.int _) _ _); refine b_mod (by omega) ?_)
  | ((with_reducible show BinG _ _ (binaryOp .FloorDiv) (.int _) (.int _) _ _); refine b_div ⟨by omega, by omega⟩ ?_)
  | ((with_reducible show BinG _ _ (binaryOp .Mult) (.int _) (.int _) _ _); first | refine b_mul (.inr ⟨by omega, by omega⟩) ?_ | refine b_mul (.inl ⟨by omega, by omega⟩) ?_)
  | ((with_reducible show BinG _ _ (compareOp .Lt) (.int _) (.int _) _ _); refine b_lt ?_)
  | ((with_reducible show BinG _ _ (compareOp .LtE) (.int _) (.int _) _ _); refine b_le ?_)
  | ((with_reducible show BinG _ _ (compareOp .Gt) (.int _) (.int _) _ _); refine b_gt ?_)
  | ((with_reducible show BinG _ _ (compareOp .GtE) (.int _) (.int _) _ _); refine b_ge ?_)
  | ((with_reducible show BinG _ _ (compareOp .Eq) (.int _) (.int _) _ _); refine b_eqI (by assumption) ?_)
  | ((with_reducible show BinG _ _ (compareOp .NotEq) (.int _) (.int _) _ _); refine b_neI (by assumption) ?_)
  | ((with_reducible show UnG _ _ (unaryOp .USub) (.int _) _ _); refine b_neg ?_)
  | (with_reducible refine ex_bl ?_)
  | ((with_reducible show CallG _ _ (.type "int") [.int _] _ _); refine c_int ?_)
  | ((with_reducible show CallG _ _ (.type "int") [.bl _] _ _); refine c_intB ?_)
  | ((with_reducible show CallG _ _ (.builtin "abs") _ _ _); refine c_abs ?_)
  | ((with_reducible show CallG _ _ (.builtin "len") [.lst _] _ _); refine c_len ?_)
  | ((with_reducible show CallG _ _ (.builtin "len") [.tup _] _ _); refine c_lenT ?_)
  | ((with_reducible show CallG _ _ (.builtin "len") [.raw _] _ _); refine c_lenM (by first | assumption | exact updM_same) ?_)
  | ((with_reducible show CallG _ _ (.type "list") [.tup _] _ _); refine c_listT ?_)
  | ((with_reducible show CallG _ _ (.type "tuple") [.lst _] _ _); refine c_tuple ?_)
  | ((with_reducible show CallG _ _ (.type "tuple") [.tup _] _ _); refine c_tupleT ?_)
  | ((with_reducible show CallG _ _ (.builtin "max") [.int _, .int _] _ _); refine c_max2 rfl ?_)
  | ((with_reducible show CallG _ _ (.builtin "min") [.int _, .int _] _ _); refine c_min2 rfl ?_)
  | ((with_reducible show IxG _ _ (.tup _) _ _ _); refine ix_tupD rfl ?_)
  | ((with_reducible show IxG _ _ (.raw _) _ _ _); refine ix_mlst (by first | assumption | exact updM_same) rfl ?_)
  | ((with_reducible show WA _ _ (_ :: _) _ _ _); refine wa_cons ?_)
  | ((with_reducible show WA _ _ [] _ _ _); refine wa_nil ?_))
section
variable {P : Program} {w : World} {K : PySem.W.Frag} {mg : Str → Option Value} {base : Heap}
theorem gA {α : Type} {a b : List α} {i : Nat} {d : α} (h : i < a.length) : (a ++ b).getD i d = a.getD i d := by
  rw [List.getD_eq_getElem?_getD, List.getD_eq_getElem?_getD, List.getElem?_append_left h]
theorem gB {α : Type} {a b : List α} {k : Nat} {d : α} {i : Nat} (h : i = a.length + k) : (a ++ b).getD i d = b.getD k d := by
  rw [List.getD_eq_getElem?_getD, List.getD_eq_getElem?_getD, h, List.getElem?_append_right (by omega), Nat.add_sub_cancel_left]
theorem nm_ne : ∀ x ∈ NM, x ≠ wC ∧ x ≠ wO ∧ x ≠ wA := fun x hx => by
  simp only [NM, List.mem_cons, List.not_mem_nil, or_false] at hx
  rcases hx with rfl | rfl | rfl <;> decide +kernel
theorem take_snoc {l : List Str} {j : Nat} (h : j < l.length) : (l.take j).map D.str ++ [D.str (l.getD j default)] = (l.take (j + 1)).map D.str := by
  have e : l.getD j default = l[j] := by rw [List.getD_eq_getElem?_getD, List.getElem?_eq_getElem h]; rfl
  rw [e, List.take_succ_eq_append_getElem h, List.map_append]
  rfl
/-! ### _read_round -/
def spRound : SpD := fun xs M Q => ∃ (W : List Str) (i : Nat) (l : List Str), xs = [.lst (W.map D.str), .int (i : Int)] ∧ i + 1 + l.length < W.length ∧ W.length ≤ 1000 ∧ W.getD i default = wO ∧ 0 < l.length ∧ (∀ k, k < l.length → W.getD (i + 1 + k) default = l.getD k default) ∧ (∀ x ∈ l, x ∈ NM) ∧ W.getD (i + 1 + l.length) default = wC ∧
  Q (.tup [.lst (l.map D.str), .int ((i + l.length + 2 : Nat) : Int)]) M
theorem sc_round : FnScope ["words", "at", "arrows", "place"] ["words", "at"] d__read_round.scope := ⟨rfl, rfl, rfl, by decide +kernel, rfl, by decide +kernel, by decide +kernel⟩
theorem cal_round (m : Md K mg base) : CalD P w K mg base 2 "_read_round" spRound [] := by
  refine cal_of (d := d__read_round) rfl (fd__read_round m.c) (He.glo_ok m.i m.n (glo__read_round m.c)) sc_round (fun xs M Q ⟨a, b, c, e, _⟩ => by rw [e]; rfl) (fun _ _ _ _ _ _ us hl => match us, hl with | [_, _], _ => rfl) ?_
  rintro cdv A outer s H E hr xs M Q ⟨W, i, l, rfl, h1, h2, h3, h4, h5, h6, h7, hQ⟩
  have nd := sc_round.nd
  have flen : mg "len" = none := He.free_ok m.i m.n (free_len m.c)
  have frange : mg "range" = none := He.free_ok m.i m.n (free_range m.c)
  have hsz : sizeLine = 16777216 := sizeLine_eq
  refine wss_cons <| ws_if <| wt_w <| ww_or <| wt_cmp <| we_var 1 rfl rfl <| we_b1 flen bb_len <| we_var 0 rfl rfl <| c_len <| b_eqI hr ⟨_, rfl, fun h => ?_, fun _ => ?_⟩
  · have := of_decide_eq_true h
    rw [List.length_map] at this
    omega
  refine ww_or1 <| wt_cmp <| we_ix <| we_var 0 rfl rfl <| we_var 1 rfl rfl <| ix_lst (atI_str (by omega) (by omega)) <| we_str <| b_neS ⟨_, rfl, fun h => ?_, fun _ => wss_nil ?_⟩
  · rw [Int.toNat_natCast, h3] at h
    exact absurd h (by decide +kernel)
  refine wss_cons <| ws_set 2 nd rfl <| we_lstM <| wa_nil ⟨sz rfl, fun q hq => ?_⟩
  refine wss_cut (fun _ _ => False) (ws_for (.nm 3) PassesOwn.never rfl (pgN nd rfl) <| wi_range2 frange <| wa2 <| we_bin <| we_var 1 rfl rfl <| we_int <| b_add <| we_b1 flen bb_len <| we_var 0 rfl rfl <| c_len ?_) (fun _ _ h => h.elim)
  rw [List.length_map]
  refine ⟨(i : Int) + 1, W.length, rfl, by omega, ?_⟩
  refine ⟨fun j ds1 M1 => j ≤ l.length ∧ (∃ o, ds1 = [some (.lst (W.map D.str)), some (.int (i : Int)), some (.raw (.ref q)), o]) ∧ M1 = updM M q (.lst ((l.take j).map D.str)), ⟨Nat.zero_le _, ⟨none, rfl⟩, rfl⟩, fun ds1 M1 h => ?_, ?_⟩
  · have := h.1
    omega
  rintro j ds1 M1 hj ⟨hj2, ⟨o, rfl⟩, rfl⟩
  refine ⟨_, rfl, ?_⟩
  have ix : (i : Int) + 1 + (j : Int) = ((i + 1 + j : Nat) : Int) := by omega
  by_cases e : j = l.length
  · subst e
    refine wss_cons <| ws_if <| wt_w <| ww_and <| wt_cmp <| we_ix <| we_var 0 rfl rfl <| we_var 3 rfl rfl <| ix_lst (atI_str (by omega) (by omega)) <| we_str <| b_eqS ⟨_, rfl, fun h => ?_, fun h => ?_⟩
    · refine ww_and1 <| wt_truth <| we_var 2 rfl rfl <| tru_mlst updM_same ⟨fun _ => ?_, fun h => ?_⟩
      · refine wss_freeze 2 rfl updM_same ?_
        rw [delM_updM' hq]
        refine wss_one <| ws_ret <| we_tup <| wa2 <| we_var 2 rfl rfl <| we_bin <| we_var 3 rfl rfl <| we_int <| b_add ⟨sz rfl, ?_⟩
        rw [List.take_length, show (i : Int) + 1 + (l.length : Int) + 1 = ((i + l.length + 2 : Nat) : Int) by omega]
        exact hQ
      · rw [List.take_length] at h
        cases l with
        | nil => cases h4
        | cons x r => cases h
    · rw [show ((i : Int) + 1 + (l.length : Int)).toNat = i + 1 + l.length by omega, h7] at h
      exact absurd h (by decide +kernel)
  · have hlt : j < l.length := by omega
    have hn := h6 _ (getD_mem hlt)
    have hw : W.getD ((i : Int) + 1 + (j : Int)).toNat default = l.getD j default := by
      rw [show ((i : Int) + 1 + (j : Int)).toNat = i + 1 + j by omega, h5 j hlt]
    refine wss_cons <| ws_if <| wt_w <| ww_and <| wt_cmp <| we_ix <| we_var 0 rfl rfl <| we_var 3 rfl rfl <| ix_lst (atI_str (by omega) (by omega)) <| we_str <| b_eqS ⟨_, rfl, fun h => ?_, fun h => ⟨fun h => (by cases h), fun _ => wss_nil ?_⟩⟩
    · rw [hw] at h
      exact absurd (of_decide_eq_true h) (nm_ne _ hn).1
    refine wss_cons <| ws_if <| wt_not <| wt_truth <| we_cal (cal_name m) hr (by decide) <| wa1 <| we_ix <| we_var 0 rfl rfl <| we_var 3 rfl rfl <| ix_lst (atI_str (by omega) (by omega)) ?_
    rw [hw]
    refine ⟨_, rfl, .inl ⟨hn, tru_is rfl ⟨fun h => (by cases h), fun _ => wss_nil ?_⟩⟩⟩
    refine wss_one <| ws_expr <| we_append <| we_var 2 rfl rfl ⟨q, _, rfl, updM_same, we_ix <| we_var 0 rfl rfl <| we_var 3 rfl rfl <| ix_lst (atI_str (by omega) (by omega)) ⟨_, updM_same, by rw [List.length_map, List.length_take]; omega, ?_⟩⟩
    rw [updM_updM, hw, take_snoc hlt]
    exact ⟨by omega, ⟨_, rfl⟩, rfl⟩
/-! ### _read_start -/
def spStart : SpD := fun xs M Q => ∃ (W : List Str) (i : Nat) (st : Int), xs = [.lst (W.map D.str), .int (i : Int)] ∧ W.length ≤ 1000 ∧ ((i = W.length ∧ st = 0) ∨ (W.length = i + 2 ∧ W.getD i default = wA ∧ W.getD (i + 1) default = numI st ∧ -(10 ^ 18) < st ∧ st < 10 ^ 18)) ∧ Q (.int st) M
theorem sc_start : FnScope ["words", "at"] ["words", "at"] d__read_start.scope := ⟨rfl, rfl, rfl, by decide +kernel, rfl, by decide +kernel, by decide +kernel⟩
theorem cal_start (m : Md K mg base) : CalD P w K mg base 3 "_read_start" spStart [] := by
  refine cal_of (d := d__read_start) rfl (fd__read_start m.c) (He.glo_ok m.i m.n (glo__read_start m.c)) sc_start (fun xs M Q ⟨a, b, c, e, _⟩ => by rw [e]; rfl) (fun _ _ _ _ _ _ us hl => match us, hl with | [_, _], _ => rfl) ?_
  rintro cdv A outer s H E hr xs M Q ⟨W, i, st, rfl, hl, hc, hQ⟩
  have flen : mg "len" = none := He.free_ok m.i m.n (free_len m.c)
  have fint : mg "int" = none := He.free_ok m.i m.n (free_int m.c)
  refine wss_cons <| ws_if <| wt_cmp <| we_var 1 rfl rfl <| we_b1 flen bb_len <| we_var 0 rfl rfl <| c_len <| b_eqI hr ⟨_, rfl, fun h => ?_, fun h => wss_nil ?_⟩
  · have := of_decide_eq_true h
    rw [List.length_map] at this
    rcases hc with ⟨_, e⟩ | ⟨h1, _⟩
    · rw [e] at hQ
      exact wss_one <| ws_ret <| we_int hQ
    · omega
  have h := of_decide_eq_false h
  rw [List.length_map] at h
  rcases hc with ⟨e, _⟩ | ⟨h1, h2, h3, h4, h5⟩
  · omega
  refine wss_cons <| ws_if <| wt_cmp <| we_ix <| we_var 0 rfl rfl <| we_var 1 rfl rfl <| ix_lst (atI_str (by omega) (by omega)) <| we_str <| b_neS ⟨_, rfl, fun h => ?_, fun _ => wss_nil ?_⟩
  · rw [Int.toNat_natCast, h2] at h
    exact absurd h (by decide +kernel)
  have e1 : ((i : Int) + 1).toNat = i + 1 := by omega
  refine wss_cons <| ws_if <| wt_w <| ww_or <| wt_cmp <| we_bin <| we_var 1 rfl rfl <| we_int <| b_add <| we_b1 flen bb_len <| we_var 0 rfl rfl <| c_len <| b_eqI hr ⟨_, rfl, fun h => ?_, fun _ => ?_⟩
  · have := of_decide_eq_true h
    rw [List.length_map] at this
    omega
  refine ww_or1 <| wt_not <| wt_truth <| we_cal (cal_time m) hr (by decide) <| wa1 <| we_ix <| we_var 0 rfl rfl <| we_bin <| we_var 1 rfl rfl <| we_int <| b_add <| ix_lst (atI_str (by omega) (by omega)) ?_
  rw [e1, h3]
  refine ⟨st, rfl, h4, h5, tru_is rfl ⟨fun h => (by cases h), fun _ => wss_nil ?_⟩⟩
  refine wss_cons <| ws_if <| wt_cmp <| we_bin <| we_var 1 rfl rfl <| we_int <| b_add <| we_b1 flen bb_len <| we_var 0 rfl rfl <| c_len <| b_lt ⟨_, rfl, fun h => ?_, fun _ => wss_nil ?_⟩
  · have := of_decide_eq_true h
    rw [List.length_map] at this
    omega
  refine wss_one <| ws_ret <| we_t1 fint bb_int <| we_ix <| we_var 0 rfl rfl <| we_bin <| we_var 1 rfl rfl <| we_int <| b_add <| ix_lst (atI_str (by omega) (by omega)) ?_
  rw [e1, h3]
  have := num_read h4 h5
  exact c_intS this.1 (by omega) hQ
/-! ### read_row -/
def spRead (K : PySem.W.Frag) : SpD := fun xs M Q => ∃ B R, xs = [.str (rowText R)] ∧ Ko B R ∧ B < 10 ^ 18 ∧ ∀ R', Cn R.at R' → Q (rowO K R') M
theorem sc_read : FnScope ["text", "words", "left", "at", "middle", "right"] ["text"] d_read_row.scope := ⟨rfl, rfl, rfl, by decide +kernel, rfl, by decide +kernel, by decide +kernel⟩
theorem cal_read (m : Md K mg base) : CalD P w K mg base 6 "read_row" (spRead K) [] := by
  refine cal_of (d := d_read_row) rfl (fd_read_row m.c) (He.glo_ok m.i m.n (glo_read_row m.c)) sc_read (fun xs M Q ⟨a, b, e, _⟩ => by rw [e]; rfl) (fun _ _ _ _ _ _ us hl => match us, hl with | [_], _ => rfl) ?_
  rintro cdv A outer s H E hr xs M Q ⟨B, R, rfl, ko, hB, hQ⟩
  have nd := sc_read.nd
  have flen : mg "len" = none := He.free_ok m.i m.n (free_len m.c)
  have hsz : sizeLine = 16777216 := sizeLine_eq
  have ww := words_wd ko hB
  have wl := words_len ko
  have jf := join_fit ww (by omega)
  have s1 := ko.s1
  have s2 := ko.s2
  have k1 := ko.l1
  have k2 := ko.m1
  have k3 := ko.r1
  have q1 : ((" " : Str).length == 0) = false := by decide +kernel
  have hT : (rowText R).length + 2 ≤ sizeLine := by
    have : (rowText R).length ≤ 3000 := jf.2
    omega
  refine wss_cons <| ws_set 1 nd rfl <| we_split <| we_var 0 rfl rfl ⟨_, rfl, hT, we_str ⟨_, rfl, q1, ?_⟩⟩
  rw [show Txt.split (rowText R) (" " : Str) = wordsOf R from split_words ww wl.2]
  rcases ko_cases ko with ⟨l, rfl⟩ | ⟨l, mi, r, st, rfl⟩
  · have hl0 : 0 < l.length := ko.l0
    have hl1 : l.length ≤ 30 := k1
    have e : wordsOf (rg l) = [wO] ++ l ++ [wC] := rfl
    rw [e]
    have hlen : ([wO] ++ l ++ [wC]).length = l.length + 2 := by simp
    refine wss_cons <| ws_asg (.tp [2, 3]) (pg_tup rfl <| pgs_cons (pgN nd rfl) <| pgs_cons (pgN nd rfl) pgs_nil) <| we_cal (cal_round m) hr (by decide) <| wa2 <| we_var 1 rfl rfl <| we_int ⟨_, 0, l, rfl, by omega, by omega, rfl, hl0, fun k hk => ?_, ko.nl, ?_, _, rfl, ?_⟩
    · rw [gA (by simp; omega), gB (k := k) (by simp)]
    · rw [gB (k := 0) (by simp; omega)]
      rfl
    refine wss_cons <| ws_if <| wt_cmp <| we_var 3 rfl rfl <| we_b1 flen bb_len <| we_var 1 rfl rfl <| c_len <| b_eqI hr ⟨_, rfl, fun _ => ?_, fun h => ?_⟩
    · exact wss_one <| ws_ret <| we_cal (cal_ring m) hr (by decide) <| wa1 <| we_var 2 rfl rfl ⟨l, rfl, hl0, by omega, hQ⟩
    · have := of_decide_eq_false h
      rw [List.length_map] at this
      omega
  · have hl0 : 0 < l.length := ko.l0
    have hr0 : 0 < r.length := ko.r0
    have hl1 : l.length ≤ 30 := k1
    have hm1 : mi.length ≤ 60 := k2
    have hr1 : r.length ≤ 30 := k3
    have s1' : -B ≤ st := s1
    have s2' : st ≤ B := s2
    have e : wordsOf (wR l mi r st) = [wO] ++ (l ++ ([wC] ++ (mi ++ ([wO] ++ (r ++ ([wC] ++ (if st = 0 then [] else [wA, numI st]))))))) := by
      show [wO] ++ l ++ [wC] ++ mi ++ [wO] ++ r ++ [wC] ++ _ = _
      simp only [List.append_assoc]
    rw [e] at wl ⊢
    have tlen : (if st = 0 then [] else [wA, numI st] : List Str).length ≤ 2 := by split <;> simp
    generalize htl : (if st = 0 then [] else [wA, numI st] : List Str) = tl at *
    generalize hW : [wO] ++ (l ++ ([wC] ++ (mi ++ ([wO] ++ (r ++ ([wC] ++ tl)))))) = W at *
    have hlen : W.length = l.length + mi.length + r.length + tl.length + 4 := by rw [← hW]; simp; omega
    have g1 : ∀ k, k < l.length → W.getD (1 + k) default = l.getD k default := fun k hk => by rw [← hW, gB (k := k) (by simp), gA hk]
    have g2 : W.getD (1 + l.length) default = wC := by rw [← hW, gB (k := l.length) (by simp), gB (k := 0) (by omega)]; rfl
    have g3 : ∀ k, k < mi.length → W.getD (l.length + 2 + k) default = mi.getD k default := fun k hk => by rw [← hW, gB (k := l.length + 1 + k) (by simp; omega), gB (k := 1 + k) (by omega), gB (k := k) (by simp), gA hk]
    have g4 : W.getD (l.length + 2 + mi.length) default = wO := by rw [← hW, gB (k := l.length + 1 + mi.length) (by simp; omega), gB (k := 1 + mi.length) (by omega), gB (k := mi.length) (by simp), gB (k := 0) (by omega)]; rfl
    have g5 : ∀ k, k < r.length → W.getD (l.length + 2 + mi.length + 1 + k) default = r.getD k default := fun k hk => by rw [← hW, gB (k := l.length + 1 + mi.length + 1 + k) (by simp; omega), gB (k := 1 + mi.length + 1 + k) (by omega), gB (k := mi.length + 1 + k) (by simp; omega), gB (k := 1 + k) (by omega), gB (k := k) (by simp), gA hk]
    have g6 : ∀ k, W.getD (l.length + 2 + mi.length + 1 + r.length + k) default = ([wC] ++ tl).getD k default := fun k => by rw [← hW, gB (k := l.length + 1 + mi.length + 1 + r.length + k) (by simp; omega), gB (k := 1 + mi.length + 1 + r.length + k) (by omega), gB (k := mi.length + 1 + r.length + k) (by simp; omega), gB (k := 1 + r.length + k) (by omega), gB (k := r.length + k) (by simp; omega), gB (k := k) (by omega)]
    refine wss_cons <| ws_asg (.tp [2, 3]) (pg_tup rfl <| pgs_cons (pgN nd rfl) <| pgs_cons (pgN nd rfl) pgs_nil) <| we_cal (cal_round m) hr (by decide) <| wa2 <| we_var 1 rfl rfl <| we_int ⟨W, 0, l, rfl, by omega, by omega, ?_, hl0, fun k hk => ?_, ko.nl, ?_, _, rfl, ?_⟩
    · rw [← hW]; rfl
    · rw [Nat.zero_add]; exact g1 k hk
    · rw [Nat.zero_add]; exact g2
    refine wss_cons <| ws_if <| wt_cmp <| we_var 3 rfl rfl <| we_b1 flen bb_len <| we_var 1 rfl rfl <| c_len <| b_eqI hr ⟨_, rfl, fun h => ?_, fun _ => wss_nil ?_⟩
    · have := of_decide_eq_true h
      rw [List.length_map] at this
      omega
    refine wss_cons <| ws_set 4 nd rfl <| we_lstM <| wa_nil ⟨sz rfl, fun q hq => ?_⟩
    refine wss_cut (fun ds1 M1 => ds1 = [some (.str (rowText (wR l mi r st))), some (.lst (W.map D.str)), some (.lst (l.map D.str)), some (.int ((l.length + 2 + mi.length : Nat) : Int)), some (.raw (.ref q)), none] ∧ M1 = updM M q (.lst (mi.map D.str)))
      (ws_while (fun mm ds1 M1 => ∃ j : Nat, ds1 = [some (.str (rowText (wR l mi r st))), some (.lst (W.map D.str)), some (.lst (l.map D.str)), some (.int ((l.length + 2 + j : Nat) : Int)), some (.raw (.ref q)), none] ∧ M1 = updM M q (.lst ((mi.take j).map D.str)) ∧ j ≤ mi.length ∧ mm = mi.length - j) PassesOwn.never ⟨_, 0, ?_, rfl, by omega, rfl⟩ ?_) ?_
    · rw [show 0 + l.length + 2 = l.length + 2 + 0 by omega]; rfl
    · rintro mm ds1 M1 ⟨j, rfl, rfl, hj, hmm⟩
      refine wt_w <| ww_and <| wt_cmp <| we_var 3 rfl rfl <| we_b1 flen bb_len <| we_var 1 rfl rfl <| c_len <| b_lt ⟨_, rfl, fun _ => ?_, fun h => ?_⟩
      · refine ww_and1 <| wt_truth <| we_cal (cal_name m) hr (by decide) <| wa1 <| we_ix <| we_var 1 rfl rfl <| we_var 3 rfl rfl <| ix_lst (atI_str (by omega) (by omega)) ?_
        rw [Int.toNat_natCast]
        by_cases c : j = mi.length
        · rw [c, g4]
          refine ⟨_, rfl, .inr ⟨rfl, tru_is rfl ⟨fun h => (by cases h), fun _ => ⟨rfl, ?_⟩⟩⟩⟩
          rw [List.take_length]
        · have hlt : j < mi.length := by omega
          rw [g3 j hlt]
          refine ⟨_, rfl, .inl ⟨ko.nm _ (getD_mem hlt), tru_is rfl ⟨fun _ => ?_, fun h => (by cases h)⟩⟩⟩
          refine wss_cons <| ws_expr <| we_append <| we_var 4 rfl rfl ⟨q, _, rfl, updM_same, we_ix <| we_var 1 rfl rfl <| we_var 3 rfl rfl <| ix_lst (atI_str (by omega) (by omega)) ⟨_, updM_same, by rw [List.length_map, List.length_take]; omega, ?_⟩⟩
          rw [updM_updM, Int.toNat_natCast, g3 j hlt, take_snoc hlt]
          exact wss_one <| ws_aug 3 nd rfl rfl <| we_int <| bi_add ⟨mi.length - (j + 1), by omega, j + 1, rfl, rfl, by omega, rfl⟩
      · have := of_decide_eq_false h
        rw [List.length_map] at this
        omega
    rintro ds1 M1 ⟨rfl, rfl⟩
    refine wss_freeze 4 rfl updM_same ?_
    rw [delM_updM' hq]
    refine wss_cons <| ws_asg (.tp [5, 3]) (pg_tup rfl <| pgs_cons (pgN nd rfl) <| pgs_cons (pgN nd rfl) pgs_nil) <| we_cal (cal_round m) hr (by decide) <| wa2 <| we_var 1 rfl rfl <| we_var 3 rfl rfl ⟨W, l.length + 2 + mi.length, r, rfl, by omega, by omega, g4, hr0, g5, ko.nr, g6 0, _, rfl, ?_⟩
    refine wss_one <| ws_ret <| we_cal (cal_ended m) hr (by decide) <| wa_cons <| we_var 2 rfl rfl <| wa3 <| we_var 4 rfl rfl <| we_var 5 rfl rfl <| we_cal (cal_start m) hr (by decide) <| wa2 <| we_var 1 rfl rfl <| we_var 3 rfl rfl ⟨W, l.length + 2 + mi.length + r.length + 2, st, rfl, by omega, ?_, l, mi, r, _, st, rfl, .inl rfl, hl0, by omega, by omega, hr0, by omega, by omega, by omega, hQ⟩
    by_cases c : st = 0
    · rw [if_pos c] at htl
      subst htl
      exact .inl ⟨by rw [hlen]; simp; omega, c⟩
    · rw [if_neg c] at htl
      subst htl
      refine .inr ⟨by rw [hlen]; simp; omega, ?_, ?_, by omega, by omega⟩
      · have := g6 1
        rw [show l.length + 2 + mi.length + 1 + r.length + 1 = l.length + 2 + mi.length + r.length + 2 by omega] at this
        rw [this]; rfl
      · have := g6 2
        rw [show l.length + 2 + mi.length + 1 + r.length + 2 = l.length + 2 + mi.length + r.length + 2 + 1 by omega] at this
        rw [this]; rfl
end
end K03

namespace K03
open PySem PySem.Spec L2 DL

local macro_rules | `(tactic| walk_at "dl") => `(tactic| first
  | ((with_reducible show WE _ _ (.Constant _ _ _) _ _ _); first | refine we_int ?_ | refine we_str ?_ | refine we_bl ?_ | refine we_non ?_)
  | ((with_reducible show WE _ _ (.Name _ _) _ _ _); first | refine we_var 0 rfl rfl ?_ | refine we_var 1 rfl rfl ?_ | refine we_var 2 rfl rfl ?_ | refine we_var 3 rfl rfl ?_ | refine we_var 4 rfl rfl ?_ | refine we_var 5 rfl rfl ?_ | refine we_var 6 rfl rfl ?_ | refine we_var 7 rfl rfl ?_ | refine we_var 8 rfl rfl ?_ | refine we_var 9 rfl rfl ?_ | refine we_var 10 rfl rfl ?_ | refine we_var 11 rfl rfl ?_ | refine we_var 12 rfl rfl ?_ | refine we_var 13 rfl rfl ?_ | refine we_var 14 rfl rfl ?_ | refine we_var 15 rfl rfl ?_)
  | ((with_reducible show WE _ _ (.BinOp _ _ _ _) _ _ _); refine we_bin ?_)
  | ((with_reducible show WE _ _ (.Compare _ [_] [_] _) _ _ _); refine we_cmp ?_)
  | ((with_reducible show WT _ _ (.Compare _ [_] [_] _) _ _ _); refine wt_cmp ?_)
  | ((with_reducible show WE _ _ (.UnaryOp .USub _ _) _ _ _); refine we_un ?_)
  | ((with_reducible show WT _ _ (.UnaryOp .Not _ _) _ _ _); refine wt_not ?_)
  | ((with_reducible show WE _ _ (.IfExp _ _ _ _) _ _ _); refine we_ifx ?_)
  | ((with_reducible show WE _ _ (.Subscript _ (.Name _ _) _) _ _ _); refine we_ix ?_)
  | ((with_reducible show WE _ _ (.Subscript _ (.Constant _ _ _) _) _ _ _); refine we_ix ?_)
  | ((with_reducible show WE _ _ (.Subscript _ (.Subscript _ _ _) _) _ _ _); refine we_ix ?_)
  | ((with_reducible show WE _ _ (.Subscript _ (.BinOp _ _ _ _) _) _ _ _); refine we_ix ?_)
  | ((with_reducible show WE _ _ (.Subscript _ (.UnaryOp _ _ _) _) _ _ _); refine we_ix ?_)
  | ((with_reducible show WE _ _ (.Subscript _ (.Call _ _ _ _) _) _ _ _); refine we_ix ?_)
  | ((with_reducible show WE _ _ (.Call (.Name "len" _) [_] [] _) _ _ _); refine we_b1 (by assumption) bb_len ?_)
  | ((with_reducible show WE _ _ (.Call (.Name "abs" _) [_] [] _) _ _ _); refine we_b1 (by assumption) bb_abs ?_)
  | ((with_reducible show WE _ _ (.Call (.Name "int" _) [_] [] _) _ _ _); refine we_t1 (by assumption) bb_int ?_)
  | ((with_reducible show WE _ _ (.Call (.Name "list" _) [_] [] _) _ _ _); refine we_t1 (by assumption) bb_list ?_)
  | ((with_reducible show WE _ _ (.Call (.Name "tuple" _) [_] [] _) _ _ _); refine we_t1 (by assumption) bb_tuple ?_)
  | ((with_reducible show WE _ _ (.Call (.Name "str" _) [_] [] _) _ _ _); refine we_t1 (by assumption) bb_str ?_)
  | ((with_reducible show WE _ _ (.Call (.Name "set" _) [_] [] _) _ _ _); refine we_t1 (by assumption) bb_set ?_)
  | ((with_reducible show WE _ _ (.Call (.Name "sorted" _) [_] [] _) _ _ _); refine we_b1 (by assumption) bb_sorted ?_)
  | ((with_reducible show WE _ _ (.Call (.Name "isinstance" _) [_, _] [] _) _ _ _); refine we_b2 (by assumption) bb_isinstance ?_)
  | ((with_reducible show WE _ _ (.Call (.Name "max" _) [_] [] _) _ _ _); refine we_b1 (by assumption) bb_max ?_)
  | ((with_reducible show WE _ _ (.Call (.Name "min" _) [_] [] _) _ _ _); refine we_b1 (by assumption) bb_min ?_)
  | ((with_reducible show WE _ _ (.Call (.Name "max" _) [_, _] [] _) _ _ _); refine we_b2 (by assumption) bb_max ?_)
  | ((with_reducible show WE _ _ (.Call (.Name "min" _) [_, _] [] _) _ _ _); refine we_b2 (by assumption) bb_min ?_)
  | ((with_reducible show BinG _ _ (binaryOp .Add) (.int _) (.int _) _ _); refine b_add ?_)
  | ((with_reducible show BinG _ _ (binaryOp .Sub) (.int _) (.int _) _ _); refine b_sub ?_)
  | ((with_reducible show BinG _ _ (binaryOp .Mod) (.int _) (.int _) _ _); refine b_mod (by omega) ?_)
  | ((with_reducible show BinG _ _ (binaryOp .FloorDiv) (.int _) (.int _) _ _); refine b_div ⟨by omega, by omega⟩ ?_)
  | ((with_reducible show BinG _ _ (binaryOp .Mult) (.int _) (.int _) _ _); first | refine b_mul (.inr ⟨by omega, by omega⟩) ?_ | refine b_mul (.inl ⟨by omega, by omega⟩) ?_)
  | ((with_reducible show BinG _ _ (compareOp .Lt) (.int _) (.int _) _ _); refine b_lt ?_)
  | ((with_reducible show BinG _ _ (compareOp .LtE) (.int _) (.int _) _ _); refine b_le ?_)
  | ((with_reducible show BinG _ _ (compareOp .Gt) (.int _) (.int _) _ _); refine b_gt ?_)
  | ((with_reducible show BinG _ _ (compareOp .GtE) (.int _) (.int _) _ _); refine b_ge ?_)
  | ((with_reducible show BinG _ _ (compareOp .Eq) (.int _) (.int _) _ _); refine b_eqI (by assumption) ?_)
  | ((with_reducible show BinG _ _ (compareOp .NotEq) (.int _) (.int _) _ _); refine b_neI (by assumption) ?_)
  | ((with_reducible show UnG _ _ (unaryOp .USub) (.int _) _ _); refine b_neg ?_)
  | (with_reducible refine ex_bl ?_)
  | ((with_reducible show CallG _ _ (.type "int") [.int _] _ _); refine c_int ?_)
  | ((with_reducible show CallG _ _ (.type "int") [.bl _] _ _); refine c_intB ?_)
  | ((with_reducible show CallG _ _ (.builtin "abs") _ _ _); refine c_abs ?_)
  | ((with_reducible show CallG _ _ (.builtin "len") [.lst _] _ _); refine c_len ?_)
  | ((with_reducible show CallG _ _ (.builtin "len") [.tup _] _ _); refine c_lenT ?_)
  | ((with_reducible show CallG _ _ (.builtin "len") [.raw _] _ _); refine c_lenM (by first | assumption | exact updM_same) ?_)
  | ((with_reducible show CallG _ _ (.type "list") [.tup _] _ _); refine c_listT ?_)
  | ((with_reducible show CallG _ _ (.type "tuple") [.lst _] _ _); refine c_tuple ?_)
  | ((with_reducible show CallG _ _ (.type "tuple") [.tup _] _ _); refine c_tupleT ?_)
  | ((with_reducible show CallG _ _ (.builtin "max") [.int _, .int _] _ _); refine c_max2 rfl ?_)
  | ((with_reducible show CallG _ _ (.builtin "min") [.int _, .int _] _ _); refine c_min2 rfl ?_)
  | ((with_reducible show IxG _ _ (.tup _) _ _ _); refine ix_tupD rfl ?_)
  | ((with_reducible show IxG _ _ (.raw _) _ _ _); refine ix_mlst (by first | assumption | exact updM_same) rfl ?_)
  | ((with_reducible show WA _ _ (_ :: _) _ _ _); refine wa_cons ?_)
  | ((with_reducible show WA _ _ [] _ _ _); refine wa_nil ?_))
section
variable {P : Program} {w : World} {K : PySem.W.Frag} {mg : Str → Option Value} {base : Heap}
def rowD (R : Rw Str) : D := .tup [.bl R.ring, .lst (R.l.map D.str), .lst (R.m.map D.str), .lst (R.r.map D.str), .int R.s]
/-! ### _law_at -/
def spLAt : SpD := fun xs M Q => ∃ R t, xs = [rowD R, .int t] ∧ Vr R ∧ Q (.str (R.at t)) M
theorem sc_lat : FnScope ["row", "t"] ["row", "t"] d__law_at.scope := ⟨rfl, rfl, rfl, by decide +kernel, rfl, by decide +kernel, by decide +kernel⟩
theorem cal_lat (m : Md K mg base) : CalD P w K mg base 1 "_law_at" spLAt [] := by
  refine cal_of (d := d__law_at) rfl (fd__law_at m.c) (He.glo_ok m.i m.n (glo__law_at m.c)) sc_lat (fun xs M Q ⟨a, b, e, _⟩ => by rw [e]; rfl) (fun _ _ _ _ _ _ us hl => match us, hl with | [_, _], _ => rfl) ?_
  rintro cdv A outer s H E hr xs M Q ⟨R, t, rfl, vr, hQ⟩
  have flen : mg "len" = none := He.free_ok m.i m.n (free_len m.c)
  have fint : mg "int" = none := He.free_ok m.i m.n (free_int m.c)
  have ht : ∀ (l : List Str) (x : Int), 0 < l.length → 0 ≤ x % (l.length : Int) ∧ x % (l.length : Int) < l.length := fun l x h => ⟨Int.emod_nonneg _ (by omega), Int.emod_lt_of_pos _ (by omega)⟩
  have l0 := vr.l0
  have r0 := vr.r0
  refine wss_cons <| ws_if <| wt_cmp <| we_var 1 rfl rfl <| we_ix <| we_var 0 rfl rfl <| we_int <| ix_tupD rfl <| b_lt ⟨_, rfl, fun c => ?_, fun c => wss_nil ?_⟩
  · have c := of_decide_eq_true c
    have h1 := ht R.l (t - R.s) l0
    refine wss_one <| ws_ret <| we_ix <| we_ix <| we_var 0 rfl rfl <| we_int <| ix_tupD rfl <| we_bin <| we_t1 fint bb_int <| we_bin <| we_var 1 rfl rfl <| we_ix <| we_var 0 rfl rfl <| we_int <| ix_tupD rfl <| b_sub <| c_int <| we_b1 flen bb_len <| we_ix <| we_var 0 rfl rfl <| we_int <| ix_tupD rfl <| c_len <| b_mod (by rw [List.length_map]; omega) ?_
    rw [List.length_map]
    refine ix_lst (atI_str h1.1 h1.2) ?_
    have e : R.at t = R.l.getD ((t - R.s) % (R.l.length : Int)).toNat default := by
      simp only [Rw.at]
      rw [if_pos c]
    rw [← e]
    exact hQ
  · have c := of_decide_eq_false c
    refine wss_cons <| ws_if <| wt_cmp <| we_bin <| we_var 1 rfl rfl <| we_ix <| we_var 0 rfl rfl <| we_int <| ix_tupD rfl <| b_sub <| we_b1 flen bb_len <| we_ix <| we_var 0 rfl rfl <| we_int <| ix_tupD rfl <| c_len <| b_lt ⟨_, rfl, fun c2 => ?_, fun c2 => wss_nil ?_⟩
    · have c2 := of_decide_eq_true c2
      rw [List.length_map] at c2
      refine wss_one <| ws_ret <| we_ix <| we_ix <| we_var 0 rfl rfl <| we_int <| ix_tupD rfl <| we_bin <| we_var 1 rfl rfl <| we_ix <| we_var 0 rfl rfl <| we_int <| ix_tupD rfl <| b_sub <| ix_lst (atI_str (by omega) (by omega)) ?_
      have e : R.at t = R.m.getD (t - R.s).toNat default := by
        simp only [Rw.at]
        rw [if_neg c, if_pos (by omega)]
      rw [← e]
      exact hQ
    · have c2 := of_decide_eq_false c2
      rw [List.length_map] at c2
      have h1 := ht R.r (t - R.s - R.m.length) r0
      refine wss_one <| ws_ret <| we_ix <| we_ix <| we_var 0 rfl rfl <| we_int <| ix_tupD rfl <| we_bin <| we_t1 fint bb_int <| we_bin <| we_bin <| we_var 1 rfl rfl <| we_ix <| we_var 0 rfl rfl <| we_int <| ix_tupD rfl <| b_sub <| we_b1 flen bb_len <| we_ix <| we_var 0 rfl rfl <| we_int <| ix_tupD rfl <| c_len <| b_sub <| c_int <| we_b1 flen bb_len <| we_ix <| we_var 0 rfl rfl <| we_int <| ix_tupD rfl <| c_len <| b_mod (by rw [List.length_map]; omega) ?_
      rw [List.length_map, List.length_map]
      refine ix_lst (atI_str h1.1 h1.2) ?_
      have e : R.at t = R.r.getD ((t - R.s - R.m.length) % (R.r.length : Int)).toNat default := by
        simp only [Rw.at]
        rw [if_neg c, if_neg (by omega)]
      rw [← e]
      exact hQ
/-! ### _law_made -/
def spMade (K : PySem.W.Frag) : SpD := fun xs M Q => ∃ B R, xs = [rowD R] ∧ Ko B R ∧ B ≤ 2 ^ 60 ∧ ∀ R', Cn R.at R' → Q (rowO K R') M
theorem sc_made : FnScope ["row"] ["row"] d__law_made.scope := ⟨rfl, rfl, rfl, by decide +kernel, rfl, by decide +kernel, by decide +kernel⟩
theorem cal_made (m : Md K mg base) : CalD P w K mg base 6 "_law_made" (spMade K) [] := by
  refine cal_of (d := d__law_made) rfl (fd__law_made m.c) (He.glo_ok m.i m.n (glo__law_made m.c)) sc_made (fun xs M Q ⟨a, b, e, _⟩ => by rw [e]; rfl) (fun _ _ _ _ _ _ us hl => match us, hl with | [_], _ => rfl) ?_
  rintro cdv A outer s H E hr xs M Q ⟨B, R, rfl, ko, hB, hQ⟩
  have flist : mg "list" = none := He.free_ok m.i m.n (free_list m.c)
  have ftuple : mg "tuple" = none := He.free_ok m.i m.n (free_tuple m.c)
  have k1 := ko.l1
  have k2 := ko.m1
  have k3 := ko.r1
  have s1 := ko.s1
  have s2 := ko.s2
  have l0 := ko.l0
  have r0 := ko.r0
  rcases ko_cases ko with ⟨l, rfl⟩ | ⟨l, mi, r, st, rfl⟩
  · refine wss_cons <| ws_if <| wt_truth <| we_ix <| we_var 0 rfl rfl <| we_int <| ix_tupD rfl <| tru_is rfl ⟨fun _ => ?_, fun h => (by cases h)⟩
    have k1' : l.length ≤ 30 := k1
    exact wss_one <| ws_ret <| we_cal (cal_ring m) hr (by decide) <| wa1 <| we_t1 flist bb_list <| we_ix <| we_var 0 rfl rfl <| we_int <| ix_tupD rfl <| c_list ⟨l, rfl, l0, by omega, hQ⟩
  · refine wss_cons <| ws_if <| wt_truth <| we_ix <| we_var 0 rfl rfl <| we_int <| ix_tupD rfl <| tru_is rfl ⟨fun h => (by cases h), fun _ => wss_nil ?_⟩
    have k1' : l.length ≤ 30 := k1
    have k2' : mi.length ≤ 60 := k2
    have k3' : r.length ≤ 30 := k3
    have s1' : -B ≤ st := s1
    have s2' : st ≤ B := s2
    exact wss_one <| ws_ret <| we_cal (cal_ended m) hr (by decide) <| wa_cons <| we_t1 flist bb_list <| we_ix <| we_var 0 rfl rfl <| we_int <| ix_tupD rfl <| c_list <| wa3 <| we_t1 ftuple bb_tuple <| we_ix <| we_var 0 rfl rfl <| we_int <| ix_tupD rfl <| c_tuple <| we_t1 flist bb_list <| we_ix <| we_var 0 rfl rfl <| we_int <| ix_tupD rfl <| c_list <| we_ix <| we_var 0 rfl rfl <| we_int <| ix_tupD rfl ⟨l, mi, r, _, st, rfl, .inr rfl, l0, by omega, by omega, r0, by omega, by omega, by omega, hQ⟩
/-! ### _law_primitive -/
def spPrim : SpD := fun xs M Q => ∃ l : List Str, xs = [.lst (l.map D.str)] ∧ 0 < l.length ∧ l.length ≤ 1000 ∧ (∀ x ∈ l, x ∈ NM) ∧ ∀ q, Prim (wd l) l.length q → Q (.lst ((l.take q).map D.str)) M
theorem sc_prim : FnScope ["part", "n"] ["part"] d__law_primitive.scope := ⟨rfl, rfl, rfl, by decide +kernel, rfl, by decide +kernel, by decide +kernel⟩
theorem nlL {l : List Str} (h : ∀ x ∈ l, x ∈ NM) : (encL encS).ok l := fun x hx => nm_ok x (h x hx)
theorem cal_prim (m : Md K mg base) : CalD P w K mg base 1 "_law_primitive" spPrim [] := by
  refine cal_of (d := d__law_primitive) rfl (fd__law_primitive m.c) (He.glo_ok m.i m.n (glo__law_primitive m.c)) sc_prim (fun xs M Q ⟨a, e, _⟩ => by rw [e]; rfl) (fun _ _ _ _ _ _ us hl => match us, hl with | [_], _ => rfl) ?_
  rintro cdv A outer s H E hr xs M Q ⟨l, rfl, h0, hl, hnm, hQ⟩
  have nd := sc_prim.nd
  have flen : mg "len" = none := He.free_ok m.i m.n (free_len m.c)
  have fint : mg "int" = none := He.free_ok m.i m.n (free_int m.c)
  have frange : mg "range" = none := He.free_ok m.i m.n (free_range m.c)
  have hsz : sizeLine = 16777216 := sizeLine_eq
  refine wss_cut (fun _ _ => False) (ws_for (.nm 1) PassesOwn.never rfl (pgN nd rfl) <| wi_range2 frange <| wa2 <| we_int <| we_bin <| we_b1 flen bb_len <| we_var 0 rfl rfl <| c_len <| we_int <| b_add ?_) (fun _ _ h => h.elim)
  rw [List.length_map]
  refine ⟨1, (l.length : Int) + 1, rfl, by omega, ?_⟩
  refine ⟨fun j ds1 M1 => (∃ o, ds1 = [some (.lst (l.map D.str)), o]) ∧ M1 = M ∧ ∀ d, 0 < d → d ≤ j → d ∣ l.length → ¬ Pd (wd l) l.length d, ⟨⟨none, rfl⟩, rfl, fun d h1 h2 => by omega⟩, fun ds1 M1 h => ?_, ?_⟩
  · exact h.2.2 l.length h0 (by omega) (Nat.dvd_refl _) (pd_self h0)
  rintro j ds1 M1 hj ⟨⟨o, rfl⟩, rfl, hall⟩
  have ej : 1 + (j : Int) = ((j + 1 : Nat) : Int) := by omega
  refine ⟨[some (.lst (l.map D.str)), some (.int ((j + 1 : Nat) : Int))], by rw [← ej]; rfl, ?_⟩
  have hdv : ∀ k : Bool, decide ((l.length : Int) % ((j + 1 : Nat) : Int) = 0) = k → (k = true ↔ (j + 1) ∣ l.length) := fun k e => by
    rw [← e, decide_eq_true_eq]
    constructor
    · intro h
      exact Int.natCast_dvd_natCast.mp (Int.dvd_of_emod_eq_zero h)
    · intro h
      exact Int.emod_eq_zero_of_dvd (Int.natCast_dvd_natCast.mpr h)
  have next : ¬ ((j + 1) ∣ l.length ∧ Pd (wd l) l.length (j + 1)) → ∀ d, 0 < d → d ≤ j + 1 → d ∣ l.length → ¬ Pd (wd l) l.length d := fun h d h1 h2 h3 h4 => by
    by_cases c : d = j + 1
    · subst c; exact h ⟨h3, h4⟩
    · exact hall d h1 (by omega) h3 h4
  refine wss_one <| ws_if <| wt_w <| ww_and <| wt_cmp <| we_bin <| we_t1 fint bb_int <| we_b1 flen bb_len <| we_var 0 rfl rfl <| c_len <| c_int <| we_var 1 rfl rfl <| b_mod (by omega) <| we_int <| b_eqI hr ?_
  rw [List.length_map]
  refine ⟨_, rfl, fun h => ?_, fun h => ⟨fun h => (by cases h), fun _ => wss_nil ⟨⟨_, rfl⟩, rfl, next fun q => ?_⟩⟩⟩
  · have hd := (hdv _ h).mp rfl
    have hle : j + 1 ≤ l.length := Nat.le_of_dvd h0 hd
    have ediv : (l.length : Int) / ((j + 1 : Nat) : Int) = ((l.length / (j + 1) : Nat) : Int) := (Int.natCast_ediv ..).symm
    have hmul : (l.take (j + 1)).length * (l.length / (j + 1)) = l.length := by
      rw [List.length_take, Nat.min_eq_left hle]
      exact Nat.mul_div_cancel' hd
    refine ww_and1 <| wt_cmp <| we_var 0 rfl rfl <| we_bin <| we_slice <| we_var 0 rfl rfl <| wo_none <| wo_some <| we_var 1 rfl rfl ⟨((j + 1 : Nat) : Int), rfl, _, .lst _ _ _, we_bin <| we_b1 flen bb_len <| we_var 0 rfl rfl <| c_len <| we_var 1 rfl rfl <| b_div ⟨by omega, by omega⟩ ?_⟩
    rw [cutD_take hle, show ((l.map D.str).length : Int) / ((j + 1 : Nat) : Int) = ((l.length / (j + 1) : Nat) : Int) by rw [List.length_map]; exact ediv]
    have hq : l.length / (j + 1) ≤ l.length := Nat.div_le_self ..
    have hq0 : (0 : Int) ≤ ((l.length / (j + 1) : Nat) : Int) := Int.natCast_nonneg _
    refine b_mulL (by omega) (by omega) (by rw [List.length_map, Int.toNat_natCast, hmul]; omega) ?_
    rw [Int.toNat_natCast, show (List.replicate (l.length / (j + 1)) ((l.take (j + 1)).map D.str)).flatten = ((List.replicate (l.length / (j + 1)) (l.take (j + 1))).flatten).map D.str by rw [List.map_flatten, List.map_replicate]]
    have hm2 : ∀ x ∈ (List.replicate (l.length / (j + 1)) (l.take (j + 1))).flatten, x ∈ NM := fun x hx => by
      obtain ⟨y, hy, hx⟩ := List.mem_flatten.mp hx
      rw [List.eq_of_mem_replicate hy] at hx
      exact hnm x (List.mem_of_mem_take hx)
    refine b_eqE (encL encS) (a := l) hr ⟨_, rfl, fun h2 => ?_, fun h2 => wss_nil ⟨⟨_, rfl⟩, rfl, next fun q => ?_⟩⟩ (nlL hnm) (nlL hm2)
    · have hpd := (prim_test (Nat.succ_pos j) hd).mp (of_decide_eq_true h2)
      refine wss_one <| ws_ret <| we_slice <| we_var 0 rfl rfl <| wo_none <| wo_some <| we_var 1 rfl rfl ⟨((j + 1 : Nat) : Int), rfl, _, .lst _ _ _, ?_⟩
      rw [cutD_take hle]
      refine hQ _ ⟨hd, hpd, fun d h3 h4 => ?_⟩
      by_cases c : d ≤ j
      · exact absurd h4 (hall d h4.1 c h3)
      · omega
    · exact of_decide_eq_false h2 ((prim_test (Nat.succ_pos j) hd).mpr q.2)
  · have := (hdv _ h).mpr q.1
    cases this
/-! ### _law_text -/
def spLText : SpD := fun xs M Q => ∃ B R, xs = [rowD R] ∧ Ko B R ∧ B < 10 ^ 18 ∧ Q (.str (rowText R)) M
theorem sc_ltext : FnScope ["least", "words_due"] ["least"] d__law_text.scope := ⟨rfl, rfl, rfl, by decide +kernel, rfl, by decide +kernel, by decide +kernel⟩
theorem b_addLS {X : Cx} {Pm : Hp → Prop} {M : Mst} {Q : QD} (xs ys : List Str) (hz : xs.length + ys.length ≤ sizeLine) (q : Q (.lst ((xs ++ ys).map D.str)) M) : BinG Pm X (binaryOp .Add) (.lst (xs.map D.str)) (.lst (ys.map D.str)) M Q :=
  b_addL (by rw [List.length_map, List.length_map]; exact hz) (by rw [← List.map_append]; exact q)
theorem cal_ltext (m : Md K mg base) : CalD P w K mg base 1 "_law_text" spLText [] := by
  refine cal_of (d := d__law_text) rfl (fd__law_text m.c) (He.glo_ok m.i m.n (glo__law_text m.c)) sc_ltext (fun xs M Q ⟨a, b, e, _⟩ => by rw [e]; rfl) (fun _ _ _ _ _ _ us hl => match us, hl with | [_], _ => rfl) ?_
  rintro cdv A outer s H E hr xs M Q ⟨B, R, rfl, ko, hB, hQ⟩
  have nd := sc_ltext.nd
  have fstr : mg "str" = none := He.free_ok m.i m.n (free_str m.c)
  have hsz : sizeLine = 16777216 := sizeLine_eq
  have ww := words_wd ko hB
  have wl := words_len ko
  have jf := join_fit ww (by omega)
  have k1 := ko.l1
  have k2 := ko.m1
  have k3 := ko.r1
  have s1 := ko.s1
  have s2 := ko.s2
  rcases ko_cases ko with ⟨l, rfl⟩ | ⟨l, mi, r, st, rfl⟩
  · have k1' : l.length ≤ 30 := k1
    refine wss_cons <| ws_if <| wt_truth <| we_ix <| we_var 0 rfl rfl <| we_int <| ix_tupD rfl <| tru_is rfl ⟨fun _ => ?_, fun h => (by cases h)⟩
    exact wss_one <| ws_ret <| we_join <| we_str ⟨_, rfl, we_bin <| we_bin <| we_lst <| wa1 <| we_str ⟨sz rfl, we_ix <| we_var 0 rfl rfl <| we_int <| ix_tupD rfl <| b_addLS [wO] l (by simp; omega) <| we_lst <| wa1 <| we_str ⟨sz rfl, b_addLS ([wO] ++ l) [wC] (by simp; omega) ⟨_, rfl, jf.1, hQ⟩⟩⟩⟩
  · have k1' : l.length ≤ 30 := k1
    have k2' : mi.length ≤ 60 := k2
    have k3' : r.length ≤ 30 := k3
    have s1' : -B ≤ st := s1
    have s2' : st ≤ B := s2
    refine wss_cons <| ws_if <| wt_truth <| we_ix <| we_var 0 rfl rfl <| we_int <| ix_tupD rfl <| tru_is rfl ⟨fun h => (by cases h), fun _ => wss_nil ?_⟩
    refine wss_cons <| ws_set 1 nd rfl <| we_bin <| we_bin <| we_bin <| we_bin <| we_bin <| we_bin <| we_lst <| wa1 <| we_str ⟨sz rfl, we_ix <| we_var 0 rfl rfl <| we_int <| ix_tupD rfl <| b_addLS [wO] l (by simp; omega) <| we_lst <| wa1 <| we_str ⟨sz rfl, b_addLS ([wO] ++ l) [wC] (by simp; omega) <| we_ix <| we_var 0 rfl rfl <| we_int <| ix_tupD rfl <| b_addLS ([wO] ++ l ++ [wC]) mi (by simp; omega) <| we_lst <| wa1 <| we_str ⟨sz rfl, b_addLS ([wO] ++ l ++ [wC] ++ mi) [wO] (by simp; omega) <| we_ix <| we_var 0 rfl rfl <| we_int <| ix_tupD rfl <| b_addLS ([wO] ++ l ++ [wC] ++ mi ++ [wO]) r (by simp; omega) <| we_lst <| wa1 <| we_str ⟨sz rfl, b_addLS ([wO] ++ l ++ [wC] ++ mi ++ [wO] ++ r) [wC] (by simp; omega) ?_⟩⟩⟩⟩
    have ew2 : (wordsOf (wR l mi r st)) = ([wO] ++ l ++ [wC] ++ mi ++ [wO] ++ r ++ [wC]) ++ (if st = 0 then [] else [wA, numI st]) := rfl
    have hwl : ([wO] ++ l ++ [wC] ++ mi ++ [wO] ++ r ++ [wC]).length ≤ 140 := by simp; omega
    unfold rowText at hQ
    rw [ew2] at hQ jf
    generalize ([wO] ++ l ++ [wC] ++ mi ++ [wO] ++ r ++ [wC]) = ws at *
    refine wss_one <| ws_ret <| we_join <| we_str ⟨_, rfl, we_bin <| we_var 1 rfl rfl <| we_ifx <| wt_cmp <| we_ix <| we_var 0 rfl rfl <| we_int <| ix_tupD rfl <| we_int <| b_neI hr ⟨_, rfl, fun h => ?_, fun h => ?_⟩⟩
    · have h1 : ¬ st = 0 := by simpa using h
      rw [if_neg h1] at hQ jf
      refine we_lst <| wa2 <| we_str <| we_t1 fstr bb_str <| we_ix <| we_var 0 rfl rfl <| we_int <| ix_tupD rfl <| c_str ?_ ⟨sz rfl, b_addLS ws [wA, numI st] (by simp; omega) ⟨_, rfl, jf.1, hQ⟩⟩
      exact Nat.lt_trans (PySem.Flt.log2_lt_of (k := 62) (by decide) (by show st.natAbs < _; omega)) (by decide)
    · have h1 : st = 0 := by simpa using h
      rw [if_pos h1] at hQ jf
      exact we_lst <| wa_nil ⟨sz rfl, b_addLS ws [] (by simp; omega) ⟨_, rfl, jf.1, hQ⟩⟩
end
end K03

namespace K03
open PySem PySem.Spec L2 DL

local macro_rules | `(tactic| walk_at "dl") => `(tactic| first
  | ((with_reducible show WE _ _ (.Constant _ _ _) _ _ _); first | refine we_int ?_ | refine we_str ?_ | refine we_bl ?_ | refine we_non ?_)
  | ((with_reducible show WE _ _ (.Name _ _) _ _ _); first | refine we_var 0 rfl rfl ?_ | refine we_var 1 rfl rfl ?_ | refine we_var 2 rfl rfl ?_ | refine we_var 3 rfl rfl ?_ | refine we_var 4 rfl rfl ?_ | refine we_var 5 rfl rfl ?_ | refine we_var 6 rfl rfl ?_ | refine we_var 7 rfl rfl ?_ | refine we_var 8 rfl rfl ?_ | refine we_var 9 rfl rfl ?_ | refine we_var 10 rfl rfl ?_ | refine we_var 11 rfl rfl ?_ | refine we_var 12 rfl rfl ?_ | refine we_var 13 rfl rfl ?_ | refine we_var 14 rfl rfl ?_ | refine we_var 15 rfl rfl ?_)
  | ((with_reducible show WE _ _ (.BinOp _ _ _ _) _ _ _); refine we_bin ?_)
  | ((with_reducible show WE _ _ (.Compare _ [_] [_] _) _ _ _); refine we_cmp ?_)
  | ((with_reducible show WT _ _ (.Compare _ [_] [_] _) _ _ _); refine wt_cmp ?_)
  | ((with_reducible show WE _ _ (.UnaryOp .USub _ _) _ _ _); refine we_un ?_)
  | ((with_reducible show WT _ _ (.UnaryOp .Not _ _) _ _ _); refine wt_not ?_)
  | ((with_reducible show WE _ _ (.IfExp _ _ _ _) _ _ _); refine we_ifx ?_)
  | ((with_reducible show WE _ _ (.Subscript _ (.Name _ _) _) _ _ _); refine we_ix ?_)
  | ((with_reducible show WE _ _ (.Subscript _ (.Constant _ _ _) _) _ _ _); refine we_ix ?_)
  | ((with_reducible show WE _ _ (.Subscript _ (.Subscript _ _ _) _) _ _ _); refine we_ix ?_)
  | ((with_reducible show WE _ _ (.Subscript _ (.BinOp _ _ _ _) _) _ _ _); refine we_ix ?_)
  | ((with_reducible show WE _ _ (.Subscript _ (.UnaryOp _ _ _) _) _ _ _); refine we_ix ?_)
  | ((with_reducible show WE _ _ (.Subscript _ (.Call _ _ _ _) _) _ _ _); refine we_ix ?_)
  | ((with_reducible show WE _ _ (.Call (.Name "len" _) [_] [] _) _ _ _); refine we_b1 (by assumption) bb_len ?_)
  | ((with_reducible show WE _ _ (.Call (.Name "abs" _) [_] [] _) _ _ _); refine we_b1 (by assumption) bb_abs ?_)
  | ((with_reducible show WE _ _ (.Call (.Name "int" _) [_] [] _) _ _ _); refine we_t1 (by assumption) bb_int ?_)
  | ((with_reducible show WE _ _ (.Call (.Name "list" _) [_] [] _) _ _ _); refine we_t1 (by assumption) bb_list ?_)
  | ((with_reducible show WE _ _ (.Call (.Name "tuple" _) [_] [] _) _ _ _); refine we_t1 (by assumption) bb_tuple ?_)
  | ((with_reducible show WE _ _ (.Call (.Name "str" _) [_] [] _) _ _ _); refine we_t1 (by assumption) bb_str ?_)
  | ((with_reducible show WE _ _ (.Call (.Name "set" _) [_] [] _) _ _ _); refine we_t1 (by assumption) bb_set ?_)
  | ((with_reducible show WE _ _ (.Call (.Name "sorted" _) [_] [] _) _ _ _); refine we_b1 (by assumption) bb_sorted ?_)
  | ((with_reducible show WE _ _ (.Call (.Name "isinstance" _) [_, _] [] _) _ _ _); refine we_b2 (by assumption) bb_isinstance ?_)
  | ((with_reducible show WE _ _ (.Call (.Name "max" _) [_] [] _) _ _ _); refine we_b1 (by assumption) bb_max ?_)
  | ((with_reducible show WE _ _ (.Call (.Name "min" _) [_] [] _) _ _ _); refine we_b1 (by assumption) bb_min ?_)
  | ((with_reducible show WE _ _ (.Call (.Name "max" _) [_, _] [] _) _ _ _); refine we_b2 (by assumption) bb_max ?_)
  | ((with_reducible show WE _ _ (.Call (.Name "min" _) [_, _] [] _) _ _ _); refine we_b2 (by assumption) bb_min ?_)
  | ((with_reducible show BinG _ _ (binaryOp .Add) (.int _) (.int _) _ _); refine b_add ?_)
  | ((with_reducible show BinG _ _ (binaryOp .Sub) (.int _) (.int _) _ _); refine b_sub ?_)
  | ((with_reducible show BinG _ _ (binaryOp .Mod) (.int _) (.int _) _ _); refine b_mod (by omega) ?_)
  | ((with_reducible show BinG _ _ (binaryOp .FloorDiv) (.int _) (.int _) _ _); refine b_div ⟨by omega, by omega⟩ ?_)
  | ((with_reducible show BinG _ _ (binaryOp .Mult) (.int _) (.int _) _ _); first | refine b_mul (.inr ⟨by omega, by omega⟩) ?_ | refine b_mul (.inl ⟨by omega, by omega⟩) ?_)
  | ((with_reducible show BinG _ _ (compareOp .Lt) (.int _) (.int _) _ _); refine b_lt ?_)
  | ((with_reducible show BinG _ _ (compareOp .LtE) (.int _) (.int _) _ _); refine b_le ?_)
  | ((with_reducible show BinG _ _ (compareOp .Gt) (.int _) (.int _) _ _); refine b_gt ?_)
  | ((with_reducible show BinG _ _ (compareOp .GtE) (.int _) (.int _) _ _); refine b_ge ?_)
  | ((with_reducible show BinG _ _ (compareOp .Eq) (.int _) (.int _) _ _); refine b_eqI (by assumption) ?_)
  | ((with_reducible show BinG _ _ (compareOp .NotEq) (.int _) (.int _) _ _); refine b_neI (by assumption) ?_)
  | ((with_reducible show UnG _ _ (unaryOp .USub) (.int _) _ _); refine b_neg ?_)
  | (with_reducible refine ex_bl ?_)
  | ((with_reducible show CallG _ _ (.type "int") [.int _] _ _); refine c_int ?_)
  | ((with_reducible show CallG _ _ (.type "int") [.bl _] _ _); refine c_intB ?_)
  | ((with_reducible show CallG _ _ (.builtin "abs") _ _ _); refine c_abs ?_)
  | ((with_reducible show CallG _ _ (.builtin "len") [.lst _] _ _); refine c_len ?_)
  | ((with_reducible show CallG _ _ (.builtin "len") [.tup _] _ _); refine c_lenT ?_)
  | ((with_reducible show CallG _ _ (.builtin "len") [.raw _] _ _); refine c_lenM (by first | assumption | exact updM_same) ?_)
  | ((with_reducible show CallG _ _ (.type "list") [.tup _] _ _); refine c_listT ?_)
  | ((with_reducible show CallG _ _ (.type "tuple") [.lst _] _ _); refine c_tuple ?_)
  | ((with_reducible show CallG _ _ (.type "tuple") [.tup _] _ _); refine c_tupleT ?_)
  | ((with_reducible show CallG _ _ (.builtin "max") [.int _, .int _] _ _); refine c_max2 rfl ?_)
  | ((with_reducible show CallG _ _ (.builtin "min") [.int _, .int _] _ _); refine c_min2 rfl ?_)
  | ((with_reducible show IxG _ _ (.tup _) _ _ _); refine ix_tupD rfl ?_)
  | ((with_reducible show IxG _ _ (.raw _) _ _ _); refine ix_mlst (by first | assumption | exact updM_same) rfl ?_)
  | ((with_reducible show WA _ _ (_ :: _) _ _ _); refine wa_cons ?_)
  | ((with_reducible show WA _ _ [] _ _ _); refine wa_nil ?_))
section
variable {P : Program} {w : World} {K : PySem.W.Frag} {mg : Str → Option Value} {base : Heap}
/-! ### _law_least -/
def spLLeast : SpD := fun xs M Q => ∃ B R, xs = [rowD R] ∧ Ko B R ∧ B ≤ 2 ^ 60 ∧ ∀ R', Cn R.at R' → Q (rowD R') M
theorem sc_lleast : FnScope ["row", "m", "n", "low", "high", "t", "ring", "begin", "end", "k"] ["row"] d__law_least.scope := ⟨rfl, rfl, rfl, by decide +kernel, rfl, by decide +kernel, by decide +kernel⟩
theorem seg_D {f : Int → Str} {a : Int} {k : Nat} : (List.range k).map (fun i : Nat => D.str (f (a + (i : Int)))) = (seg f a k).map D.str := by unfold seg; rw [List.map_map]; rfl
theorem cal_lleast (m : Md K mg base) : CalD P w K mg base 2 "_law_least" spLLeast [] := by
  refine cal_of (d := d__law_least) rfl (fd__law_least m.c) (He.glo_ok m.i m.n (glo__law_least m.c)) sc_lleast (fun xs M Q ⟨a, b, e, _⟩ => by rw [e]; rfl) (fun _ _ _ _ _ _ us hl => match us, hl with | [_], _ => rfl) ?_
  rintro cdv A outer s H E hr xs M Q ⟨B, R, rfl, ko, hB, hQ⟩
  have nd := sc_lleast.nd
  have flen : mg "len" = none := He.free_ok m.i m.n (free_len m.c)
  have fmin : mg "min" = none := He.free_ok m.i m.n (free_min m.c)
  have frange : mg "range" = none := He.free_ok m.i m.n (free_range m.c)
  have hsz : sizeLine = 16777216 := sizeLine_eq
  have vr := ko.vr
  have l0 := ko.l0
  have r0 := ko.r0
  have k1 := ko.l1
  have k2 := ko.m1
  have k3 := ko.r1
  have s1 := ko.s1
  have s2 := ko.s2
  refine wss_cons <| ws_asg (.tp [1, 2, 3, 4]) (pg_tup rfl <| pgs_cons (pgN nd rfl) <| pgs_cons (pgN nd rfl) <| pgs_cons (pgN nd rfl) <| pgs_cons (pgN nd rfl) pgs_nil) <| we_tup <| wa_cons <| we_b1 flen bb_len <| we_cal (cal_prim m) hr (by decide) <| wa1 <| we_ix <| we_var 0 rfl rfl <| we_int <| ix_tupD rfl ⟨R.l, rfl, l0, by omega, ko.nl, fun p hp => c_len <| wa3 <| we_b1 flen bb_len <| we_cal (cal_prim m) hr (by decide) <| wa1 <| we_ix <| we_var 0 rfl rfl <| we_int <| ix_tupD rfl ⟨R.r, rfl, r0, by omega, ko.nr, fun n hn => c_len <| we_ix <| we_var 0 rfl rfl <| we_int <| ix_tupD rfl <| we_bin <| we_ix <| we_var 0 rfl rfl <| we_int <| ix_tupD rfl <| we_b1 flen bb_len <| we_ix <| we_var 0 rfl rfl <| we_int <| ix_tupD rfl <| c_len <| b_add ⟨sz rfl, _, rfl, ?_⟩⟩⟩
  have hpl : p ≤ R.l.length := Nat.le_of_dvd l0 hp.dvd
  have hnl : n ≤ R.r.length := Nat.le_of_dvd r0 hn.dvd
  have p0 := hp.pd.1
  have n0 := hn.pd.1
  have el : ((R.l.take p).map D.str).length = p := by rw [List.length_map, List.length_take]; omega
  have er : ((R.r.take n).map D.str).length = n := by rw [List.length_map, List.length_take]; omega
  rw [el, er, List.length_map]
  obtain ⟨rm, rf0⟩ := rmin_of r0 (at_right vr) hn
  obtain ⟨lm, lf0⟩ := rmin_of l0 (at_left vr) (prim_rev hp)
  have rf : From R.at (R.s + R.m.length) n := rf0
  have lf : ∀ t, t < R.s → R.at (t - p) = R.at t := left_of lf0
  clear rf0 lf0
  have hat : ∀ t, R.at t = R.at t := fun _ => rfl
  generalize hf : R.at = f at rm rf lm lf hQ
  generalize hst : R.s = st at *
  generalize hml : R.m.length = ml at *
  -- the whole is a ring?
  have hN : (st + (ml : Int) - (st - p - n)).toNat = ml + p + n := by omega
  refine wss_cut (fun ds1 M1 => ds1 = [some (rowD R), some (.int p), some (.int n), some (.int st), some (.int (st + ml)), none, none, none, none, none] ∧ M1 = M ∧ ∃ t, st - p - n ≤ t ∧ t < st + ml ∧ f t ≠ f (t + n))
    (ws_if <| wt_cmp <| we_lcP (.nm 5) (List.range (ml + p + n)) (fun i : Nat => .int (st - p - n + (i : Int))) (fun i : Nat => !decide (f (st - p - n + (i : Int)) = f (st - p - n + (i : Int) + n))) (fun i : Nat => .int (st - p - n + (i : Int))) rfl nd (own := [("t", 5)]) (blkOk_by (by kernel_rfl)) (by decide) (fun s0 H0 C cl fp => pgN nd rfl) (wi_range2 frange <| wa2 <| we_bin <| we_bin <| we_var 3 rfl rfl <| we_var 1 rfl rfl <| b_sub <| we_var 2 rfl rfl <| b_sub <| we_var 4 rfl rfl ⟨st - p - n, st + ml, rfl, by omega, by omega, by rw [hN]; exact li_range _ _, ?_, ?_⟩)) ?_
  · intro i hi M' hs
    refine ⟨_, rfl, fun s0 H0 C cl fp => wts_one <| wt_cmp <| we_cal (cal_lat m) hr (by decide) <| wa2 <| we_var 0 rfl rfl <| we_var 5 rfl rfl ⟨R, _, rfl, vr, ?_⟩, fun _ s0 H0 C cl fp => we_var 5 rfl rfl ⟨rfl, rfl⟩⟩
    refine we_cal (cal_lat m) hr (by decide) <| wa2 <| we_var 0 rfl rfl <| we_bin <| we_var 5 rfl rfl <| we_var 2 rfl rfl <| b_add ⟨R, _, rfl, vr, ?_⟩
    rw [hf]
    exact b_neS ⟨_, rfl, rfl, rfl⟩
  · have e3 : ∀ ys : List Nat, ys.map (fun i : Nat => D.int (st - p - n + (i : Int))) = (ys.map fun i : Nat => st - (p : Int) - n + (i : Int)).map D.int := fun ys => by rw [List.map_map]; rfl
    rw [e3]
    refine we_lst <| wa_nil ⟨sz rfl, b_eqE (encL encI) (b := []) hr ⟨_, rfl, fun h => ?_, fun h => ?_⟩⟩
    · have h := of_decide_eq_true h
      rw [List.map_eq_nil_iff, List.filter_eq_nil_iff] at h
      have hc : ∀ t, st - p - n ≤ t → t < st + ml → f t = f (t + n) := fun t h1 h2 => by
        have := h (t - (st - p - n)).toNat (List.mem_range.mpr (by omega))
        rw [show st - (p : Int) - n + ((t - (st - p - n)).toNat : Int) = t by omega] at this
        simpa using this
      obtain ⟨cn, epn⟩ := cn_ring rm lm rf lf hc
      refine wss_cons <| ws_lcP 6 (.nm 5) (List.range n) (fun i : Nat => .int (i : Int)) (fun _ => true) (fun i : Nat => .str (f (0 + (i : Int)))) rfl nd rfl (own := [("t", 5)]) (blkOk_by (by kernel_rfl)) (by decide) (fun s0 H0 C cl fp => pgN nd rfl) (wi_range1 frange <| wa1 <| we_var 2 rfl rfl ⟨n, rfl, by omega, by omega, by omega, by rw [Int.toNat_natCast]; exact li_range _ _, PureM.t fun i hi M' hs => ⟨_, rfl, fun s0 H0 C cl fp => we_cal (cal_lat m) hr (by decide) <| wa2 <| we_var 0 rfl rfl <| we_var 5 rfl rfl ⟨R, _, rfl, vr, by rw [hf, Int.zero_add], rfl⟩⟩, ?_⟩)
      rw [filter_all, seg_D]
      exact wss_one <| ws_ret <| we_tup <| wa_cons <| we_bl <| wa_cons <| we_var 6 rfl rfl <| wa3 <| we_lst (wa_nil ⟨sz rfl, we_var 6 rfl rfl <| we_int ⟨sz rfl, hQ _ cn⟩⟩)
    · have h := of_decide_eq_false h
      refine wss_nil ⟨rfl, rfl, Classical.byContradiction fun hx => h ?_⟩
      rw [List.map_eq_nil_iff, List.filter_eq_nil_iff]
      intro i hi
      have hi := List.mem_range.mp hi
      rw [Bool.not_eq_true', Bool.not_eq_false, decide_eq_true_eq]
      exact Classical.byContradiction fun q => hx ⟨_, by omega, by omega, q⟩
  rintro ds1 M1 ⟨rfl, rfl, tb, tb1, tb2, tb3⟩
  refine wss_cons <| ws_par2 7 8 rfl nd rfl rfl <| wa2 <| we_var 4 rfl rfl <| we_var 3 rfl rfl ⟨_, _, rfl, ?_⟩
  have hN2 : (st + (ml : Int) - st + p + n).toNat = ml + p + n := by omega
  -- begin
  refine wss_cut (fun ds1 M2 => ∃ (b : Int) (o : Option D), ds1 = [some (rowD R), some (.int p), some (.int n), some (.int st), some (.int (st + ml)), none, none, some (.int b), some (.int st), o] ∧ M2 = M1 ∧ st - p - n < b ∧ b ≤ st + ml ∧ (∀ t, b ≤ t → t < st + ml → f t = f (t + n)) ∧ f (b - 1) ≠ f (b - 1 + n))
    (ws_for (.nm 9) PassesOwn.never rfl (pgN nd rfl) <| wi_range1 frange <| wa1 <| we_bin <| we_bin <| we_bin <| we_var 4 rfl rfl <| we_var 3 rfl rfl <| b_sub <| we_var 1 rfl rfl <| b_add <| we_var 2 rfl rfl <| b_add ⟨_, rfl, by omega, by omega, ?_⟩) ?_
  · rw [hN2]
    refine ⟨fun j ds1 M2 => (∃ o, ds1 = [some (rowD R), some (.int p), some (.int n), some (.int st), some (.int (st + ml)), none, none, some (.int (st + ml - (j : Int))), some (.int st), o]) ∧ M2 = M1 ∧ j ≤ ml + p + n ∧ ∀ t, st + ml - (j : Int) ≤ t → t < st + ml → f t = f (t + n), ⟨⟨none, by simp⟩, rfl, Nat.zero_le _, fun t h1 h2 => by omega⟩, fun ds1 M2 h => ?_, ?_⟩
    · obtain ⟨_, _, _, hall⟩ := h
      exact absurd (hall tb (by omega) tb2) tb3
    · rintro j ds1 M2 hj ⟨⟨o, rfl⟩, rfl, hj2, hall⟩
      refine ⟨_, rfl, ?_⟩
      refine wss_cons <| ws_if <| wt_cmp <| we_cal (cal_lat m) hr (by decide) <| wa2 <| we_var 0 rfl rfl <| we_bin <| we_var 7 rfl rfl <| we_int <| b_sub ⟨R, _, rfl, vr, ?_⟩
      refine we_cal (cal_lat m) hr (by decide) <| wa2 <| we_var 0 rfl rfl <| we_bin <| we_bin <| we_var 7 rfl rfl <| we_int <| b_sub <| we_var 2 rfl rfl <| b_add ⟨R, _, rfl, vr, ?_⟩
      rw [hf]
      refine b_neS ⟨_, rfl, fun h => ?_, fun h => ?_⟩
      · have h1 : f (st + ml - (j : Int) - 1) ≠ f (st + ml - (j : Int) - 1 + n) := by simpa using h
        refine wss_one <| ws_break ⟨_, _, rfl, rfl, ?_, by omega, hall, h1⟩
        rcases Int.lt_or_le (st - p - n) (st + ml - (j : Int)) with q | q
        · exact q
        · exact absurd (hall tb (by omega) tb2) tb3
      · have h1 : f (st + ml - (j : Int) - 1) = f (st + ml - (j : Int) - 1 + n) := by simpa using h
        refine wss_nil <| wss_one <| ws_set 7 nd rfl <| we_bin <| we_var 7 rfl rfl <| we_int <| b_sub ⟨⟨_, by rw [show st + (ml : Int) - ((j + 1 : Nat) : Int) = st + ml - (j : Int) - 1 by omega]; rfl⟩, rfl, by omega, fun t h2 h3 => ?_⟩
        by_cases e : t = st + ml - (j : Int) - 1
        · rw [e]; exact h1
        · exact hall t (by omega) h3
  rintro ds1 M2 ⟨b, o, rfl, rfl, b1, b2, b3, b4⟩
  -- end
  refine wss_cut (fun ds1 M3 => ∃ (E : Int) (o : Option D), ds1 = [some (rowD R), some (.int p), some (.int n), some (.int st), some (.int (st + ml)), none, none, some (.int b), some (.int E), o] ∧ M3 = M2 ∧ st ≤ E ∧ E ≤ st + ml + p + n ∧ (∀ t, st ≤ t → t < E → f t = f (t - p)) ∧ (E = st + ml + p + n ∨ f E ≠ f (E - p)))
    (ws_for (.nm 9) PassesOwn.never rfl (pgN nd rfl) <| wi_range1 frange <| wa1 <| we_bin <| we_bin <| we_bin <| we_var 4 rfl rfl <| we_var 3 rfl rfl <| b_sub <| we_var 1 rfl rfl <| b_add <| we_var 2 rfl rfl <| b_add ⟨_, rfl, by omega, by omega, ?_⟩) ?_
  · rw [hN2]
    refine ⟨fun j ds1 M3 => (∃ o, ds1 = [some (rowD R), some (.int p), some (.int n), some (.int st), some (.int (st + ml)), none, none, some (.int b), some (.int (st + (j : Int))), o]) ∧ M3 = M2 ∧ j ≤ ml + p + n ∧ ∀ t, st ≤ t → t < st + (j : Int) → f t = f (t - p), ⟨⟨o, by simp⟩, rfl, Nat.zero_le _, fun t h1 h2 => by omega⟩, fun ds1 M3 h => ?_, ?_⟩
    · obtain ⟨⟨o, rfl⟩, rfl, _, hall⟩ := h
      exact ⟨_, o, rfl, rfl, by omega, by omega, hall, .inl (by omega)⟩
    · rintro j ds1 M3 hj ⟨⟨o, rfl⟩, rfl, hj2, hall⟩
      refine ⟨_, rfl, ?_⟩
      refine wss_cons <| ws_if <| wt_cmp <| we_cal (cal_lat m) hr (by decide) <| wa2 <| we_var 0 rfl rfl <| we_var 8 rfl rfl ⟨R, _, rfl, vr, ?_⟩
      refine we_cal (cal_lat m) hr (by decide) <| wa2 <| we_var 0 rfl rfl <| we_bin <| we_var 8 rfl rfl <| we_var 1 rfl rfl <| b_sub ⟨R, _, rfl, vr, ?_⟩
      rw [hf]
      refine b_neS ⟨_, rfl, fun h => ?_, fun h => ?_⟩
      · have h1 : f (st + (j : Int)) ≠ f (st + (j : Int) - p) := by simpa using h
        exact wss_one <| ws_break ⟨_, _, rfl, rfl, by omega, by omega, hall, .inr h1⟩
      · have h1 : f (st + (j : Int)) = f (st + (j : Int) - p) := by simpa using h
        refine wss_nil <| wss_one <| ws_set 8 nd rfl <| we_bin <| we_var 8 rfl rfl <| we_int <| b_add ⟨⟨_, by rw [show st + ((j + 1 : Nat) : Int) = st + (j : Int) + 1 by omega]; rfl⟩, rfl, by omega, fun t h2 h3 => ?_⟩
        by_cases e : t = st + (j : Int)
        · rw [e]; exact h1
        · exact hall t h2 (by omega)
  rintro ds1 M3 ⟨E, o, rfl, rfl, hE1, hE2, hE3, hE4⟩
  have cn := cn_ended rm lm rf lf (by omega) b2 b3 b4 hE1 hE3 hE4
  have m1 : min b E ≤ b := Int.min_le_left ..
  have m3 : st - p - n < min b E := by omega
  have m4 : b - min b E ≤ ml := by omega
  refine wss_cons <| ws_set 3 nd rfl <| we_b2 fmin bb_min <| we_var 7 rfl rfl <| we_var 8 rfl rfl <| c_min2 rfl ?_
  rw [show (if E < b then E else b) = min b E by split <;> omega]
  generalize min b E = L at *
  refine wss_one <| ws_ret <| we_tup <| wa_cons <| we_bl <| wa_cons ?_
  refine we_lcM (.nm 5) (List.range p) (fun i : Nat => .int (L - p + (i : Int))) (fun i : Nat => .str (f (L - p + (i : Int)))) rfl nd (own := [("t", 5)]) (by kernel_rfl) (by decide) (fun s0 H0 C cl fp => pgN nd rfl) (wi_range2 frange <| wa2 <| we_bin <| we_var 3 rfl rfl <| we_var 1 rfl rfl <| b_sub <| we_var 3 rfl rfl ⟨L - p, L, rfl, by omega, by omega, by rw [show (L - (L - (p : Int))).toNat = p by omega]; exact li_range _ _, fun i hi M' hs => ⟨_, rfl, fun s0 H0 C cl fp => we_cal (cal_lat m) hr (by decide) <| wa2 <| we_var 0 rfl rfl <| we_var 5 rfl rfl ⟨R, _, rfl, vr, by rw [hf], rfl⟩⟩, ?_⟩)
  rw [seg_D]
  refine wa3 <| we_lcM (.nm 5) (List.range (b - L).toNat) (fun i : Nat => .int (L + (i : Int))) (fun i : Nat => .str (f (L + (i : Int)))) rfl nd (own := [("t", 5)]) (by kernel_rfl) (by decide) (fun s0 H0 C cl fp => pgN nd rfl) (wi_range2 frange <| wa2 <| we_var 3 rfl rfl <| we_var 7 rfl rfl ⟨L, b, rfl, by omega, by omega, li_range _ _, fun i hi M' hs => ⟨_, rfl, fun s0 H0 C cl fp => we_cal (cal_lat m) hr (by decide) <| wa2 <| we_var 0 rfl rfl <| we_var 5 rfl rfl ⟨R, _, rfl, vr, by rw [hf], rfl⟩⟩, ?_⟩)
  rw [seg_D]
  refine we_lcM (.nm 5) (List.range n) (fun i : Nat => .int (b + (i : Int))) (fun i : Nat => .str (f (b + (i : Int)))) rfl nd (own := [("t", 5)]) (by kernel_rfl) (by decide) (fun s0 H0 C cl fp => pgN nd rfl) (wi_range2 frange <| wa2 <| we_var 7 rfl rfl <| we_bin <| we_var 7 rfl rfl <| we_var 2 rfl rfl <| b_add ⟨b, b + n, rfl, by omega, by omega, by rw [show (b + (n : Int) - b).toNat = n by omega]; exact li_range _ _, fun i hi M' hs => ⟨_, rfl, fun s0 H0 C cl fp => we_cal (cal_lat m) hr (by decide) <| wa2 <| we_var 0 rfl rfl <| we_var 5 rfl rfl ⟨R, _, rfl, vr, by rw [hf], rfl⟩⟩, ?_⟩)
  rw [seg_D]
  exact we_var 3 rfl rfl ⟨sz rfl, hQ _ cn⟩
end
end K03

namespace K03
open PySem PySem.Spec L2 DL

local macro_rules | `(tactic| walk_at "dl") => `(tactic| first
  | ((with_reducible show WE _ _ (.Constant _ _ _) _ _ _); first | refine we_int ?_ | refine we_str ?_ | refine we_bl ?_ | refine we_non ?_)
  | ((with_reducible show WE _ _ (.Name _ _) _ _ _); first | refine we_var 0 rfl rfl ?_ | refine we_var 1 rfl rfl ?_ | refine we_var 2 rfl rfl ?_ | refine we_var 3 rfl rfl ?_ | refine we_var 4 rfl rfl ?_ | refine we_var 5 rfl rfl ?_ | refine we_var 6 rfl rfl ?_ | refine we_var 7 rfl rfl ?_ | refine we_var 8 rfl rfl ?_ | refine we_var 9 rfl rfl ?_ | refine we_var 10 rfl rfl ?_ | refine we_var 11 rfl rfl ?_ | refine we_var 12 rfl rfl ?_ | refine we_var 13 rfl rfl ?_ | refine we_var 14 rfl rfl ?_ | refine we_var 15 rfl rfl ?_)
  | ((with_reducible show WE _ _ (.BinOp _ _ _ _) _ _ _); refine we_bin ?_)
  | ((with_reducible show WE _ _ (.Compare _ [_] [_] _) _ _ _); refine we_cmp ?_)
  | ((with_reducible show WT _ _ (.Compare _ [_] [_] _) _ _ _); refine wt_cmp ?_)
  | ((with_reducible show WE _ _ (.UnaryOp .USub _ _) _ _ _); refine we_un ?_)
  | ((with_reducible show WT _ _ (.UnaryOp .Not _ _) _ _ _); refine wt_not ?_)
  | ((with_reducible show WE _ _ (.IfExp _ _ _ _) _ _ _); refine we_ifx ?_)
  | ((with_reducible show WE _ _ (.Subscript _ (.Name _ _) _) _ _ _); refine we_ix ?_)
  | ((with_reducible show WE _ _ (.Subscript _ (.Constant _ _ _) _) _ _ _); refine we_ix ?_)
  | ((with_reducible show WE _ _ (.Subscript _ (.Subscript _ _ _) _) _ _ _); refine we_ix ?_)
  | ((with_reducible show WE _ _ (.Subscript _ (.BinOp _ _ _ _) _) _ _ _); refine we_ix ?_)
  | ((with_reducible show WE _ _ (.Subscript _ (.UnaryOp _ _ _) _) _ _ _); refine we_ix ?_)
  | ((with_reducible show WE _ _ (.Subscript _ (.Call _ _ _ _) _) _ _ _); refine we_ix ?_)
  | ((with_reducible show WE _ _ (.Call (.Name "len" _) [_] [] _) _ _ _); refine we_b1 (by assumption) bb_len ?_)
  | ((with_reducible show WE _ _ (.Call (.Name "abs" _) [_] [] _) _ _ _); refine we_b1 (by assumption) bb_abs ?_)
  | ((with_reducible show WE _ _ (.Call (.Name "int" _) [_] [] _) _ _ _); refine we_t1 (by assumption) bb_int ?_)
  | ((with_reducible show WE _ _ (.Call (.Name "list" _) [_] [] _) _ _ _); refine we_t1 (by assumption) bb_list ?_)
  | ((with_reducible show WE _ _ (.Call (.Name "tuple" _) [_] [] _) _ _ _); refine we_t1 (by assumption) bb_tuple ?_)
  | ((with_reducible show WE _ _ (.Call (.Name "str" _) [_] [] _) _ _ _); refine we_t1 (by assumption) bb_str ?_)
  | ((with_reducible show WE _ _ (.Call (.Name "set" _) [_] [] _) _ _ _); refine we_t1 (by assumption) bb_set ?_)
  | ((with_reducible show WE _ _ (.Call (.Name "sorted" _) [_] [] _) _ _ _); refine we_b1 (by assumption) bb_sorted ?_)
  | ((with_reducible show WE _ _ (.Call (.Name "isinstance" _) [_, _] [] _) _ _ _); refine we_b2 (by assumption) bb_isinstance ?_)
  | ((with_reducible show WE _ _ (.Call (.Name "max" _) [_] [] _) _ _ _); refine we_b1 (by assumption) bb_max ?_)
  | ((with_reducible show WE _ _ (.Call (.Name "min" _) [_] [] _) _ _ _); refine we_b1 (by assumption) bb_min ?_)
  | ((with_reducible show WE _ _ (.Call (.Name "max" _) [_, _] [] _) _ _ _); refine we_b2 (by assumption) bb_max ?_)
  | ((with_reducible show WE _ _ (.Call (.Name "min" _) [_, _] [] _) _ _ _); refine we_b2 (by assumption) bb_min ?_)
  | ((with_reducible show BinG _ _ (binaryOp .Add) (.int _) (.int _) _ _); refine b_add ?_)
  | ((with_reducible show BinG _ _ (binaryOp .Sub) (.int _) (.int _) _ _); refine b_sub ?_)
  | ((with_reducible show BinG _ _ (binaryOp .Mod) (.int _) (.int _) _ _); refine b_mod (by omega) ?_)
  | ((with_reducible show BinG _ _ (binaryOp .FloorDiv) (.int _) (.int _) _ _); refine b_div ⟨by omega, by omega⟩ ?_)
  | ((with_reducible show BinG _ _ (binaryOp .Mult) (.int _) (.int _) _ _); first | refine b_mul (.inr ⟨by omega, by omega⟩) ?_ | refine b_mul (.inl ⟨by omega, by omega⟩) ?_)
  | ((with_reducible show BinG _ _ (compareOp .Lt) (.int _) (.int _) _ _); refine b_lt ?_)
  | ((with_reducible show BinG _ _ (compareOp .LtE) (.int _) (.int _) _ _); refine b_le ?_)
  | ((with_reducible show BinG _ _ (compareOp .Gt) (.int _) (.int _) _ _); refine b_gt ?_)
  | ((with_reducible show BinG _ _ (compareOp .GtE) (.int _) (.int _) _ _); refine b_ge ?_)
  | ((with_reducible show BinG _ _ (compareOp .Eq) (.int _) (.int _) _ _); refine b_eqI (by assumption) ?_)
  | ((with_reducible show BinG _ _ (compareOp .NotEq) (.int _) (.int _) _ _); refine b_neI (by assumption) ?_)
  | ((with_reducible show UnG _ _ (unaryOp .USub) (.int _) _ _); refine b_neg ?_)
  | (with_reducible refine ex_bl ?_)
  | ((with_reducible show CallG _ _ (.type "int") [.int _] _ _); refine c_int ?_)
  | ((with_reducible show CallG _ _ (.type "int") [.bl _] _ _); refine c_intB ?_)
  | ((with_reducible show CallG _ _ (.builtin "abs") _ _ _); refine c_abs ?_)
  | ((with_reducible show CallG _ _ (.builtin "len") [.lst _] _ _); refine c_len ?_)
  | ((with_reducible show CallG _ _ (.builtin "len") [.tup _] _ _); refine c_lenT ?_)
  | ((with_reducible show CallG _ _ (.builtin "len") [.raw _] _ _); refine c_lenM (by first | assumption | exact updM_same) ?_)
  | ((with_reducible show CallG _ _ (.type "list") [.tup _] _ _); refine c_listT ?_)
  | ((with_reducible show CallG _ _ (.type "tuple") [.lst _] _ _); refine c_tuple ?_)
  | ((with_reducible show CallG _ _ (.type "tuple") [.tup _] _ _); refine c_tupleT ?_)
  | ((with_reducible show CallG _ _ (.builtin "max") [.int _, .int _] _ _); refine c_max2 rfl ?_)
  | ((with_reducible show CallG _ _ (.builtin "min") [.int _, .int _] _ _); refine c_min2 rfl ?_)
  | ((with_reducible show IxG _ _ (.tup _) _ _ _); refine ix_tupD rfl ?_)
  | ((with_reducible show IxG _ _ (.raw _) _ _ _); refine ix_mlst (by first | assumption | exact updM_same) rfl ?_)
  | ((with_reducible show WA _ _ (_ :: _) _ _ _); refine wa_cons ?_)
  | ((with_reducible show WA _ _ [] _ _ _); refine wa_nil ?_))
section
variable {P : Program} {w : World} {K : PySem.W.Frag} {mg : Str → Option Value} {base : Heap}
/-! ### _law_moved -/
def spLMoved : SpD := fun xs M Q => ∃ B R k, xs = [rowD R, .int k] ∧ Ko B R ∧ Q (rowD (mv R k)) M
theorem sc_lmoved : FnScope ["row", "k", "ring", "t"] ["row", "k"] d__law_moved.scope := ⟨rfl, rfl, rfl, by decide +kernel, rfl, by decide +kernel, by decide +kernel⟩
theorem cal_lmoved (m : Md K mg base) : CalD P w K mg base 2 "_law_moved" spLMoved [] := by
  refine cal_of (d := d__law_moved) rfl (fd__law_moved m.c) (He.glo_ok m.i m.n (glo__law_moved m.c)) sc_lmoved (fun xs M Q ⟨a, b, c, e, _⟩ => by rw [e]; rfl) (fun _ _ _ _ _ _ us hl => match us, hl with | [_, _], _ => rfl) ?_
  rintro cdv A outer s H E hr xs M Q ⟨B, R, k, rfl, ko, hQ⟩
  have nd := sc_lmoved.nd
  have flen : mg "len" = none := He.free_ok m.i m.n (free_len m.c)
  have frange : mg "range" = none := He.free_ok m.i m.n (free_range m.c)
  have hsz : sizeLine = 16777216 := sizeLine_eq
  have vr := ko.vr
  have k1 := ko.l1
  rcases ko_cases ko with ⟨l, rfl⟩ | ⟨l, mi, r, st, rfl⟩
  · have l0 : 0 < l.length := ko.l0
    have k1' : l.length ≤ 30 := k1
    refine wss_cons <| ws_if <| wt_not <| wt_truth <| we_ix <| we_var 0 rfl rfl <| we_int <| ix_tupD rfl <| tru_is rfl ⟨fun h => (by cases h), fun _ => wss_nil ?_⟩
    refine wss_cons <| ws_lcP 2 (.nm 3) (List.range l.length) (fun i : Nat => .int (i : Int)) (fun _ => true) (fun i : Nat => .str ((fun t => (rg l).at (t + k)) (0 + (i : Int)))) rfl nd rfl (own := [("t", 3)]) (blkOk_by (by kernel_rfl)) (by decide) (fun s0 H0 C cl fp => pgN nd rfl) (wi_range1 frange <| wa1 <| we_b1 flen bb_len <| we_ix <| we_var 0 rfl rfl <| we_int <| ix_tupD rfl <| c_len ⟨_, rfl, by omega, by rw [List.length_map]; omega, by rw [List.length_map]; omega, by rw [List.length_map, Int.toNat_natCast]; exact li_range _ _, PureM.t fun i hi M' hs => ⟨_, rfl, fun s0 H0 C cl fp => we_cal (cal_lat m) hr (by decide) <| wa2 <| we_var 0 rfl rfl <| we_bin <| we_var 3 rfl rfl <| we_var 1 rfl rfl <| b_add ⟨rg l, _, rfl, vr, by rw [Int.zero_add], rfl⟩⟩, ?_⟩)
    have eT : (List.range l.length).map (fun i : Nat => D.str ((rg l).at (0 + (i : Int) + k))) = (turn l k).map D.str := by
      have := seg_D (f := fun t => (rg l).at (t + k)) (a := 0) (k := l.length)
      rw [turn_seg l0] at this
      exact this
    rw [filter_all, eT]
    exact wss_one <| ws_ret <| we_tup <| wa_cons <| we_bl <| wa_cons <| we_var 2 rfl rfl <| wa3 <| we_lst (wa_nil ⟨sz rfl, we_var 2 rfl rfl <| we_int ⟨sz rfl, hQ⟩⟩)
  · refine wss_cons <| ws_if <| wt_not <| wt_truth <| we_ix <| we_var 0 rfl rfl <| we_int <| ix_tupD rfl <| tru_is rfl ⟨fun _ => ?_, fun h => (by cases h)⟩
    exact wss_one <| ws_ret <| we_tup <| wa_cons <| we_bl <| wa_cons <| we_ix <| we_var 0 rfl rfl <| we_int <| ix_tupD rfl <| wa3 <| we_ix <| we_var 0 rfl rfl <| we_int <| ix_tupD rfl <| we_ix <| we_var 0 rfl rfl <| we_int <| ix_tupD rfl <| we_bin <| we_ix <| we_var 0 rfl rfl <| we_int <| ix_tupD rfl <| we_var 1 rfl rfl <| b_sub ⟨sz rfl, hQ⟩
/-! ### _law_equal -/
def spEqual : SpD := fun xs M Q => ∃ B R C S, xs = [rowD R, rowD S] ∧ Ko B R ∧ B ≤ 2 ^ 60 ∧ Ko C S ∧ C ≤ 2 ^ 60 ∧ S.s - R.s ≤ 1000 ∧ R.s - S.s ≤ 1000 ∧ ∀ k, (k = true ↔ ∀ t, R.at t = S.at t) → Q (.bl k) M
theorem sc_equal : FnScope ["one", "other", "low", "high", "left", "right", "t"] ["one", "other"] d__law_equal.scope := ⟨rfl, rfl, rfl, by decide +kernel, rfl, by decide +kernel, by decide +kernel⟩
theorem cal_equal (m : Md K mg base) : CalD P w K mg base 2 "_law_equal" spEqual [] := by
  refine cal_of (d := d__law_equal) rfl (fd__law_equal m.c) (He.glo_ok m.i m.n (glo__law_equal m.c)) sc_equal (fun xs M Q ⟨a, b, c, d, e, _⟩ => by rw [e]; rfl) (fun _ _ _ _ _ _ us hl => match us, hl with | [_, _], _ => rfl) ?_
  rintro cdv A outer s H E hr xs M Q ⟨B, R, C, S, rfl, kR, hB, kS, hC, d1, d2, hQ⟩
  have nd := sc_equal.nd
  have flen : mg "len" = none := He.free_ok m.i m.n (free_len m.c)
  have fmin : mg "min" = none := He.free_ok m.i m.n (free_min m.c)
  have fmax : mg "max" = none := He.free_ok m.i m.n (free_max m.c)
  have frange : mg "range" = none := He.free_ok m.i m.n (free_range m.c)
  have hsz : sizeLine = 16777216 := sizeLine_eq
  have vR := kR.vr
  have vS := kS.vr
  have a1 := kR.l1
  have a2 := kR.m1
  have a3 := kR.r1
  have a4 := kR.s1
  have a5 := kR.s2
  have b1 := kS.l1
  have b2 := kS.m1
  have b3 := kS.r1
  have b4 := kS.s1
  have b5 := kS.s2
  have win := window vR vS
  have m1 : R.l.length * S.l.length ≤ 30 * 30 := Nat.mul_le_mul a1 b1
  have m2 : R.r.length * S.r.length ≤ 30 * 30 := Nat.mul_le_mul a3 b3
  have c1 : (R.l.length : Int) * (S.l.length : Int) = ((R.l.length * S.l.length : Nat) : Int) := (Int.natCast_mul ..).symm
  have c2 : (R.r.length : Int) * (S.r.length : Int) = ((R.r.length * S.r.length : Nat) : Int) := (Int.natCast_mul ..).symm
  refine wss_cons <| ws_par2 2 3 rfl nd rfl rfl <| wa2 <| we_b2 fmin bb_min <| we_ix <| we_var 0 rfl rfl <| we_int <| ix_tupD rfl <| we_ix <| we_var 1 rfl rfl <| we_int <| ix_tupD rfl <| c_min2 rfl <| we_b2 fmax bb_max <| we_bin <| we_ix <| we_var 0 rfl rfl <| we_int <| ix_tupD rfl <| we_b1 flen bb_len <| we_ix <| we_var 0 rfl rfl <| we_int <| ix_tupD rfl <| c_len <| b_add <| we_bin <| we_ix <| we_var 1 rfl rfl <| we_int <| ix_tupD rfl <| we_b1 flen bb_len <| we_ix <| we_var 1 rfl rfl <| we_int <| ix_tupD rfl <| c_len <| b_add <| c_max2 rfl ⟨_, _, rfl, ?_⟩
  rw [List.length_map, List.length_map]
  have elo : (if S.s < R.s then S.s else R.s) = min R.s S.s := by split <;> omega
  have ehi : (if S.s + (S.m.length : Int) > R.s + (R.m.length : Int) then S.s + (S.m.length : Int) else R.s + (R.m.length : Int)) = max R.e S.e := by
    show _ = max (R.s + (R.m.length : Int)) (S.s + (S.m.length : Int))
    split <;> omega
  rw [elo, ehi]
  have he1 : R.e = R.s + R.m.length := rfl
  have he2 : S.e = S.s + S.m.length := rfl
  have h1 : min R.s S.s ≤ max R.e S.e := by omega
  have h2 : max R.e S.e - min R.s S.s ≤ 1100 := by omega
  have h3 : -(2 ^ 60) ≤ min R.s S.s := by omega
  have h4 : max R.e S.e ≤ 2 ^ 60 + 100 := by omega
  generalize min R.s S.s = lo at *
  generalize max R.e S.e = hi at *
  refine wss_cons <| ws_par2 4 5 rfl nd rfl rfl <| wa2 <| we_bin <| we_b1 flen bb_len <| we_ix <| we_var 0 rfl rfl <| we_int <| ix_tupD rfl <| c_len <| we_b1 flen bb_len <| we_ix <| we_var 1 rfl rfl <| we_int <| ix_tupD rfl <| c_len <| b_mul (.inl ⟨by rw [List.length_map]; omega, by rw [List.length_map]; omega⟩) <| we_bin <| we_b1 flen bb_len <| we_ix <| we_var 0 rfl rfl <| we_int <| ix_tupD rfl <| c_len <| we_b1 flen bb_len <| we_ix <| we_var 1 rfl rfl <| we_int <| ix_tupD rfl <| c_len <| b_mul (.inl ⟨by rw [List.length_map]; omega, by rw [List.length_map]; omega⟩) ⟨_, _, rfl, ?_⟩
  rw [List.length_map, List.length_map, List.length_map, List.length_map, c1, c2]
  generalize R.l.length * S.l.length = LL at *
  generalize R.r.length * S.r.length = RR at *
  refine wss_one <| ws_ret <| we_cmp <| we_lcP (.nm 6) (List.range (hi + RR - (lo - LL)).toNat) (fun i : Nat => .int (lo - LL + (i : Int))) (fun i : Nat => !decide (R.at (lo - LL + (i : Int)) = S.at (lo - LL + (i : Int)))) (fun i : Nat => .int (lo - LL + (i : Int))) rfl nd (own := [("t", 6)]) (blkOk_by (by kernel_rfl)) (by decide) (fun s0 H0 C cl fp => pgN nd rfl) (wi_range2 frange <| wa2 <| we_bin <| we_var 2 rfl rfl <| we_var 4 rfl rfl <| b_sub <| we_bin <| we_var 3 rfl rfl <| we_var 5 rfl rfl <| b_add ⟨lo - LL, hi + RR, rfl, by omega, by omega, li_range _ _, ?_, ?_⟩)
  · intro i hi2 M' hs
    refine ⟨_, rfl, fun s0 H0 C cl fp => wts_one <| wt_cmp <| we_cal (cal_lat m) hr (by decide) <| wa2 <| we_var 0 rfl rfl <| we_var 6 rfl rfl ⟨R, _, rfl, vR, ?_⟩, fun _ s0 H0 C cl fp => we_var 6 rfl rfl ⟨rfl, rfl⟩⟩
    exact we_cal (cal_lat m) hr (by decide) <| wa2 <| we_var 1 rfl rfl <| we_var 6 rfl rfl ⟨S, _, rfl, vS, b_neS ⟨_, rfl, rfl, rfl⟩⟩
  · have e3 : ∀ ys : List Nat, ys.map (fun i : Nat => D.int (lo - LL + (i : Int))) = (ys.map fun i : Nat => lo - (LL : Int) + (i : Int)).map D.int := fun ys => by rw [List.map_map]; rfl
    rw [e3]
    refine we_lst <| wa_nil ⟨sz rfl, b_eqE (encL encI) (b := []) hr (hQ _ ?_)⟩
    rw [decide_eq_true_eq, List.map_eq_nil_iff, List.filter_eq_nil_iff]
    constructor
    · intro h
      refine win fun t h5 h6 => ?_
      have := h (t - (lo - LL)).toNat (List.mem_range.mpr (by omega))
      rw [show lo - (LL : Int) + ((t - (lo - LL)).toNat : Int) = t by omega] at this
      simpa using this
    · intro h i _
      rw [Bool.not_eq_true', Bool.not_eq_false, decide_eq_true_eq]
      exact h _
/-! ### _law_alike -/
def spAlike (K : PySem.W.Frag) : SpD := fun xs M Q => ∃ B C R S due, xs = [rowO K R, rowO K S, .bl due] ∧ Ko B R ∧ Ko C S ∧ (due = true ↔ R = S) ∧ Q (.bl true) M
theorem sc_alike : FnScope ["one", "other", "due"] ["one", "other", "due"] d__law_alike.scope := ⟨rfl, rfl, rfl, by decide +kernel, rfl, by decide +kernel, by decide +kernel⟩
theorem b_due {a b : Bool} {p : Prop} (h1 : a = true ↔ p) (h2 : b = true ↔ p) : a = b := Bool.eq_iff_iff.mpr (h1.trans h2.symm)
theorem cal_alike (m : Md K mg base) : CalD P w K mg base 3 "_law_alike" (spAlike K) [] := by
  refine cal_of (d := d__law_alike) rfl (fd__law_alike m.c) (He.glo_ok m.i m.n (glo__law_alike m.c)) sc_alike (fun xs M Q ⟨a, b, c, d, f, e, _⟩ => by rw [e]; rfl) (fun _ _ _ _ _ _ us hl => match us, hl with | [_, _, _], _ => rfl) ?_
  rintro cdv A outer s H E hr xs M Q ⟨B, C, R, S, due, rfl, kR, kS, hd, hQ⟩
  have cl := He.cls_ok (cls_Row m.c)
  have nf := (insB_ok cl (ex_ins_Row m.e)).2
  have hd2 : due = true ↔ S = R := hd.trans ⟨Eq.symm, Eq.symm⟩
  refine wss_one <| ws_ret <| we_cmp <| we_lst <| wa_cons <| we_cmp <| we_var 0 rfl rfl <| we_var 1 rfl rfl <| b_eqM (met_eq m) nf hr (by decide) (.inl rfl) (.inl rfl) ⟨B, C, R, S, rfl, kR, kS, fun k1 e1 => ?_⟩
  obtain rfl := b_due e1 hd
  refine wa3 <| we_cmp <| we_var 1 rfl rfl <| we_var 0 rfl rfl <| b_eqM (met_eq m) nf hr (by decide) (.inl rfl) (.inl rfl) ⟨C, B, S, R, rfl, kS, kR, fun k2 e2 => ?_⟩
  obtain rfl := b_due e2 hd2
  refine we_cmp <| we_var 0 rfl rfl <| we_var 1 rfl rfl <| b_neM m (met_eq m) hr (by decide) (.inl rfl) (.inl rfl) ⟨B, C, R, S, rfl, kR, kS, fun k3 e3 => ⟨_, rfl, ?_⟩⟩
  obtain rfl := b_due e3 hd
  refine we_cmp <| we_var 1 rfl rfl <| we_var 0 rfl rfl <| b_neM m (met_eq m) hr (by decide) (.inl rfl) (.inl rfl) ⟨C, B, S, R, rfl, kS, kR, fun k4 e4 => ⟨_, rfl, ?_⟩⟩
  obtain rfl := b_due e4 hd2
  refine ⟨sz rfl, we_lst <| wa_cons <| we_var 2 rfl rfl <| wa3 <| we_var 2 rfl rfl <| we_notT <| we_var 2 rfl rfl <| tru_is rfl <| we_notT <| we_var 2 rfl rfl <| tru_is rfl ⟨sz rfl, ?_⟩⟩
  exact b_eqE (encL encB) (a := [k4, k4, !k4, !k4]) (b := [k4, k4, !k4, !k4]) hr (by simpa using hQ)
end
end K03

namespace K03
open PySem PySem.Spec L2 DL

local macro_rules | `(tactic| walk_at "dl") => `(tactic| first
  | ((with_reducible show WE _ _ (.Constant _ _ _) _ _ _); first | refine we_int ?_ | refine we_str ?_ | refine we_bl ?_ | refine we_non ?_)
  | ((with_reducible show WE _ _ (.Name _ _) _ _ _); first | refine we_var 0 rfl rfl ?_ | refine we_var 1 rfl rfl ?_ | refine we_var 2 rfl rfl ?_ | refine we_var 3 rfl rfl ?_ | refine we_var 4 rfl rfl ?_ | refine we_var 5 rfl rfl ?_ | refine we_var 6 rfl rfl ?_ | refine we_var 7 rfl rfl ?_ | refine we_var 8 rfl rfl ?_ | refine we_var 9 rfl rfl ?_ | refine we_var 10 rfl rfl ?_ | refine we_var 11 rfl rfl ?_ | refine we_var 12 rfl rfl ?_ | refine we_var 13 rfl rfl ?_ | refine we_var 14 rfl rfl ?_ | refine we_var 15 rfl rfl ?_)
  | ((with_reducible show WE _ _ (.BinOp _ _ _ _) _ _ _); refine we_bin ?_)
  | ((with_reducible show WE _ _ (.Compare _ [_] [_] _) _ _ _); refine we_cmp ?_)
  | ((with_reducible show WT _ _ (.Compare _ [_] [_] _) _ _ _); refine wt_cmp ?_)
  | ((with_reducible show WE _ _ (.UnaryOp .USub _ _) _ _ _); refine we_un ?_)
  | ((with_reducible show WT _ _ (.UnaryOp .Not _ _) _ _ _); refine wt_not ?_)
  | ((with_reducible show WE _ _ (.IfExp _ _ _ _) _ _ _); refine we_ifx ?_)
  | ((with_reducible show WE _ _ (.Subscript _ (.Name _ _) _) _ _ _); refine we_ix ?_)
  | ((with_reducible show WE _ _ (.Subscript _ (.Constant _ _ _) _) _ _ _); refine we_ix ?_)
  | ((with_reducible show WE _ _ (.Subscript _ (.Subscript _ _ _) _) _ _ _); refine we_ix ?_)
  | ((with_reducible show WE _ _ (.Subscript _ (.BinOp _ _ _ _) _) _ _ _); refine we_ix ?_)
  | ((with_reducible show WE _ _ (.Subscript _ (.UnaryOp _ _ _) _) _ _ _); refine we_ix ?_)
  | ((with_reducible show WE _ _ (.Subscript _ (.Call _ _ _ _) _) _ _ _); refine we_ix ?_)
  | ((with_reducible show WE _ _ (.Call (.Name "len" _) [_] [] _) _ _ _); refine we_b1 (by assumption) bb_len ?_)
  | ((with_reducible show WE _ _ (.Call (.Name "abs" _) [_] [] _) _ _ _); refine we_b1 (by assumption) bb_abs ?_)
  | ((with_reducible show WE _ _ (.Call (.Name "int" _) [_] [] _) _ _ _); refine we_t1 (by assumption) bb_int ?_)
  | ((with_reducible show WE _ _ (.Call (.Name "list" _) [_] [] _) _ _ _); refine we_t1 (by assumption) bb_list ?_)
  | ((with_reducible show WE _ _ (.Call (.Name "tuple" _) [_] [] _) _ _ _); refine we_t1 (by assumption) bb_tuple ?_)
  | ((with_reducible show WE _ _ (.Call (.Name "str" _) [_] [] _) _ _ _); refine we_t1 (by assumption) bb_str ?_)
  | ((with_reducible show WE _ _ (.Call (.Name "set" _) [_] [] _) _ _ _); refine we_t1 (by assumption) bb_set ?_)
  | ((with_reducible show WE _ _ (.Call (.Name "sorted" _) [_] [] _) _ _ _); refine we_b1 (by assumption) bb_sorted ?_)
  | ((with_reducible show WE _ _ (.Call (.Name "isinstance" _) [_, _] [] _) _ _ _); refine we_b2 (by assumption) bb_isinstance ?_)
  | ((with_reducible show WE _ _ (.Call (.Name "max" _) [_] [] _) _ _ _); refine we_b1 (by assumption) bb_max ?_)
  | ((with_reducible show WE _ _ (.Call (.Name "min" _) [_] [] _) _ _ _); refine we_b1 (by assumption) bb_min ?_)
  | ((with_reducible show WE _ _ (.Call (.Name "max" _) [_, _] [] _) _ _ _); refine we_b2 (by assumption) bb_max ?_)
  | ((with_reducible show WE _ _ (.Call (.Name "min" _) [_, _] [] _) _ _ _); refine we_b2 (by assumption) bb_min ?_)
  | ((with_reducible show BinG _ _ (binaryOp .Add) (.int _) (.int _) _ _); refine b_add ?_)
  | ((with_reducible show BinG _ _ (binaryOp .Sub) (.int _) (.int _) _ _); refine b_sub ?_)
  | ((with_reducible show BinG _ _ (binaryOp .Mod) (.int _) (.int _) _ _); refine b_mod (by omega) ?_)
  | ((with_reducible show BinG _ _ (binaryOp .FloorDiv) (.int _) (.int _) _ _); refine b_div ⟨by omega, by omega⟩ ?_)
  | ((with_reducible show BinG _ _ (binaryOp .Mult) (.int _) (.int _) _ _); first | refine b_mul (.inr ⟨by omega, by omega⟩) ?_ | refine b_mul (.inl ⟨by omega, by omega⟩) ?_)
  | ((with_reducible show BinG _ _ (compareOp .Lt) (.int _) (.int _) _ _); refine b_lt ?_)
  | ((with_reducible show BinG _ _ (compareOp .LtE) (.int _) (.int _) _ _); refine b_le ?_)
  | ((with_reducible show BinG _ _ (compareOp .Gt) (.int _) (.int _) _ _); refine b_gt ?_)
  | ((with_reducible show BinG _ _ (compareOp .GtE) (.int _) (.int _) _ _); refine b_ge ?_)
  | ((with_reducible show BinG _ _ (compareOp .Eq) (.int _) (.int _) _ _); refine b_eqI (by assumption) ?_)
  | ((with_reducible show BinG _ _ (compareOp .NotEq) (.int _) (.int _) _ _); refine b_neI (by assumption) ?_)
  | ((with_reducible show UnG _ _ (unaryOp .USub) (.int _) _ _); refine b_neg ?_)
  | (with_reducible refine ex_bl ?_)
  | ((with_reducible show CallG _ _ (.type "int") [.int _] _ _); refine c_int ?_)
  | ((with_reducible show CallG _ _ (.type "int") [.bl _] _ _); refine c_intB ?_)
  | ((with_reducible show CallG _ _ (.builtin "abs") _ _ _); refine c_abs ?_)
  | ((with_reducible show CallG _ _ (.builtin "len") [.lst _] _ _); refine c_len ?_)
  | ((with_reducible show CallG _ _ (.builtin "len") [.tup _] _ _); refine c_lenT ?_)
  | ((with_reducible show CallG _ _ (.builtin "len") [.raw _] _ _); refine c_lenM (by first | assumption | exact updM_same) ?_)
  | ((with_reducible show CallG _ _ (.type "list") [.tup _] _ _); refine c_listT ?_)
  | ((with_reducible show CallG _ _ (.type "tuple") [.lst _] _ _); refine c_tuple ?_)
  | ((with_reducible show CallG _ _ (.type "tuple") [.tup _] _ _); refine c_tupleT ?_)
  | ((with_reducible show CallG _ _ (.builtin "max") [.int _, .int _] _ _); refine c_max2 rfl ?_)
  | ((with_reducible show CallG _ _ (.builtin "min") [.int _, .int _] _ _); refine c_min2 rfl ?_)
  | ((with_reducible show IxG _ _ (.tup _) _ _ _); refine ix_tupD rfl ?_)
  | ((with_reducible show IxG _ _ (.raw _) _ _ _); refine ix_mlst (by first | assumption | exact updM_same) rfl ?_)
  | ((with_reducible show WA _ _ (_ :: _) _ _ _); refine wa_cons ?_)
  | ((with_reducible show WA _ _ [] _ _ _); refine wa_nil ?_))
section
variable {P : Program} {w : World} {K : PySem.W.Frag} {mg : Str → Option Value} {base : Heap}
theorem cn_self {f : Int → Str} {R : Rw Str} (h : Cn f R) : Cn R.at R := by
  have e : R.at = f := funext h.at
  rw [e]
  exact h
/-! ### _law_whole -/
def spWhole (K : PySem.W.Frag) : SpD := fun xs M Q => ∃ B R R', xs = [rowO K R', rowD R] ∧ Ko B R ∧ 0 ≤ B ∧ B + 400 < 10 ^ 18 ∧ Cn R.at R' ∧ Q (.bl true) M
theorem sc_whole : FnScope ["told", "row", "least", "part", "listed", "text"] ["told", "row"] d__law_whole.scope := ⟨rfl, rfl, rfl, by decide +kernel, rfl, by decide +kernel, by decide +kernel⟩
theorem pd4 : pd (.lst [.non, .non, .non, .non]) = some (.list [.none, .none, .none, .none]) := by simp [pd, pds]
theorem cal_whole (m : Md K mg base) : CalD P w K mg base 7 "_law_whole" (spWhole K) [] := by
  refine cal_of (d := d__law_whole) rfl (fd__law_whole m.c) (He.glo_ok m.i m.n (glo__law_whole m.c)) sc_whole (fun xs M Q ⟨a, b, c, e, _⟩ => by rw [e]; rfl) (fun _ _ _ _ _ _ us hl => match us, hl with | [_, _], _ => rfl) ?_
  rintro cdv A outer s H E hr xs M Q ⟨B, R, R', rfl, kR, hB0, hB, cn, hQ⟩
  have nd := sc_whole.nd
  have fi : mg "isinstance" = none := He.free_ok m.i m.n (free_isinstance m.c)
  have ftuple : mg "tuple" = none := He.free_ok m.i m.n (free_tuple m.c)
  have fstr : mg "str" = none := He.free_ok m.i m.n (free_str m.c)
  have cl := He.cls_ok (cls_Row m.c)
  have n1 := He.noat_ok (noat_Row_ring m.c)
  have n2 := He.noat_ok (noat_Row_left m.c)
  have n3 := He.noat_ok (noat_Row_middle m.c)
  have n4 := He.noat_ok (noat_Row_right m.c)
  have n5 := He.noat_ok (noat_Row_start m.c)
  have ic := (insB_ok cl (ex_ins_Row m.e)).1
  have nf := (insB_ok cl (ex_ins_Row m.e)).2
  have hu := hr.units
  have hsz : sizeLine = 16777216 := sizeLine_eq
  have kR' := cn_ko kR hB0 cn
  have cs := cn_self cn
  have k1 := kR'.l1
  have k2 := kR'.m1
  have k3 := kR'.r1
  refine wss_cons <| ws_set 2 nd rfl <| we_cal (cal_lleast m) hr (by decide) <| wa1 <| we_var 1 rfl rfl ⟨B, R, rfl, kR, by omega, fun R2 cn2 => ?_⟩
  obtain rfl := cn2.uniq cn
  refine wss_cons <| ws_if <| wt_not <| wt_truth <| we_b2 fi bb_isinstance <| we_var 0 rfl rfl <| we_glob (He.glo_ok m.i m.n (glo_Row m.c)) (v := .ref (CR K)) rfl (fun _ => rp_raw) <| c_isi (ClsV.own (CR K)) (t := .ref (CR K)) ⟨ic, rfl⟩ ic.me <| tru_is rfl ⟨fun h => (by cases h), fun _ => wss_nil ?_⟩
  -- the end, once for both
  have fin : ∀ (ls : List Str) (tx : D) (o3 : Option D), ls = listL R2 → WSs PmT (cx0 P w K mg base ["told", "row", "least", "part", "listed", "text"] d__law_whole.qual d__law_whole.scope (He.fAd K d__law_whole.at_) cdv A outer s H E) (d__law_whole.body.drop 5) M [some (rowO K R2), some (rowD R), some (rowD R2), o3, some (.lst (ls.map D.str)), none] { nx := fun _ M' => Q .non M', rt := Q } := fun ls tx o3 els => by
    have hln : ∀ x ∈ ls, x ∈ NM := fun x hx => by
      rw [els] at hx
      unfold listL at hx
      split at hx
      · exact kR'.nl x hx
      · rcases List.mem_append.mp hx with q | q
        · rcases List.mem_append.mp q with q | q
          · exact kR'.nl x q
          · exact kR'.nm x q
        · exact kR'.nr x q
    refine wss_cons <| ws_set 5 nd rfl <| we_cal (cal_ltext m) hr (by decide) <| wa1 <| we_var 2 rfl rfl ⟨_, R2, rfl, kR', by omega, ?_⟩
    refine wss_one <| ws_ret <| we_andT <| we_cmp <| we_met0 (met_listed m) hr (by decide) <| we_var 0 rfl rfl ⟨_, .inl rfl, (by unfold rowF; split <;> rfl), _, R2, rfl, kR', ?_⟩
    refine we_t1 ftuple bb_tuple <| we_var 4 rfl rfl <| c_tuple ?_
    refine b_eqE (encT encS) (a := listL R2) (b := ls) hr (tru_is rfl ⟨fun _ => ?_, fun h => ?_⟩) (nl_ok (els ▸ hln)) (nl_ok hln)
    · refine we_andT <| we_cmp <| we_met0 (met_text m) hr (by decide) <| we_var 0 rfl rfl ⟨_, .inl rfl, (by unfold rowF; split <;> rfl), _, R2, rfl, kR', by omega, we_var 5 rfl rfl <| b_eqS <| tru_is rfl ⟨fun _ => ?_, fun h => ?_⟩⟩
      · refine we_andT <| we_cmp <| we_t1 fstr bb_str <| we_var 0 rfl rfl <| c_strM (met_str m) hr (by decide) (.inl rfl) ⟨_, R2, rfl, kR', by omega, _, rfl, we_var 5 rfl rfl <| b_eqS <| tru_is rfl ⟨fun _ => ?_, fun h => ?_⟩⟩
        · refine we_one <| we_cmp <| we_cmp <| we_cal (cal_read m) hr (by decide) <| wa1 <| we_var 5 rfl rfl ⟨_, R2, rfl, kR', by omega, fun R3 cn3 => ?_⟩
          obtain rfl := cn3.uniq cs
          refine we_var 0 rfl rfl <| b_eqM (met_eq m) nf hr (by decide) (.inl rfl) (.inl rfl) ⟨_, _, R3, R3, rfl, kR', kR', fun k hk => we_bl <| b_isB ?_⟩
          rw [hk.mpr rfl]
          exact hQ
        · rw [decide_eq_true rfl] at h; cases h
      · rw [decide_eq_true rfl] at h; cases h
    · rw [els, decide_eq_true rfl] at h; cases h
  rcases cn_form cn with ⟨l, rfl⟩ | ⟨l, mi, r, st, rfl⟩
  · refine wss_cons <| ws_if <| wt_w <| ww_and <| wt_truth <| we_ix <| we_var 2 rfl rfl <| we_int <| ix_tupD rfl <| tru_is rfl ⟨fun _ => ?_, fun h => (by cases h)⟩
    refine ww_and1 <| wt_w <| ww_or <| wt_cmp <| we_lst <| wa_cons <| we_fld <| we_var 0 rfl rfl ⟨_, _, _, .inl rfl, cl, n2, rfl, wa3 <| we_fld <| we_var 0 rfl rfl ⟨_, _, _, .inl rfl, cl, n3, rfl, we_fld <| we_var 0 rfl rfl ⟨_, _, _, .inl rfl, cl, n4, rfl, we_fld <| we_var 0 rfl rfl ⟨_, _, _, .inl rfl, cl, n5, rfl, sz rfl, ?_⟩⟩⟩⟩
    refine we_bin <| we_lst <| wa1 <| we_non ⟨sz rfl, we_int <| b_mulL (by decide) (by decide) (sz rfl) ?_⟩
    refine b_neD hu pd4 pd4 (by decide +kernel) (by decide +kernel) (k := true) (by simp [PyData.eqv, PyData.eqvAll]) ⟨_, rfl, fun h => (by cases h), fun _ => ?_⟩
    refine ww_or1 <| wt_cmp <| we_fld <| we_var 0 rfl rfl ⟨_, _, _, .inl rfl, cl, n1, rfl, we_t1 ftuple bb_tuple <| we_ix <| we_var 2 rfl rfl <| we_int <| ix_tupD rfl <| c_tuple <| b_neE (encT encS) (a := l) (b := l) hr ⟨_, rfl, fun h => ?_, fun _ => wss_nil ?_⟩ (nl_ok kR'.nl) (nl_ok kR'.nl)⟩
    · rw [decide_eq_true rfl] at h; cases h
    refine wss_cons <| ws_if <| wt_w <| ww_and <| wt_not <| wt_truth <| we_ix <| we_var 2 rfl rfl <| we_int <| ix_tupD rfl <| tru_is rfl ⟨fun h => (by cases h), fun _ => ⟨fun h => (by cases h), fun _ => wss_nil ?_⟩⟩
    refine wss_cons <| ws_set 4 nd rfl <| we_ifx <| wt_truth <| we_ix <| we_var 2 rfl rfl <| we_int <| ix_tupD rfl <| tru_is rfl ⟨fun _ => ?_, fun h => (by cases h)⟩
    exact we_ix <| we_var 2 rfl rfl <| we_int <| ix_tupD rfl <| fin l .non none rfl
  · have k1' : l.length ≤ 30 := k1
    have k2' : mi.length ≤ 60 := k2
    have k3' : r.length ≤ 30 := k3
    refine wss_cons <| ws_if <| wt_w <| ww_and <| wt_truth <| we_ix <| we_var 2 rfl rfl <| we_int <| ix_tupD rfl <| tru_is rfl ⟨fun h => (by cases h), fun _ => ⟨fun h => (by cases h), fun _ => wss_nil ?_⟩⟩
    refine wss_cons <| ws_if <| wt_w <| ww_and <| wt_not <| wt_truth <| we_ix <| we_var 2 rfl rfl <| we_int <| ix_tupD rfl <| tru_is rfl ⟨fun _ => ?_, fun h => (by cases h)⟩
    refine ww_and1 <| wt_w <| ww_or <| wt_cmp <| we_fld <| we_var 0 rfl rfl ⟨_, _, _, .inl rfl, cl, n1, rfl, we_non <| b_notN (fun G v h => nonN h) ⟨_, rfl, fun h => (by cases h), fun _ => ?_⟩⟩
    refine ww_or <| wt_cmp <| we_lst <| wa3 <| we_fld <| we_var 0 rfl rfl ⟨_, _, _, .inl rfl, cl, n2, rfl, we_fld <| we_var 0 rfl rfl ⟨_, _, _, .inl rfl, cl, n3, rfl, we_fld <| we_var 0 rfl rfl ⟨_, _, _, .inl rfl, cl, n4, rfl, sz rfl, ?_⟩⟩⟩
    refine we_lcM (.nm 3) [l, mi, r] (fun x => .lst (x.map D.str)) (fun x => sT x) rfl nd (own := [("part", 3)]) (by kernel_rfl) (by decide) (fun s0 H0 C cl fp => pgN nd rfl) (wi_tup <| we_slice <| we_var 2 rfl rfl <| wo_some <| we_int ⟨1, rfl, wo_some <| we_int ⟨4, rfl, _, .tup _ _ _, _, rfl, fun hz => ⟨hz, ?_, fun x hx M' hs => ⟨_, rfl, fun s0 H0 C cl fp => we_t1 ftuple bb_tuple <| we_var 3 rfl rfl <| c_tuple ⟨rfl, rfl⟩⟩, ?_⟩⟩⟩)
    · exact li_map [l, mi, r] (fun x => D.lst (x.map D.str))
    have ok3 : (encL (encT encS)).ok [l, mi, r] := fun x hx => by
      simp only [List.mem_cons, List.not_mem_nil, or_false] at hx
      rcases hx with rfl | rfl | rfl
      · exact nl_ok kR'.nl
      · exact nl_ok kR'.nm
      · exact nl_ok kR'.nr
    refine b_neE (encL (encT encS)) (a := [l, mi, r]) (b := [l, mi, r]) hr ⟨_, rfl, fun h => ?_, fun _ => ?_⟩ ok3 ok3
    · rw [decide_eq_true rfl] at h; cases h
    refine ww_or <| wt_not <| wt_truth <| we_cal (cal_int m) hr (by decide) <| wa1 <| we_fld <| we_var 0 rfl rfl ⟨_, _, _, .inl rfl, cl, n5, rfl, _, rfl, tru_is rfl ⟨fun h => (by cases h), fun _ => ?_⟩⟩
    refine ww_or1 <| wt_cmp <| we_fld <| we_var 0 rfl rfl ⟨_, _, _, .inl rfl, cl, n5, rfl, we_ix <| we_var 2 rfl rfl <| we_int <| ix_tupD rfl <| b_neI hr ⟨_, rfl, fun h => ?_, fun _ => wss_nil ?_⟩⟩
    · rw [decide_eq_true rfl] at h; cases h
    refine wss_cons <| ws_set 4 nd rfl <| we_ifx <| wt_truth <| we_ix <| we_var 2 rfl rfl <| we_int <| ix_tupD rfl <| tru_is rfl ⟨fun h => (by cases h), fun _ => ?_⟩
    exact we_bin <| we_bin <| we_ix <| we_var 2 rfl rfl <| we_int <| ix_tupD rfl <| we_ix <| we_var 2 rfl rfl <| we_int <| ix_tupD rfl <| b_addLS l mi (by omega) <| we_ix <| we_var 2 rfl rfl <| we_int <| ix_tupD rfl <| b_addLS (l ++ mi) r (by rw [List.length_append]; omega) <| fin (l ++ mi ++ r) .non none rfl
end
end K03

namespace K03
open PySem PySem.Spec L2 DL

local macro_rules | `(tactic| walk_at "dl") => `(tactic| first
  | ((with_reducible show WE _ _ (.Constant _ _ _) _ _ _); first | refine we_int ?_ | refine we_str ?_ | refine we_bl ?_ | refine we_non ?_)
  | ((with_reducible show WE _ _ (.Name _ _) _ _ _); first | refine we_var 0 rfl rfl ?_ | refine we_var 1 rfl rfl ?_ | refine we_var 2 rfl rfl ?_ | refine we_var 3 rfl rfl ?_ | refine we_var 4 rfl rfl ?_ | refine we_var 5 rfl rfl ?_ | refine we_var 6 rfl rfl ?_ | refine we_var 7 rfl rfl ?_ | refine we_var 8 rfl rfl ?_ | refine we_var 9 rfl rfl ?_ | refine we_var 10 rfl rfl ?_ | refine we_var 11 rfl rfl ?_ | refine we_var 12 rfl rfl ?_ | refine we_var 13 rfl rfl ?_ | refine we_var 14 rfl rfl ?_ | refine we_var 15 rfl rfl ?_)
  | ((with_reducible show WE _ _ (.BinOp _ _ _ _) _ _ _); refine we_bin ?_)
  | ((with_reducible show WE _ _ (.Compare _ [_] [_] _) _ _ _); refine we_cmp ?_)
  | ((with_reducible show WT _ _ (.Compare _ [_] [_] _) _ _ _); refine wt_cmp ?_)
  | ((with_reducible show WE _ _ (.UnaryOp .USub _ _) _ _ _); refine we_un ?_)
  | ((with_reducible show WT _ _ (.UnaryOp .Not _ _) _ _ _); refine wt_not ?_)
  | ((with_reducible show WE _ _ (.IfExp _ _ _ _) _ _ _); refine we_ifx ?_)
  | ((with_reducible show WE _ _ (.Subscript _ (.Name _ _) _) _ _ _); refine we_ix ?_)
  | ((with_reducible show WE _ _ (.Subscript _ (.Constant _ _ _) _) _ _ _); refine we_ix ?_)
  | ((with_reducible show WE _ _ (.Subscript _ (.Subscript _ _ _) _) _ _ _); refine we_ix ?_)
  | ((with_reducible show WE _ _ (.Subscript _ (.BinOp _ _ _ _) _) _ _ _); refine we_ix ?_)
  | ((with_reducible show WE _ _ (.Subscript _ (.UnaryOp _ _ _) _) _ _ _); refine we_ix ?_)
  | ((with_reducible show WE _ _ (.Subscript _ (.Call _ _ _ _) _) _ _ _); refine we_ix ?_)
  | ((with_reducible show WE _ _ (.Call (.Name "len" _) [_] [] _) _ _ _); refine we_b1 (by assumption) bb_len ?_)
  | ((with_reducible show WE _ _ (.Call (.Name "abs" _) [_] [] _) _ _ _); refine we_b1 (by assumption) bb_abs ?_)
  | ((with_reducible show WE _ _ (.Call (.Name "int" _) [_] [] _) _ _ _); refine we_t1 (by assumption) bb_int ?_)
  | ((with_reducible show WE _ _ (.Call (.Name "list" _) [_] [] _) _ _ _); refine we_t1 (by assumption) bb_list ?_)
  | ((with_reducible show WE _ _ (.Call (.Name "tuple" _) [_] [] _) _ _ _); refine we_t1 (by assumption) bb_tuple ?_)
  | ((with_reducible show WE _ _ (.Call (.Name "str" _) [_] [] _) _ _ _); refine we_t1 (by assumption) bb_str ?_)
  | ((with_reducible show WE _ _ (.Call (.Name "set" _) [_] [] _) _ _ _); refine we_t1 (by assumption) bb_set ?_)
  | ((with_reducible show WE _ _ (.Call (.Name "sorted" _) [_] [] _) _ _ _); refine we_b1 (by assumption) bb_sorted ?_)
  | ((with_reducible show WE _ _ (.Call (.Name "isinstance" _) [_, _] [] _) _ _ _); refine we_b2 (by assumption) bb_isinstance ?_)
  | ((with_reducible show WE _ _ (.Call (.Name "max" _) [_] [] _) _ _ _); refine we_b1 (by assumption) bb_max ?_)
  | ((with_reducible show WE _ _ (.Call (.Name "min" _) [_] [] _) _ _ _); refine we_b1 (by assumption) bb_min ?_)
  | ((with_reducible show WE _ _ (.Call (.Name "max" _) [_, _] [] _) _ _ _); refine we_b2 (by assumption) bb_max ?_)
  | ((with_reducible show WE _ _ (.Call (.Name "min" _) [_, _] [] _) _ _ _); refine we_b2 (by assumption) bb_min ?_)
  | ((with_reducible show BinG _ _ (binaryOp .Add) (.int _) (.int _) _ _); refine b_add ?_)
  | ((with_reducible show BinG _ _ (binaryOp .Sub) (.int _) (.int _) _ _); refine b_sub ?_)
  | ((with_reducible show BinG _ _ (binaryOp .Mod) (.int _) (.int _) _ _); refine b_mod (by omega) ?_)
  | ((with_reducible show BinG _ _ (binaryOp .FloorDiv) (.int _) (.int _) _ _); refine b_div ⟨by omega, by omega⟩ ?_)
  | ((with_reducible show BinG _ _ (binaryOp .Mult) (.int _) (.int _) _ _); first | refine b_mul (.inr ⟨by omega, by omega⟩) ?_ | refine b_mul (.inl ⟨by omega, by omega⟩) ?_)
  | ((with_reducible show BinG _ _ (compareOp .Lt) (.int _) (.int _) _ _); refine b_lt ?_)
  | ((with_reducible show BinG _ _ (compareOp .LtE) (.int _) (.int _) _ _); refine b_le ?_)
  | ((with_reducible show BinG _ _ (compareOp .Gt) (.int _) (.int _) _ _); refine b_gt ?_)
  | ((with_reducible show BinG _ _ (compareOp .GtE) (.int _) (.int _) _ _); refine b_ge ?_)
  | ((with_reducible show BinG _ _ (compareOp .Eq) (.int _) (.int _) _ _); refine b_eqI (by assumption) ?_)
  | ((with_reducible show BinG _ _ (compareOp .NotEq) (.int _) (.int _) _ _); refine b_neI (by assumption) ?_)
  | ((with_reducible show UnG _ _ (unaryOp .USub) (.int _) _ _); refine b_neg ?_)
  | (with_reducible refine ex_bl ?_)
  | ((with_reducible show CallG _ _ (.type "int") [.int _] _ _); refine c_int ?_)
  | ((with_reducible show CallG _ _ (.type "int") [.bl _] _ _); refine c_intB ?_)
  | ((with_reducible show CallG _ _ (.builtin "abs") _ _ _); refine c_abs ?_)
  | ((with_reducible show CallG _ _ (.builtin "len") [.lst _] _ _); refine c_len ?_)
  | ((with_reducible show CallG _ _ (.builtin "len") [.tup _] _ _); refine c_lenT ?_)
  | ((with_reducible show CallG _ _ (.builtin "len") [.raw _] _ _); refine c_lenM (by first | assumption | exact updM_same) ?_)
  | ((with_reducible show CallG _ _ (.type "list") [.tup _] _ _); refine c_listT ?_)
  | ((with_reducible show CallG _ _ (.type "tuple") [.lst _] _ _); refine c_tuple ?_)
  | ((with_reducible show CallG _ _ (.type "tuple") [.tup _] _ _); refine c_tupleT ?_)
  | ((with_reducible show CallG _ _ (.builtin "max") [.int _, .int _] _ _); refine c_max2 rfl ?_)
  | ((with_reducible show CallG _ _ (.builtin "min") [.int _, .int _] _ _); refine c_min2 rfl ?_)
  | ((with_reducible show IxG _ _ (.tup _) _ _ _); refine ix_tupD rfl ?_)
  | ((with_reducible show IxG _ _ (.raw _) _ _ _); refine ix_mlst (by first | assumption | exact updM_same) rfl ?_)
  | ((with_reducible show WA _ _ (_ :: _) _ _ _); refine wa_cons ?_)
  | ((with_reducible show WA _ _ [] _ _ _); refine wa_nil ?_))
section
variable {P : Program} {w : World} {K : PySem.W.Frag} {mg : Str → Option Value} {base : Heap}
/-- a value drawn for each item: q the mutable object that the draws write, B what it stays -/
theorem lct_drawD {X : Cx} {Pm : Hp → Prop} {M : Mst} {ds : Ds} {scope : Scope} {t : Tg} {vs : List Nat} {elt : Expr} {n : Nat} {item : Nat → D} {q : Addr} {B : D → Prop} {P : D → Prop} (hq : ∃ d, M q = some d)
    (h : ∀ i, i < n → ∀ M' d', M' q = some d' → B d' → ∃ ds', bindT (wipeD ds vs) t (item i) = some ds' ∧ InB X scope fun Y => WE Pm Y elt M' ds' fun d M2 => ∃ d2, P d ∧ B d2 ∧ M2 = updM M' q d2) :
    LcT Pm X scope t vs [] elt ds n item fun i acc M2 => ∃ (d' : D), acc.length = i ∧ (∀ z ∈ acc, P z) ∧ B d' ∧ M2 = updM M q d' := by
  rintro i acc M' r hi ⟨d', hl, hP, hB, rfl⟩ hr
  have hrq : r ≠ q := fun e => by rw [e, updM_same] at hr; cases hr
  have hMq : updM (updM M q d') r (.lst acc) q = some d' := by rw [updM_ne (Ne.symm hrq), updM_same]
  obtain ⟨ds', hb, h2⟩ := h i hi _ d' hMq hB
  refine ⟨ds', hb, fun s0 H0 C cl fp => wts_nil ⟨_, rfl, hr, fun _ s1 H1 C1 cl1 fp1 => ?_, fun z => (by cases z)⟩⟩
  intro σ H F mF ok
  refine wE_mono (h2 s1 H1 C1 cl1 fp1 σ H F mF ok) fun v H2 ⟨d, M4, o4, d2, hz, hB2, e2⟩ => ⟨d, M4, o4, updM M q d2, ?_, ?_, d2, ?_, ?_, hB2, rfl⟩
  · rw [e2, updM_comm hrq, updM_updM]
  · rw [updM_ne hrq] at hr ⊢; exact hr
  · rw [List.length_append, hl]; rfl
  · intro y hy
    rcases List.mem_append.mp hy with q | q
    · exact hP y q
    · simp at q; rw [q]; exact hz
abbrev PN : D → Prop := fun d => ∃ x, x ∈ NM ∧ d = .str x
theorem pn_list : ∀ {acc : List D}, (∀ z ∈ acc, PN z) → ∃ l : List Str, acc = l.map D.str ∧ l.length = acc.length ∧ ∀ x ∈ l, x ∈ NM
  | [], _ => ⟨[], rfl, rfl, fun x hx => by cases hx⟩
  | d :: acc, h => by
    obtain ⟨x, hx, rfl⟩ := h d List.mem_cons_self
    obtain ⟨l, rfl, hl, hn⟩ := pn_list (acc := acc) fun z hz => h z (List.mem_cons_of_mem _ hz)
    exact ⟨x :: l, rfl, by simp, fun y hy => (List.mem_cons.mp hy).elim (fun e => e ▸ hx) (hn y)⟩
/-! ### _law_row -/
def Bw : Int := 20000000000000000
def spRow : SpD := fun xs M Q => ∃ (p : Addr) (d : D) (ns : List Str), xs = [.raw (.ref p), .lst (ns.map D.str)] ∧ M p = some d ∧ BagD d ∧ 0 < ns.length ∧ ns.length < 1000 ∧ (∀ x ∈ ns, x ∈ NM) ∧ ∀ R d', Ko Bw R → R.l.length ≤ 4 → R.m.length ≤ 9 → R.r.length ≤ 4 → BagD d' → Q (rowD R) (updM M p d')
theorem sc_row : FnScope ["bag", "names", "one", "k", "middle", "other"] ["bag", "names"] d__law_row.scope := ⟨rfl, rfl, rfl, by decide +kernel, rfl, by decide +kernel, by decide +kernel⟩
theorem cal_row (m : Md K mg base) : CalD P w K mg base 3 "_law_row" spRow [] := by
  refine cal_of (d := d__law_row) rfl (fd__law_row m.c) (He.glo_ok m.i m.n (glo__law_row m.c)) sc_row (fun xs M Q ⟨a, b, c, e, _⟩ => by rw [e]; rfl) (fun _ _ _ _ _ _ us hl => match us, hl with | [_, _], _ => rfl) ?_
  rintro cdv A outer s H E hr xs M Q ⟨p, d, ns, rfl, hM, hB, hn0, hn1, hnm, hQ⟩
  have nd := sc_row.nd
  have frange : mg "range" = none := He.free_ok m.i m.n (free_range m.c)
  have hsz : sizeLine = 16777216 := sizeLine_eq
  have pk : ∀ z : D, z ∈ ns.map D.str → PN z := fun z hz => by
    obtain ⟨x, hx, rfl⟩ := List.mem_map.mp hz
    exact ⟨x, hnm x hx, rfl⟩
  -- one
  refine wss_cut (fun ds1 M1 => ∃ (l : List Str) (d2 : D), ds1 = [some (.raw (.ref p)), some (.lst (ns.map D.str)), some (.lst (l.map D.str)), none, none, none] ∧ M1 = updM M p d2 ∧ BagD d2 ∧ 0 < l.length ∧ l.length ≤ 4 ∧ ∀ x ∈ l, x ∈ NM)
    (ws_lcG 2 (.nm 3) rfl nd rfl (own := [("k", 3)]) (blkOk_by (by kernel_rfl)) (by decide) (fun s0 H0 C cl fp => pgN nd rfl) (R := fun n item M1 => 0 < n ∧ n ≤ 4 ∧ ∃ d2, M1 = updM M p d2 ∧ BagD d2 ∧ item = (fun i => .int (i : Nat))) ?_ ?_) ?_
  · exact wi_range1 frange <| wa1 <| we_bin <| we_int <| we_cal (cal_take m) hr (by decide) <| wa2 <| we_var 0 rfl rfl <| we_int ⟨p, d, 4, rfl, hM, hB, by decide, by decide, fun z d1 h1 h2 hB1 => b_add ⟨_, rfl, by omega, by omega, by omega, by omega, d1, rfl, hB1, rfl⟩⟩
  · rintro n item M1 ⟨hn, hn4, d1, rfl, hB1, rfl⟩
    refine ⟨by omega, _, ⟨d1, rfl, fun z hz => (by cases hz), hB1, (updM_self updM_same).symm⟩, ?_, lct_drawD (P := PN) (B := BagD) ⟨d1, updM_same⟩ ?_⟩
    · rintro acc M2 ⟨d2, hl, hP, hB2, rfl⟩
      obtain ⟨l, rfl, hl2, hln⟩ := pn_list hP
      rw [updM_updM]
      exact ⟨l, d2, rfl, rfl, hB2, by omega, by omega, hln⟩
    · intro i hi M' d' hM' hB'
      exact ⟨_, rfl, fun s0 H0 C cl fp => we_cal (cal_pick m) hr (by decide) <| wa2 <| we_var 0 rfl rfl <| we_var 1 rfl rfl ⟨p, d', _, rfl, hM', hB', by rw [List.length_map]; exact hn0, by rw [List.length_map]; exact hn1, fun x d2 hx hB2 => ⟨d2, pk x hx, hB2, rfl⟩⟩⟩
  rintro ds1 M1 ⟨l, d2, rfl, rfl, hB2, l0, l4, hln⟩
  refine wss_cons <| ws_if <| wt_cmp <| we_cal (cal_take m) hr (by decide) <| wa2 <| we_var 0 rfl rfl <| we_int ⟨p, d2, 4, rfl, updM_same, hB2, by decide, by decide, fun z d3 h1 h2 hB3 => we_int <| b_eqI hr ⟨_, rfl, fun _ => ?_, fun _ => wss_nil ?_⟩⟩
  · rw [updM_updM]
    refine wss_one <| ws_ret <| we_tup <| wa_cons <| we_bl <| wa_cons <| we_var 2 rfl rfl <| wa3 <| we_lst (wa_nil ⟨sz rfl, we_var 2 rfl rfl <| we_int ⟨sz rfl, hQ (rg l) d3 ?_ l4 (Nat.zero_le _) l4 hB3⟩⟩)
    exact ⟨l0, by show l.length ≤ 30; omega, Nat.zero_le _, l0, by show l.length ≤ 30; omega, hln, fun x hx => (by cases hx), hln, fun _ => ⟨rfl, rfl, rfl⟩, by show -Bw ≤ (0 : Int); unfold Bw; omega, by show (0 : Int) ≤ Bw; unfold Bw; omega⟩
  rw [updM_updM]
  -- middle
  refine wss_cut (fun ds1 M1 => ∃ (mi : List Str) (d2 : D), ds1 = [some (.raw (.ref p)), some (.lst (ns.map D.str)), some (.lst (l.map D.str)), none, some (.lst (mi.map D.str)), none] ∧ M1 = updM M p d2 ∧ BagD d2 ∧ mi.length ≤ 9 ∧ ∀ x ∈ mi, x ∈ NM)
    (ws_lcG 4 (.nm 3) rfl nd rfl (own := [("k", 3)]) (blkOk_by (by kernel_rfl)) (by decide) (fun s0 H0 C cl fp => pgN nd rfl) (R := fun n item M1 => n ≤ 9 ∧ ∃ d2, M1 = updM M p d2 ∧ BagD d2 ∧ item = (fun i => .int (i : Nat))) ?_ ?_) ?_
  · refine wi_range1 frange <| wa1 <| we_cal (cal_pick m) hr (by decide) <| wa2 <| we_var 0 rfl rfl <| we_lst ?_
    repeat walk_at "dl"
    refine ⟨sz rfl, p, d3, _, rfl, updM_same, hB3, by decide, by decide, fun x d4 hx hB4 => ?_⟩
    rw [updM_updM]
    have hx2 : ∃ n : Nat, x = .int (n : Int) ∧ n ≤ 9 := by
      simp only [List.mem_cons, List.not_mem_nil, or_false] at hx
      rcases hx with rfl | rfl | rfl | rfl | rfl | rfl
      · exact ⟨0, rfl, by omega⟩
      · exact ⟨1, rfl, by omega⟩
      · exact ⟨2, rfl, by omega⟩
      · exact ⟨3, rfl, by omega⟩
      · exact ⟨5, rfl, by omega⟩
      · exact ⟨9, rfl, by omega⟩
    obtain ⟨n, rfl, hn⟩ := hx2
    exact ⟨n, rfl, by omega, by omega, by omega, d4, rfl, hB4, rfl⟩
  · rintro n item M1 ⟨hn4, d1, rfl, hB1, rfl⟩
    refine ⟨by omega, _, ⟨d1, rfl, fun z hz => (by cases hz), hB1, (updM_self updM_same).symm⟩, ?_, lct_drawD (P := PN) (B := BagD) ⟨d1, updM_same⟩ ?_⟩
    · rintro acc M2 ⟨d2, hl, hP, hB2, rfl⟩
      obtain ⟨mi, rfl, hl2, hln⟩ := pn_list hP
      rw [updM_updM]
      exact ⟨mi, d2, rfl, rfl, hB2, by omega, hln⟩
    · intro i hi M' d' hM' hB'
      exact ⟨_, rfl, fun s0 H0 C cl fp => we_cal (cal_pick m) hr (by decide) <| wa2 <| we_var 0 rfl rfl <| we_var 1 rfl rfl ⟨p, d', _, rfl, hM', hB', by rw [List.length_map]; exact hn0, by rw [List.length_map]; exact hn1, fun x d2 hx hB2 => ⟨d2, pk x hx, hB2, rfl⟩⟩⟩
  rintro ds1 M1 ⟨mi, d4, rfl, rfl, hB4, m9, hmn⟩
  -- other
  refine wss_cut (fun ds1 M1 => ∃ (r : List Str) (d2 : D), ds1 = [some (.raw (.ref p)), some (.lst (ns.map D.str)), some (.lst (l.map D.str)), none, some (.lst (mi.map D.str)), some (.lst (r.map D.str))] ∧ M1 = updM M p d2 ∧ BagD d2 ∧ 0 < r.length ∧ r.length ≤ 4 ∧ ∀ x ∈ r, x ∈ NM)
    (ws_lcG 5 (.nm 3) rfl nd rfl (own := [("k", 3)]) (blkOk_by (by kernel_rfl)) (by decide) (fun s0 H0 C cl fp => pgN nd rfl) (R := fun n item M1 => 0 < n ∧ n ≤ 4 ∧ ∃ d2, M1 = updM M p d2 ∧ BagD d2 ∧ item = (fun i => .int (i : Nat))) ?_ ?_) ?_
  · refine wi_range1 frange <| wa1 <| we_bin <| we_int <| we_cal (cal_take m) hr (by decide) <| wa2 <| we_var 0 rfl rfl <| we_int ⟨p, d4, 4, rfl, updM_same, hB4, by decide, by decide, fun z d1 h1 h2 hB1 => b_add ⟨_, rfl, by omega, by omega, by omega, by omega, d1, ?_, hB1, rfl⟩⟩
    rw [updM_updM]
  · rintro n item M1 ⟨hn, hn4, d1, rfl, hB1, rfl⟩
    refine ⟨by omega, _, ⟨d1, rfl, fun z hz => (by cases hz), hB1, (updM_self updM_same).symm⟩, ?_, lct_drawD (P := PN) (B := BagD) ⟨d1, updM_same⟩ ?_⟩
    · rintro acc M2 ⟨d2, hl, hP, hB2, rfl⟩
      obtain ⟨r, rfl, hl2, hln⟩ := pn_list hP
      rw [updM_updM]
      exact ⟨r, d2, rfl, rfl, hB2, by omega, by omega, hln⟩
    · intro i hi M' d' hM' hB'
      exact ⟨_, rfl, fun s0 H0 C cl fp => we_cal (cal_pick m) hr (by decide) <| wa2 <| we_var 0 rfl rfl <| we_var 1 rfl rfl ⟨p, d', _, rfl, hM', hB', by rw [List.length_map]; exact hn0, by rw [List.length_map]; exact hn1, fun x d2 hx hB2 => ⟨d2, pk x hx, hB2, rfl⟩⟩⟩
  rintro ds1 M1 ⟨r, d5, rfl, rfl, hB5, r0, r4, hrn⟩
  refine wss_one <| ws_ret <| we_tup <| wa_cons <| we_bl <| wa_cons <| we_var 2 rfl rfl <| wa3 <| we_var 4 rfl rfl <| we_var 5 rfl rfl <| we_cal (cal_pick m) hr (by decide) <| wa2 <| we_var 0 rfl rfl <| we_lst <| wa_cons <| we_int <| wa_cons <| we_int <| wa_cons ?_
  repeat walk_at "dl"
  refine we_cal (cal_take m) hr (by decide) <| wa2 <| we_var 0 rfl rfl <| we_int ⟨p, d5, 30, rfl, updM_same, hB5, by decide, by decide, fun z1 d6 a1 a2 hB6 => b_sub ?_⟩
  rw [updM_updM]
  refine wa2 ?_
  repeat walk_at "dl"
  refine b_pow ⟨by decide, by decide, by decide⟩ ?_
  rw [show (10 : Int) ^ (15 : Int).toNat = 1000000000000000 from by decide]
  refine we_cal (cal_take m) hr (by decide) <| wa2 <| we_var 0 rfl rfl <| we_bin <| we_int <| we_int ?_
  refine b_pow ⟨by decide, by decide, by decide⟩ ?_
  rw [show (10 : Int) ^ (9 : Int).toNat = 1000000000 from by decide]
  refine ⟨p, d6, _, rfl, updM_same, hB6, by decide, by decide, fun z2 d7 b1 b2 hB7 => b_add ?_⟩
  rw [updM_updM]
  refine we_bin <| we_cal (cal_take m) hr (by decide) <| wa2 <| we_var 0 rfl rfl <| we_bin <| we_int <| we_int ?_
  refine b_pow ⟨by decide, by decide, by decide⟩ ?_
  rw [show (10 : Int) ^ (16 : Int).toNat = 10000000000000000 from by decide]
  refine ⟨p, d7, _, rfl, updM_same, hB7, by decide, by decide, fun z3 d8 c1 c2 hB8 => ?_⟩
  rw [updM_updM]
  repeat walk_at "dl"
  refine b_pow ⟨by decide, by decide, by decide⟩ ?_
  rw [show (10 : Int) ^ (16 : Int).toNat = 10000000000000000 from by decide]
  refine b_sub ⟨sz rfl, p, d8, _, rfl, updM_same, hB8, by simp, by simp, fun x d9 hx hB9 => ?_⟩
  rw [updM_updM]
  have hx2 : ∃ s : Int, x = .int s ∧ -Bw ≤ s ∧ s ≤ Bw := by
    unfold Bw
    simp only [List.mem_cons, List.not_mem_nil, or_false] at hx
    rcases hx with rfl | rfl | rfl | rfl | rfl | rfl <;> exact ⟨_, rfl, by omega, by omega⟩
  obtain ⟨st, rfl, s1, s2⟩ := hx2
  exact ⟨sz rfl, hQ ⟨false, l, mi, r, st⟩ d9 ⟨l0, by show l.length ≤ 30; omega, by show mi.length ≤ 60; omega, r0, by show r.length ≤ 30; omega, hln, hmn, hrn, fun e => Bool.noConfusion e, s1, s2⟩ l4 m9 r4 hB9⟩
/-! ### _law_written -/
def spWritten : SpD := fun xs M Q => ∃ B R k, xs = [rowD R, .int k] ∧ (k = 1 ∨ k = 2) ∧ Ko B R ∧ R.l.length ≤ 4 ∧ R.m.length ≤ 9 ∧ R.r.length ≤ 4 ∧ ∀ W, Ko (B + 1) W → (∀ t, W.at t = R.at t) → Q (rowD W) M
theorem sc_written : FnScope ["row", "many", "left", "right"] ["row", "many"] d__law_written.scope := ⟨rfl, rfl, rfl, by decide +kernel, rfl, by decide +kernel, by decide +kernel⟩
theorem rep_D {l : List Str} {k : Nat} : (List.replicate k (l.map D.str)).flatten = ((List.replicate k l).flatten).map D.str := by rw [List.map_flatten, List.map_replicate]
theorem rep_mem {l : List Str} {k : Nat} (h : ∀ x ∈ l, x ∈ NM) : ∀ x ∈ (List.replicate k l).flatten, x ∈ NM := fun x hx => by
  obtain ⟨y, hy, hx⟩ := List.mem_flatten.mp hx
  rw [List.eq_of_mem_replicate hy] at hx
  exact h x hx
theorem cut_last {l : List Str} (h : 0 < l.length) : cutD (l.map D.str) (some (-1)) none = (l.drop (l.length - 1)).map D.str := by
  unfold cutD
  have e1 : HT.sIx (l.map D.str).length 0 (some (-1)) = l.length - 1 := by rw [List.length_map]; unfold HT.sIx; first | omega | (simp; omega) | (dsimp only; split <;> omega)
  have e2 : HT.sIx (l.map D.str).length (l.map D.str).length none = (l.map D.str).length := rfl
  rw [e1, e2, List.map_drop, List.take_of_length_le (by rw [List.length_drop]; omega)]
theorem cut_init {l : List Str} (h : 0 < l.length) : cutD (l.map D.str) none (some (-1)) = (l.take (l.length - 1)).map D.str := by
  unfold cutD
  have e1 : HT.sIx (l.map D.str).length 0 none = 0 := rfl
  have e2 : HT.sIx (l.map D.str).length (l.map D.str).length (some (-1)) = l.length - 1 := by rw [List.length_map]; unfold HT.sIx; first | omega | (simp; omega) | (dsimp only; split <;> omega)
  rw [e1, e2, List.map_take, List.drop_zero, Nat.sub_zero]
theorem cal_written (m : Md K mg base) : CalD P w K mg base 1 "_law_written" spWritten [] := by
  refine cal_of (d := d__law_written) rfl (fd__law_written m.c) (He.glo_ok m.i m.n (glo__law_written m.c)) sc_written (fun xs M Q ⟨a, b, c, e, _⟩ => by rw [e]; rfl) (fun _ _ _ _ _ _ us hl => match us, hl with | [_, _], _ => rfl) ?_
  rintro cdv A outer s H E hr xs M Q ⟨B, R, k, rfl, hk, ko, a1, a2, a3, hQ⟩
  have nd := sc_written.nd
  have hsz : sizeLine = 16777216 := sizeLine_eq
  have l0 := ko.l0
  have r0 := ko.r0
  have s1 := ko.s1
  have s2 := ko.s2
  rcases ko_cases ko with ⟨l, rfl⟩ | ⟨l, mi, r, st, rfl⟩
  · have l0' : 0 < l.length := l0
    have a1' : l.length ≤ 4 := a1
    have s1' : -B ≤ 0 := s1
    refine wss_cons <| ws_if <| wt_truth <| we_ix <| we_var 0 rfl rfl <| we_int <| ix_tupD rfl <| tru_is rfl ⟨fun _ => ?_, fun h => (by cases h)⟩
    refine wss_one <| ws_ret <| we_ifx <| wt_cmp <| we_var 1 rfl rfl <| we_int <| b_gt ⟨_, rfl, fun h => ?_, fun h => ?_⟩
    · have h := of_decide_eq_true h
      obtain rfl : k = 2 := by omega
      refine we_tup <| wa_cons <| we_bl <| wa_cons <| we_bin <| we_ix <| we_var 0 rfl rfl <| we_int <| ix_tupD rfl <| we_var 1 rfl rfl <| b_mulL (by decide) (by decide) (by rw [List.length_map]; show l.length * 2 ≤ _; omega) <| wa3 <| we_lst (wa_nil ⟨sz rfl, we_bin <| we_ix <| we_var 0 rfl rfl <| we_int <| ix_tupD rfl <| we_var 1 rfl rfl <| b_mulL (by decide) (by decide) (by rw [List.length_map]; show l.length * 2 ≤ _; omega) <| we_int ⟨sz rfl, ?_⟩⟩)
      have hl2 : (List.replicate 2 l).flatten.length = 2 * l.length := flat_len 2
      have := hQ (rg (List.replicate 2 l).flatten) ⟨by show 0 < (List.replicate 2 l).flatten.length; omega, by show (List.replicate 2 l).flatten.length ≤ 30; omega, Nat.zero_le _, by show 0 < (List.replicate 2 l).flatten.length; omega, by show (List.replicate 2 l).flatten.length ≤ 30; omega, rep_mem ko.nl, fun x hx => (by cases hx), rep_mem ko.nl, fun _ => ⟨rfl, rfl, rfl⟩, by show -(B + 1) ≤ 0; omega, by show (0 : Int) ≤ B + 1; omega⟩ (wr_ring2 l0')
      unfold rowD at this
      rw [← rep_D] at this
      exact this
    · refine we_tup <| wa_cons <| we_bl <| wa_cons <| we_ix <| we_var 0 rfl rfl <| we_int <| ix_tupD rfl <| wa3 <| we_ix <| we_var 0 rfl rfl <| we_int <| ix_tupD rfl <| we_ix <| we_var 0 rfl rfl <| we_int <| ix_tupD rfl <| we_int ⟨sz rfl, ?_⟩
      exact hQ ⟨false, l, l, l, 0⟩ ⟨l0', by show l.length ≤ 30; omega, by show l.length ≤ 60; omega, l0', by show l.length ≤ 30; omega, ko.nl, ko.nl, ko.nl, fun e => Bool.noConfusion e, by show -(B + 1) ≤ 0; omega, by show (0 : Int) ≤ B + 1; omega⟩ (wr_ring1 l0')
  · have l0' : 0 < l.length := l0
    have r0' : 0 < r.length := r0
    have a1' : l.length ≤ 4 := a1
    have a2' : mi.length ≤ 9 := a2
    have a3' : r.length ≤ 4 := a3
    have s1' : -B ≤ st := s1
    have s2' : st ≤ B := s2
    refine wss_cons <| ws_if <| wt_truth <| we_ix <| we_var 0 rfl rfl <| we_int <| ix_tupD rfl <| tru_is rfl ⟨fun h => (by cases h), fun _ => wss_nil ?_⟩
    refine wss_cons <| ws_par2 2 3 rfl nd rfl rfl <| wa2 <| we_ix <| we_var 0 rfl rfl <| we_int <| ix_tupD rfl <| we_ix <| we_var 0 rfl rfl <| we_int <| ix_tupD rfl ⟨_, _, rfl, ?_⟩
    refine wss_cons <| ws_if <| wt_cmp <| we_var 1 rfl rfl <| we_int <| b_eqI hr ⟨_, rfl, fun h => ?_, fun h => wss_nil ?_⟩
    · refine wss_one <| ws_ret <| we_tup <| wa_cons <| we_bl <| wa_cons <| we_bin <| we_var 2 rfl rfl <| we_int <| b_mulL (by decide) (by decide) (by rw [List.length_map]; show l.length * 2 ≤ _; omega) <| wa3 <| we_bin <| we_ix <| we_var 0 rfl rfl <| we_int <| ix_tupD rfl <| we_var 3 rfl rfl <| b_addLS mi r (by omega) <| we_var 3 rfl rfl <| we_ix <| we_var 0 rfl rfl <| we_int <| ix_tupD rfl ⟨sz rfl, ?_⟩
      have hl2 : (List.replicate 2 l).flatten.length = 2 * l.length := flat_len 2
      have := hQ ⟨false, (List.replicate 2 l).flatten, mi ++ r, r, st⟩ ⟨by show 0 < (List.replicate 2 l).flatten.length; omega, by show (List.replicate 2 l).flatten.length ≤ 30; omega, by show (mi ++ r).length ≤ 60; rw [List.length_append]; omega, r0', by show r.length ≤ 30; omega, rep_mem ko.nl, fun x hx => (List.mem_append.mp hx).elim (ko.nm x) (ko.nr x), ko.nr, fun e => Bool.noConfusion e, by show -(B + 1) ≤ st; omega, by show st ≤ B + 1; omega⟩ (wr_end1 l0' r0')
      unfold rowD at this
      rw [← rep_D] at this
      exact this
    · have h := of_decide_eq_false h
      obtain rfl : k = 2 := by omega
      refine wss_one <| ws_ret <| we_tup <| wa_cons <| we_bl <| wa_cons <| we_bin <| we_bin <| we_slice <| we_var 2 rfl rfl <| wo_some <| we_un <| we_int <| b_neg ⟨_, rfl, wo_none ⟨_, .lst _ _ _, we_slice <| we_var 2 rfl rfl <| wo_none <| wo_some <| we_un <| we_int <| b_neg ⟨_, rfl, _, .lst _ _ _, ?_⟩⟩⟩
      rw [cut_last l0', cut_init l0']
      have e1 : (l.drop (l.length - 1) ++ l.take (l.length - 1)).length = l.length := by rw [List.length_append, List.length_drop, List.length_take]; omega
      have e3 : (l.drop (l.length - 1)).length = 1 := by rw [List.length_drop]; omega
      have e4 : (r.take 1).length = 1 := by rw [List.length_take]; omega
      have e2 : (r.drop 1 ++ r.take 1).length = r.length := by rw [List.length_append, List.length_drop, List.length_take]; omega
      refine b_addLS _ _ (by rw [e3, List.length_take]; omega) <| we_var 1 rfl rfl <| b_mulL (by decide) (by decide) (by rw [List.length_map, e1]; show l.length * 2 ≤ _; omega) ?_
      rw [show (2 : Int).toNat = 2 from rfl, rep_D]
      refine wa3 <| we_bin <| we_bin <| we_bin <| we_slice <| we_var 2 rfl rfl <| wo_some <| we_un <| we_int <| b_neg ⟨_, rfl, wo_none ⟨_, .lst _ _ _, ?_⟩⟩
      rw [cut_last l0']
      refine we_ix <| we_var 0 rfl rfl <| we_int <| ix_tupD rfl <| b_addLS _ mi (by rw [e3]; omega) <| we_var 3 rfl rfl <| b_addLS _ r (by rw [List.length_append, e3]; omega) <| we_slice <| we_var 3 rfl rfl <| wo_none <| wo_some <| we_int ⟨((1 : Nat) : Int), rfl, _, .lst _ _ _, ?_⟩
      rw [cutD_take (by omega)]
      refine b_addLS _ (r.take 1) (by rw [List.length_append, List.length_append, e3, e4]; omega) <| we_bin <| we_slice <| we_var 3 rfl rfl <| wo_some <| we_int ⟨((1 : Nat) : Int), rfl, wo_none ⟨_, .lst _ _ _, we_slice <| we_var 3 rfl rfl <| wo_none <| wo_some <| we_int ⟨((1 : Nat) : Int), rfl, _, .lst _ _ _, ?_⟩⟩⟩
      rw [cutD_take (by omega), cutD_drop (by omega)]
      refine b_addLS _ _ (by rw [e4, List.length_drop]; omega) <| we_bin <| we_ix <| we_var 0 rfl rfl <| we_int <| ix_tupD rfl <| we_int <| b_sub ⟨sz rfl, ?_⟩
      have hl2 : (List.replicate 2 (l.drop (l.length - 1) ++ l.take (l.length - 1))).flatten.length = 2 * l.length := by rw [flat_len, e1]
      have md : ∀ {x : Str} {n : Nat}, x ∈ l.drop n → x ∈ NM := fun h => ko.nl _ (List.mem_of_mem_drop h)
      have mt : ∀ {x : Str} {n : Nat}, x ∈ l.take n → x ∈ NM := fun h => ko.nl _ (List.mem_of_mem_take h)
      have rd : ∀ {x : Str} {n : Nat}, x ∈ r.drop n → x ∈ NM := fun h => ko.nr _ (List.mem_of_mem_drop h)
      have rt : ∀ {x : Str} {n : Nat}, x ∈ r.take n → x ∈ NM := fun h => ko.nr _ (List.mem_of_mem_take h)
      have nm3 : ∀ x ∈ l.drop (l.length - 1) ++ mi ++ r ++ r.take 1, x ∈ NM := fun x hx => (List.mem_append.mp hx).elim (fun hx => (List.mem_append.mp hx).elim (fun hx => (List.mem_append.mp hx).elim md (ko.nm x)) (ko.nr x)) rt
      have := hQ ⟨false, (List.replicate 2 (l.drop (l.length - 1) ++ l.take (l.length - 1))).flatten, l.drop (l.length - 1) ++ mi ++ r ++ r.take 1, r.drop 1 ++ r.take 1, st - 1⟩ ⟨by show 0 < List.length _; rw [hl2]; omega, by show List.length _ ≤ 30; rw [hl2]; omega, by show List.length _ ≤ 60; simp only [List.length_append, e3, e4]; omega, by show 0 < List.length _; rw [e2]; omega, by show List.length _ ≤ 30; rw [e2]; omega, rep_mem (l := l.drop (l.length - 1) ++ l.take (l.length - 1)) (fun x hx => (List.mem_append.mp hx).elim md mt), nm3, fun x hx => (List.mem_append.mp hx).elim rd rt, fun e => Bool.noConfusion e, by show -(B + 1) ≤ st - 1; omega, by show st - 1 ≤ B + 1; omega⟩ (wr_end2 l0' r0')
      exact this
end
end K03

namespace K03
open PySem PySem.Spec L2 DL

local macro_rules | `(tactic| walk_at "dl") => `(tactic| first
  | ((with_reducible show WE _ _ (.Constant _ _ _) _ _ _); first | refine we_int ?_ | refine we_str ?_ | refine we_bl ?_ | refine we_non ?_)
  | ((with_reducible show WE _ _ (.Name _ _) _ _ _); first | refine we_var 0 rfl rfl ?_ | refine we_var 1 rfl rfl ?_ | refine we_var 2 rfl rfl ?_ | refine we_var 3 rfl rfl ?_ | refine we_var 4 rfl rfl ?_ | refine we_var 5 rfl rfl ?_ | refine we_var 6 rfl rfl ?_ | refine we_var 7 rfl rfl ?_ | refine we_var 8 rfl rfl ?_ | refine we_var 9 rfl rfl ?_ | refine we_var 10 rfl rfl ?_ | refine we_var 11 rfl rfl ?_ | refine we_var 12 rfl rfl ?_ | refine we_var 13 rfl rfl ?_ | refine we_var 14 rfl rfl ?_ | refine we_var 15 rfl rfl ?_)
  | ((with_reducible show WE _ _ (.BinOp _ _ _ _) _ _ _); refine we_bin ?_)
  | ((with_reducible show WE _ _ (.Compare _ [_] [_] _) _ _ _); refine we_cmp ?_)
  | ((with_reducible show WT _ _ (.Compare _ [_] [_] _) _ _ _); refine wt_cmp ?_)
  | ((with_reducible show WE _ _ (.UnaryOp .USub _ _) _ _ _); refine we_un ?_)
  | ((with_reducible show WT _ _ (.UnaryOp .Not _ _) _ _ _); refine wt_not ?_)
  | ((with_reducible show WE _ _ (.IfExp _ _ _ _) _ _ _); refine we_ifx ?_)
  | ((with_reducible show WE _ _ (.Subscript _ (.Name _ _) _) _ _ _); refine we_ix ?_)
  | ((with_reducible show WE _ _ (.Subscript _ (.Constant _ _ _) _) _ _ _); refine we_ix ?_)
  | ((with_reducible show WE _ _ (.Subscript _ (.Subscript _ _ _) _) _ _ _); refine we_ix ?_)
  | ((with_reducible show WE _ _ (.Subscript _ (.BinOp _ _ _ _) _) _ _ _); refine we_ix ?_)
  | ((with_reducible show WE _ _ (.Subscript _ (.UnaryOp _ _ _) _) _ _ _); refine we_ix ?_)
  | ((with_reducible show WE _ _ (.Subscript _ (.Call _ _ _ _) _) _ _ _); refine we_ix ?_)
  | ((with_reducible show WE _ _ (.Call (.Name "len" _) [_] [] _) _ _ _); refine we_b1 (by assumption) bb_len ?_)
  | ((with_reducible show WE _ _ (.Call (.Name "abs" _) [_] [] _) _ _ _); refine we_b1 (by assumption) bb_abs ?_)
  | ((with_reducible show WE _ _ (.Call (.Name "int" _) [_] [] _) _ _ _); refine we_t1 (by assumption) bb_int ?_)
  | ((with_reducible show WE _ _ (.Call (.Name "list" _) [_] [] _) _ _ _); refine we_t1 (by assumption) bb_list ?_)
  | ((with_reducible show WE _ _ (.Call (.Name "tuple" _) [_] [] _) _ _ _); refine we_t1 (by assumption) bb_tuple ?_)
  | ((with_reducible show WE _ _ (.Call (.Name "str" _) [_] [] _) _ _ _); refine we_t1 (by assumption) bb_str ?_)
  | ((with_reducible show WE _ _ (.Call (.Name "set" _) [_] [] _) _ _ _); refine we_t1 (by assumption) bb_set ?_)
  | ((with_reducible show WE _ _ (.Call (.Name "sorted" _) [_] [] _) _ _ _); refine we_b1 (by assumption) bb_sorted ?_)
  | ((with_reducible show WE _ _ (.Call (.Name "isinstance" _) [_, _] [] _) _ _ _); refine we_b2 (by assumption) bb_isinstance ?_)
  | ((with_reducible show WE _ _ (.Call (.Name "max" _) [_] [] _) _ _ _); refine we_b1 (by assumption) bb_max ?_)
  | ((with_reducible show WE _ _ (.Call (.Name "min" _) [_] [] _) _ _ _); refine we_b1 (by assumption) bb_min ?_)
  | ((with_reducible show WE _ _ (.Call (.Name "max" _) [_, _] [] _) _ _ _); refine we_b2 (by assumption) bb_max ?_)
  | ((with_reducible show WE _ _ (.Call (.Name "min" _) [_, _] [] _) _ _ _); refine we_b2 (by assumption) bb_min ?_)
  | ((with_reducible show BinG _ _ (binaryOp .Add) (.int _) (.int _) _ _); refine b_add ?_)
  | ((with_reducible show BinG _ _ (binaryOp .Sub) (.int _) (.int _) _ _); refine b_sub ?_)
  | ((with_reducible show BinG _ _ (binaryOp .Mod) (.int _) (.int _) _ _); refine b_mod (by omega) ?_)
  | ((with_reducible show BinG _ _ (binaryOp .FloorDiv) (.int _) (.int _) _ _); refine b_div ⟨by omega, by omega⟩ ?_)
  | ((with_reducible show BinG _ _ (binaryOp .Mult) (.int _) (.int _) _ _); first | refine b_mul (.inr ⟨by omega, by omega⟩) ?_ | refine b_mul (.inl ⟨by omega, by omega⟩) ?_)
  | ((with_reducible show BinG _ _ (compareOp .Lt) (.int _) (.int _) _ _); refine b_lt ?_)
  | ((with_reducible show BinG _ _ (compareOp .LtE) (.int _) (.int _) _ _); refine b_le ?_)
  | ((with_reducible show BinG _ _ (compareOp .Gt) (.int _) (.int _) _ _); refine b_gt ?_)
  | ((with_reducible show BinG _ _ (compareOp .GtE) (.int _) (.int _) _ _); refine b_ge ?_)
  | ((with_reducible show BinG _ _ (compareOp .Eq) (.int _) (.int _) _ _); refine b_eqI (by assumption) ?_)
  | ((with_reducible show BinG _ _ (compareOp .NotEq) (.int _) (.int _) _ _); refine b_neI (by assumption) ?_)
  | ((with_reducible show UnG _ _ (unaryOp .USub) (.int _) _ _); refine b_neg ?_)
  | (with_reducible refine ex_bl ?_)
  | ((with_reducible show CallG _ _ (.type "int") [.int _] _ _); refine c_int ?_)
  | ((with_reducible show CallG _ _ (.type "int") [.bl _] _ _); refine c_intB ?_)
  | ((with_reducible show CallG _ _ (.builtin "abs") _ _ _); refine c_abs ?_)
  | ((with_reducible show CallG _ _ (.builtin "len") [.lst _] _ _); refine c_len ?_)
  | ((with_reducible show CallG _ _ (.builtin "len") [.tup _] _ _); refine c_lenT ?_)
  | ((with_reducible show CallG _ _ (.builtin "len") [.raw _] _ _); refine c_lenM (by first | assumption | exact updM_same) ?_)
  | ((with_reducible show CallG _ _ (.type "list") [.tup _] _ _); refine c_listT ?_)
  | ((with_reducible show CallG _ _ (.type "tuple") [.lst _] _ _); refine c_tuple ?_)
  | ((with_reducible show CallG _ _ (.type "tuple") [.tup _] _ _); refine c_tupleT ?_)
  | ((with_reducible show CallG _ _ (.builtin "max") [.int _, .int _] _ _); refine c_max2 rfl ?_)
  | ((with_reducible show CallG _ _ (.builtin "min") [.int _, .int _] _ _); refine c_min2 rfl ?_)
  | ((with_reducible show IxG _ _ (.tup _) _ _ _); refine ix_tupD rfl ?_)
  | ((with_reducible show IxG _ _ (.raw _) _ _ _); refine ix_mlst (by first | assumption | exact updM_same) rfl ?_)
  | ((with_reducible show WA _ _ (_ :: _) _ _ _); refine wa_cons ?_)
  | ((with_reducible show WA _ _ [] _ _ _); refine wa_nil ?_))
section
variable {P : Program} {w : World} {K : PySem.W.Frag} {mg : Str → Option Value} {base : Heap}
/-- a mutable list of strings compared with [] -/
theorem b_neMut {X : Cx} {Pm : Hp → Prop} {M : Mst} {Q : QD} {k : Nat} {p : Addr} {xs : List Str} (hr : Room k X.A) (hp : M p = some (.lst (xs.map D.str))) (hok : ∀ x ∈ xs, encS.ok x) (q : Q (.bl (!decide (xs = []))) M) : BinG Pm X (compareOp .NotEq) (.raw (.ref p)) (.lst []) M Q := by
  intro v u H F mF ⟨G, s, hM, z1, z2, z3⟩
  obtain ⟨_, vs, e, hv⟩ := hM p _ hp
  cases z1.raw_inv
  refine wOp_of (op_neD hr.units) ⟨(encL encS).p xs, (encL encS).p [], .lst (SqL.of e) (dps_of s hv (pds_map encS xs)), dp_of s z2 ((encL encS).hp []), enc_shaped (encL encS) hok (by decide), enc_shaped (encL encS) (fun _ h => by cases h) (by decide), .bl _, M, ⟨G, s, hM, ?_, z3⟩, q⟩
  rw [(encL encS).eqv]
  exact rp_bl
structure B3 (M : Mst) (p l0 l1 l2 : Addr) (d : D) (a0 a1 a2 : List Str) (N : Mst) : Prop where
  n01 : l0 ≠ l1
  n02 : l0 ≠ l2
  n12 : l1 ≠ l2
  p0 : p ≠ l0
  p1 : p ≠ l1
  p2 : p ≠ l2
  f0 : M l0 = none
  f1 : M l1 = none
  f2 : M l2 = none
  h0 : N l0 = some (.lst (a0.map D.str))
  h1 : N l1 = some (.lst (a1.map D.str))
  h2 : N l2 = some (.lst (a2.map D.str))
  hp : N p = some d
  ho : ∀ z, z ≠ p → z ≠ l0 → z ≠ l1 → z ≠ l2 → N z = M z
section
variable {M N : Mst} {p l0 l1 l2 q : Addr} {d : D} {a0 a1 a2 ys : List Str}
theorem B3.upd (h : B3 M p l0 l1 l2 d a0 a1 a2 N) (d' : D) : B3 M p l0 l1 l2 d' a0 a1 a2 (updM N p d') :=
  { h with
    h0 := by rw [updM_ne (Ne.symm h.p0)]; exact h.h0
    h1 := by rw [updM_ne (Ne.symm h.p1)]; exact h.h1
    h2 := by rw [updM_ne (Ne.symm h.p2)]; exact h.h2
    hp := updM_same
    ho := fun z z1 z2 z3 z4 => by rw [updM_ne z1]; exact h.ho z z1 z2 z3 z4 }
theorem B3.clear (h : B3 M p l0 l1 l2 d a0 a1 a2 N) : delM (delM (delM N l0) l1) l2 = updM M p d := by
  funext z
  by_cases e2 : z = l2
  · subst e2; rw [delM_same, updM_ne (Ne.symm h.p2), h.f2]
  rw [delM_ne e2]
  by_cases e1 : z = l1
  · subst e1; rw [delM_same, updM_ne (Ne.symm h.p1), h.f1]
  rw [delM_ne e1]
  by_cases e0 : z = l0
  · subst e0; rw [delM_same, updM_ne (Ne.symm h.p0), h.f0]
  rw [delM_ne e0]
  by_cases ep : z = p
  · subst ep; rw [updM_same, h.hp]
  rw [updM_ne ep, h.ho z ep e0 e1 e2]
theorem B3.clear2 (h : B3 M p l0 l1 l2 d a0 a1 a2 N) : delM (delM (delM N l2) l0) l1 = updM M p d := by
  rw [← h.clear]
  funext z
  unfold delM
  by_cases e2 : z = l2 <;> by_cases e1 : z = l1 <;> by_cases e0 : z = l0 <;> simp [e0, e1, e2]
theorem B3.at (h : B3 M p l0 l1 l2 d a0 a1 a2 N) (hq : (q = l0 ∧ ys = a0) ∨ (q = l1 ∧ ys = a1) ∨ (q = l2 ∧ ys = a2)) : N q = some (.lst (ys.map D.str)) := by
  rcases hq with ⟨rfl, rfl⟩ | ⟨rfl, rfl⟩ | ⟨rfl, rfl⟩
  · exact h.h0
  · exact h.h1
  · exact h.h2
theorem nm_set {l : List Str} {j : Nat} {x : Str} (hx : x ∈ NM) (h : ∀ y ∈ l, y ∈ NM) : ∀ y ∈ l.set j x, y ∈ NM := fun y hy => (List.mem_or_eq_of_mem_set hy).elim (h y) fun e => e ▸ hx
theorem B3.set (h : B3 M p l0 l1 l2 d a0 a1 a2 N) (hq : (q = l0 ∧ ys = a0) ∨ (q = l1 ∧ ys = a1) ∨ (q = l2 ∧ ys = a2)) {x : Str} (hx : x ∈ NM) (n0 : ∀ y ∈ a0, y ∈ NM) (n1 : ∀ y ∈ a1, y ∈ NM) (n2 : ∀ y ∈ a2, y ∈ NM) (j : Nat) :
    ∃ b0 b1 b2, B3 M p l0 l1 l2 d b0 b1 b2 (updM N q (.lst ((ys.map D.str).set j (.str x)))) ∧ ((q = l0 ∧ ys.set j x = b0) ∨ (q = l1 ∧ ys.set j x = b1) ∨ (q = l2 ∧ ys.set j x = b2)) ∧ b0.length = a0.length ∧ b1.length = a1.length ∧ b2.length = a2.length ∧ (∀ y ∈ b0, y ∈ NM) ∧ (∀ y ∈ b1, y ∈ NM) ∧ (∀ y ∈ b2, y ∈ NM) := by
  rw [← List.map_set]
  rcases hq with ⟨rfl, rfl⟩ | ⟨rfl, rfl⟩ | ⟨rfl, rfl⟩
  · exact ⟨ys.set j x, a1, a2, { h with h0 := updM_same, h1 := by rw [updM_ne (Ne.symm h.n01)]; exact h.h1, h2 := by rw [updM_ne (Ne.symm h.n02)]; exact h.h2, hp := by rw [updM_ne h.p0]; exact h.hp, ho := fun z z1 z2 z3 z4 => by rw [updM_ne z2]; exact h.ho z z1 z2 z3 z4 }, .inl ⟨rfl, rfl⟩, by simp, rfl, rfl, nm_set hx n0, n1, n2⟩
  · exact ⟨a0, ys.set j x, a2, { h with h1 := updM_same, h0 := by rw [updM_ne h.n01]; exact h.h0, h2 := by rw [updM_ne (Ne.symm h.n12)]; exact h.h2, hp := by rw [updM_ne h.p1]; exact h.hp, ho := fun z z1 z2 z3 z4 => by rw [updM_ne z3]; exact h.ho z z1 z2 z3 z4 }, .inr (.inl ⟨rfl, rfl⟩), rfl, by simp, rfl, n0, nm_set hx n1, n2⟩
  · exact ⟨a0, a1, ys.set j x, { h with h2 := updM_same, h0 := by rw [updM_ne h.n02]; exact h.h0, h1 := by rw [updM_ne h.n12]; exact h.h1, hp := by rw [updM_ne h.p2]; exact h.hp, ho := fun z z1 z2 z3 z4 => by rw [updM_ne z4]; exact h.ho z z1 z2 z3 z4 }, .inr (.inr ⟨rfl, rfl⟩), rfl, rfl, by simp, n0, n1, nm_set hx n2⟩
end
/-! ### _law_bent -/
def spBent : SpD := fun xs M Q => ∃ (p : Addr) (d : D) (B : Int) (R : Rw Str), xs = [.raw (.ref p), rowD R] ∧ M p = some d ∧ BagD d ∧ 0 ≤ B ∧ Ko B R ∧ ∀ S d', Ko (B + 12) S → S.s - R.s ≤ 12 → R.s - S.s ≤ 12 → BagD d' → Q (rowD S) (updM M p d')
theorem sc_bent : FnScope ["bag", "row", "names", "parts", "which", "spot", "change", "place"] ["bag", "row"] d__law_bent.scope := ⟨rfl, rfl, rfl, by decide +kernel, rfl, by decide +kernel, by decide +kernel⟩
theorem cal_bent (m : Md K mg base) : CalD P w K mg base 3 "_law_bent" spBent [] := by
  refine cal_of (d := d__law_bent) rfl (fd__law_bent m.c) (He.glo_ok m.i m.n (glo__law_bent m.c)) sc_bent (fun xs M Q ⟨a, b, c, d, e, _⟩ => by rw [e]; rfl) (fun _ _ _ _ _ _ us hl => match us, hl with | [_, _], _ => rfl) ?_
  rintro cdv A outer s H E hr xs M Q ⟨p, d, B, R, rfl, hM, hB, hB0, ko, hQ⟩
  have nd := sc_bent.nd
  have flen : mg "len" = none := He.free_ok m.i m.n (free_len m.c)
  have flist : mg "list" = none := He.free_ok m.i m.n (free_list m.c)
  have hsz : sizeLine = 16777216 := sizeLine_eq
  have k1 := ko.l1
  have k2 := ko.m1
  have k3 := ko.r1
  have s1 := ko.s1
  have s2 := ko.s2
  have l0' := ko.l0
  have r0' := ko.r0
  refine wss_cons <| ws_par2 2 3 rfl nd rfl rfl <| wa2 <| we_lst ?_
  repeat walk_at "dl"
  refine ⟨sz rfl, we_lst <| wa_cons <| we_t1 flist bb_list <| we_ix <| we_var 1 rfl rfl <| we_int <| ix_tupD rfl <| c_listM fun l0 f0 => wa_cons <| we_t1 flist bb_list <| we_ix <| we_var 1 rfl rfl <| we_int <| ix_tupD rfl <| c_listM fun l1 f1 => wa_cons <| we_t1 flist bb_list <| we_ix <| we_var 1 rfl rfl <| we_int <| ix_tupD rfl <| c_listM fun l2 f2 => wa_nil ⟨sz rfl, _, _, rfl, ?_⟩⟩
  have n01 : l0 ≠ l1 := fun e => by rw [e, updM_same] at f1; cases f1
  have n12 : l1 ≠ l2 := fun e => by rw [e, updM_same] at f2; cases f2
  have n02 : l0 ≠ l2 := fun e => by rw [updM_ne (Ne.symm n12), e, updM_same] at f2; cases f2
  rw [updM_ne (Ne.symm n01)] at f1
  rw [updM_ne (Ne.symm n12), updM_ne (Ne.symm n02)] at f2
  have p0 : p ≠ l0 := fun e => by rw [e, f0] at hM; cases hM
  have p1 : p ≠ l1 := fun e => by rw [e, f1] at hM; cases hM
  have p2 : p ≠ l2 := fun e => by rw [e, f2] at hM; cases hM
  have b3 : B3 M p l0 l1 l2 d R.l R.m R.r (updM (updM (updM M l0 (.lst (R.l.map D.str))) l1 (.lst (R.m.map D.str))) l2 (.lst (R.r.map D.str))) :=
    ⟨n01, n02, n12, p0, p1, p2, f0, f1, f2, by rw [updM_ne n02, updM_ne n01, updM_same], by rw [updM_ne n12, updM_same], updM_same, by rw [updM_ne p2, updM_ne p1, updM_ne p0, hM], fun z z1 z2 z3 z4 => by rw [updM_ne z4, updM_ne z3, updM_ne z2]⟩
  generalize updM (updM (updM M l0 (.lst (R.l.map D.str))) l1 (.lst (R.m.map D.str))) l2 (.lst (R.r.map D.str)) = N0 at b3 ⊢
  refine wss_cons <| ws_set 4 nd rfl <| we_cal (cal_take m) hr (by decide) <| wa2 <| we_var 0 rfl rfl <| we_int ⟨p, d, 4, rfl, b3.hp, hB, by decide, by decide, fun z d1 z1 z2 hB1 => ?_⟩
  replace b3 := b3.upd d1
  generalize updM N0 p d1 = N at b3 ⊢
  refine wss_cut (fun ds1 M1 => ds1 = [some (.raw (.ref p)), some (rowD R), some (.lst (NM.map D.str)), some (.lst [.raw (.ref l0), .raw (.ref l1), .raw (.ref l2)]), some (.int z), none, none, none] ∧ M1 = N)
    (ws_if <| wt_w <| ww_and <| wt_cmp <| we_var 4 rfl rfl <| we_int <| b_eqI hr ⟨_, rfl, fun h => ?_, fun h => ⟨fun h => (by cases h), fun _ => wss_nil ⟨rfl, rfl⟩⟩⟩) ?_
  · rcases ko_cases ko with ⟨l, rfl⟩ | ⟨l, mi, r, st, rfl⟩
    · exact ww_and1 <| wt_not <| wt_truth <| we_ix <| we_var 1 rfl rfl <| we_int <| ix_tupD rfl <| tru_is rfl ⟨fun h => (by cases h), fun _ => wss_nil ⟨rfl, rfl⟩⟩
    · refine ww_and1 <| wt_not <| wt_truth <| we_ix <| we_var 1 rfl rfl <| we_int <| ix_tupD rfl <| tru_is rfl ⟨fun _ => ?_, fun h => (by cases h)⟩
      refine wss_forget b3.h0 <| wss_forget (by rw [delM_ne (Ne.symm b3.n01)]; exact b3.h1) <| wss_forget (by rw [delM_ne (Ne.symm b3.n12), delM_ne (Ne.symm b3.n02)]; exact b3.h2) ?_
      rw [b3.clear]
      refine wss_one <| ws_ret <| we_tup <| wa_cons <| we_bl <| wa_cons <| we_ix <| we_var 1 rfl rfl <| we_int <| ix_tupD rfl <| wa3 <| we_ix <| we_var 1 rfl rfl <| we_int <| ix_tupD rfl <| we_ix <| we_var 1 rfl rfl <| we_int <| ix_tupD rfl <| we_bin <| we_ix <| we_var 1 rfl rfl <| we_int <| ix_tupD rfl <| we_cal (cal_pick m) hr (by decide) <| wa2 <| we_var 0 rfl rfl <| we_lst ?_
      repeat walk_at "dl"
      refine ⟨sz rfl, p, d1, _, rfl, updM_same, hB1, by decide, by decide, fun x d2 hx hB2 => ?_⟩
      rw [updM_updM]
      have hx2 : ∃ s : Int, x = .int s ∧ -12 ≤ s ∧ s ≤ 12 := by
        simp only [List.mem_cons, List.not_mem_nil, or_false] at hx
        rcases hx with rfl | rfl | rfl | rfl <;> exact ⟨_, rfl, by omega, by omega⟩
      obtain ⟨sh, rfl, q1, q2⟩ := hx2
      have s1' : -B ≤ st := s1
      have s2' : st ≤ B := s2
      exact b_add ⟨sz rfl, hQ (wR l mi r (st + sh)) d2 { ko with hrg := fun e => Bool.noConfusion e, s1 := by show -(B + 12) ≤ st + sh; omega, s2 := by show st + sh ≤ B + 12; omega } (by show st + sh - st ≤ 12; omega) (by show st - (st + sh) ≤ 12; omega) hB2⟩
  rintro ds1 M1 ⟨rfl, rfl⟩
  -- spot
  refine wss_cut (fun ds1 M2 => ∃ (i : Int) (q : Addr) (ys : List Str), ds1 = [some (.raw (.ref p)), some (rowD R), some (.lst (NM.map D.str)), some (.lst [.raw (.ref l0), .raw (.ref l1), .raw (.ref l2)]), some (.int z), some (.int i), none, none] ∧ M2 = M1 ∧ atI [D.raw (.ref l0), D.raw (.ref l1), D.raw (.ref l2)] i = some (D.raw (.ref q)) ∧ 0 < ys.length ∧ ys.length ≤ 60 ∧ ((q = l0 ∧ ys = R.l) ∨ (q = l1 ∧ ys = R.m) ∨ (q = l2 ∧ ys = R.r)))
    (ws_set 5 nd rfl <| we_ifx <| wt_w <| ww_and <| wt_cmp <| we_var 4 rfl rfl <| we_int <| b_lt ⟨_, rfl, fun h => ?_, fun h => ⟨fun h => (by cases h), fun _ => we_int ⟨0, l0, R.l, rfl, rfl, rfl, l0', by omega, .inl ⟨rfl, rfl⟩⟩⟩⟩) ?_
  · have h := of_decide_eq_true h
    have hz : ∃ (q : Addr) (ys : List Str), atI [D.raw (.ref l0), D.raw (.ref l1), D.raw (.ref l2)] z = some (D.raw (.ref q)) ∧ ys.length ≤ 60 ∧ (∀ y ∈ ys, y ∈ NM) ∧ ((q = l0 ∧ ys = R.l) ∨ (q = l1 ∧ ys = R.m) ∨ (q = l2 ∧ ys = R.r)) := by
      have : z = 0 ∨ z = 1 ∨ z = 2 := by omega
      rcases this with rfl | rfl | rfl
      · exact ⟨l0, R.l, rfl, by omega, ko.nl, .inl ⟨rfl, rfl⟩⟩
      · exact ⟨l1, R.m, rfl, by omega, ko.nm, .inr (.inl ⟨rfl, rfl⟩)⟩
      · exact ⟨l2, R.r, rfl, by omega, ko.nr, .inr (.inr ⟨rfl, rfl⟩)⟩
    obtain ⟨q, ys, hz1, hz2, hz3, hz4⟩ := hz
    refine ww_and1 <| wt_cmp <| we_ix <| we_var 3 rfl rfl <| we_var 4 rfl rfl <| ix_lst hz1 <| we_lst (wa_nil ⟨sz rfl, b_neMut hr (b3.at hz4) (fun x hx => nm_ok x (hz3 x hx)) ⟨_, rfl, fun h => ?_, fun h => ?_⟩⟩)
    · have : ys ≠ [] := by
        intro e
        rw [e] at h
        simp at h
      exact we_var 4 rfl rfl ⟨z, q, ys, rfl, rfl, hz1, List.length_pos_iff.mpr this, hz2, hz4⟩
    · exact we_int ⟨0, l0, R.l, rfl, rfl, rfl, l0', by omega, .inl ⟨rfl, rfl⟩⟩
  rintro ds1 M2 ⟨i, q, ys, rfl, rfl, hat, hy0, hy1, hq⟩
  have hN := b3.at hq
  refine wss_cons <| ws_set 6 nd rfl <| we_ix <| we_var 3 rfl rfl <| we_var 5 rfl rfl <| ix_lst hat ?_
  refine wss_cons <| ws_set 7 nd rfl <| we_cal (cal_pick m) hr (by decide) <| wa2 <| we_var 0 rfl rfl <| we_lst <| wa_cons <| we_int <| wa_cons <| we_bin <| we_b1 flen bb_len <| we_var 6 rfl rfl <| c_lenM hN <| we_int <| b_sub <| wa_cons <| we_cal (cal_take m) hr (by decide) <| wa2 <| we_var 0 rfl rfl <| we_b1 flen bb_len <| we_var 6 rfl rfl <| c_lenM hN ⟨p, d1, _, rfl, b3.hp, hB1, by rw [List.length_map]; omega, by rw [List.length_map]; omega, fun z d2 z1 z2 hB2 => wa_nil ⟨sz rfl, p, d2, _, rfl, updM_same, hB2, by simp, by simp, fun x d3 hx hB3 => ?_⟩⟩
  rw [updM_updM]
  rw [List.length_map] at z2 hx
  have hx2 : ∃ k : Nat, x = .int (k : Int) ∧ k < ys.length := by
    simp only [List.mem_cons, List.not_mem_nil, or_false] at hx
    rcases hx with rfl | rfl | rfl
    · exact ⟨0, rfl, hy0⟩
    · exact ⟨ys.length - 1, by rw [show ((ys.length : Int) - 1) = ((ys.length - 1 : Nat) : Int) by omega], by omega⟩
    · exact ⟨z.toNat, by rw [show ((z.toNat : Nat) : Int) = z by omega], by omega⟩
  obtain ⟨k, rfl, hk⟩ := hx2
  replace b3 := b3.upd d3
  generalize updM M2 p d3 = N3 at b3 ⊢
  refine wss_cons <| ws_setIx <| we_cal (cal_pick m) hr (by decide) <| wa2 <| we_var 0 rfl rfl <| we_var 2 rfl rfl ⟨p, d3, NM.map D.str, rfl, b3.hp, hB3, by decide, by decide, fun x d4 hx hB4 => we_var 6 rfl rfl <| we_var 7 rfl rfl ⟨q, (k : Int), k, ys.map D.str, rfl, rfl, (b3.upd d4).at hq, ?_, ?_⟩⟩
  · rw [List.length_map]
    unfold ixN
    first | omega | (simp; omega)
  obtain ⟨x, hxn, rfl⟩ := List.mem_map.mp hx
  replace b3 := b3.upd d4
  generalize updM N3 p d4 = N4 at b3 ⊢
  obtain ⟨b0, b1, b2, b4, hq4, e0, e1, e2, m0, m1, m2⟩ := b3.set hq hxn ko.nl ko.nm ko.nr k
  have hN4 := b4.at hq4
  have b5 := b4
  generalize updM N4 q (.lst ((ys.map D.str).set k (.str x))) = N5 at b4 b5 hN4 ⊢
  have ely : (ys.set k x).length = ys.length := by simp
  rcases ko_cases ko with ⟨l, rfl⟩ | ⟨l, mi, r, st, rfl⟩
  · have fin : ∀ {z : List Str}, z.length = l.length → (∀ y ∈ z, y ∈ NM) → Ko (B + 12) (rg z) := fun {z} e h => by
      have l00 : 0 < l.length := l0'
      have l11 : l.length ≤ 30 := k1
      exact ⟨by show 0 < z.length; omega, by show z.length ≤ 30; omega, Nat.zero_le _, by show 0 < z.length; omega, by show z.length ≤ 30; omega, h, fun x hx => (by cases hx), h, fun _ => ⟨rfl, rfl, rfl⟩, by show -(B + 12) ≤ 0; omega, by show (0 : Int) ≤ B + 12; omega⟩
    rcases hq4 with ⟨rfl, hb⟩ | ⟨rfl, hb⟩ | ⟨rfl, hb⟩
    · refine wss_freeze 6 rfl b4.h0 <| wss_forget (by rw [delM_ne (Ne.symm b4.n01)]; exact b4.h1) <| wss_forget (by rw [delM_ne (Ne.symm b4.n12), delM_ne (Ne.symm b4.n02)]; exact b4.h2) ?_
      rw [b4.clear]
      exact wss_one <| ws_ret <| we_ifx <| wt_truth <| we_ix <| we_var 1 rfl rfl <| we_int <| ix_tupD rfl <| tru_is rfl ⟨fun _ => we_tup <| wa_cons <| we_bl <| wa_cons <| we_var 6 rfl rfl <| wa3 <| we_lst (wa_nil ⟨sz rfl, we_var 6 rfl rfl <| we_int ⟨sz rfl, hQ (rg b0) d4 (fin e0 m0) (by show (0 : Int) - 0 ≤ 12; omega) (by show (0 : Int) - 0 ≤ 12; omega) hB4⟩⟩), fun h => (by cases h)⟩
    · exfalso
      rw [← hb, ely] at e1
      have : ys.length = 0 := e1
      omega
    · refine wss_freeze 6 rfl b4.h2 <| wss_forget (by rw [delM_ne b4.n02]; exact b4.h0) <| wss_forget (by rw [delM_ne (Ne.symm b4.n01), delM_ne b4.n12]; exact b4.h1) ?_
      rw [b4.clear2]
      exact wss_one <| ws_ret <| we_ifx <| wt_truth <| we_ix <| we_var 1 rfl rfl <| we_int <| ix_tupD rfl <| tru_is rfl ⟨fun _ => we_tup <| wa_cons <| we_bl <| wa_cons <| we_var 6 rfl rfl <| wa3 <| we_lst (wa_nil ⟨sz rfl, we_var 6 rfl rfl <| we_int ⟨sz rfl, hQ (rg b2) d4 (fin e2 m2) (by show (0 : Int) - 0 ≤ 12; omega) (by show (0 : Int) - 0 ≤ 12; omega) hB4⟩⟩), fun h => (by cases h)⟩
  · have c0 : ∀ G v, Rp K G (.lst (b0.map D.str)) (.ref l0) → Rp K G (.lst [.raw (.ref l0), .raw (.ref l1), .raw (.ref l2)]) v → Rp K G (.lst [.lst (b0.map D.str), .raw (.ref l1), .raw (.ref l2)]) v := fun G v h r => by
      obtain ⟨a, vs, rfl, h1, h2⟩ := r.lst_inv
      obtain ⟨w1, rs, rfl, r1, r2⟩ := h2.cons_inv
      cases r1.raw_inv
      exact rp_lst h1 (RpL.cons h r2)
    have c1 : ∀ G v, Rp K G (.lst (b1.map D.str)) (.ref l1) → Rp K G (.lst [.lst (b0.map D.str), .raw (.ref l1), .raw (.ref l2)]) v → Rp K G (.lst [.lst (b0.map D.str), .lst (b1.map D.str), .raw (.ref l2)]) v := fun G v h r => by
      obtain ⟨a, vs, rfl, h1, h2⟩ := r.lst_inv
      obtain ⟨w1, rs, rfl, r1, r2⟩ := h2.cons_inv
      obtain ⟨w2, rs2, rfl, r3, r4⟩ := r2.cons_inv
      cases r3.raw_inv
      exact rp_lst h1 (RpL.cons r1 (RpL.cons h r4))
    have c2 : ∀ G v, Rp K G (.lst (b2.map D.str)) (.ref l2) → Rp K G (.lst [.lst (b0.map D.str), .lst (b1.map D.str), .raw (.ref l2)]) v → Rp K G (.lst [.lst (b0.map D.str), .lst (b1.map D.str), .lst (b2.map D.str)]) v := fun G v h r => by
      obtain ⟨a, vs, rfl, h1, h2⟩ := r.lst_inv
      obtain ⟨w1, rs, rfl, r1, r2⟩ := h2.cons_inv
      obtain ⟨w2, rs2, rfl, r3, r4⟩ := r2.cons_inv
      obtain ⟨w3, rs3, rfl, r5, r6⟩ := r4.cons_inv
      cases r5.raw_inv
      exact rp_lst h1 (RpL.cons r1 (RpL.cons r3 (RpL.cons h r6)))
    have i1 : l.length ≤ 30 := k1
    have i2 : mi.length ≤ 60 := k2
    have i3 : r.length ≤ 30 := k3
    have i4 : 0 < l.length := l0'
    have i5 : 0 < r.length := r0'
    have i6 : -B ≤ st := s1
    have i7 : st ≤ B := s2
    have e0' : b0.length = l.length := e0
    have e1' : b1.length = mi.length := e1
    have e2' : b2.length = r.length := e2
    refine wss_freezeIn 3 rfl b4.h0 c0 <| wss_freezeIn 3 rfl (by rw [delM_ne (Ne.symm b4.n01)]; exact b4.h1) c1 <| wss_freezeIn 3 rfl (by rw [delM_ne (Ne.symm b4.n12), delM_ne (Ne.symm b4.n02)]; exact b4.h2) c2 ?_
    rw [b4.clear]
    exact wss_one <| ws_ret <| we_ifx <| wt_truth <| we_ix <| we_var 1 rfl rfl <| we_int <| ix_tupD rfl <| tru_is rfl ⟨fun h => (by cases h), fun _ => we_tup <| wa_cons <| we_bl <| wa_cons <| we_ix <| we_var 3 rfl rfl <| we_int <| ix_lst rfl <| wa3 <| we_ix <| we_var 3 rfl rfl <| we_int <| ix_lst rfl <| we_ix <| we_var 3 rfl rfl <| we_int <| ix_lst rfl <| we_ix <| we_var 1 rfl rfl <| we_int <| ix_tupD rfl ⟨sz rfl, hQ (wR b0 b1 b2 st) d4 ⟨by show 0 < b0.length; omega, by show b0.length ≤ 30; omega, by show b1.length ≤ 60; omega, by show 0 < b2.length; omega, by show b2.length ≤ 30; omega, m0, m1, m2, fun e => Bool.noConfusion e, by show -(B + 12) ≤ st; omega, by show st ≤ B + 12; omega⟩ (by show st - st ≤ 12; omega) (by show st - st ≤ 12; omega) hB4⟩⟩
end
end K03

namespace K03
open PySem PySem.Spec L2 DL

local macro_rules | `(tactic| walk_at "dl") => `(tactic| first
  | ((with_reducible show WE _ _ (.Constant _ _ _) _ _ _); first | refine we_int ?_ | refine we_str ?_ | refine we_bl ?_ | refine we_non ?_)
  | ((with_reducible show WE _ _ (.Name _ _) _ _ _); first | refine we_var 0 rfl rfl ?_ | refine we_var 1 rfl rfl ?_ | refine we_var 2 rfl rfl ?_ | refine we_var 3 rfl rfl ?_ | refine we_var 4 rfl rfl ?_ | refine we_var 5 rfl rfl ?_ | refine we_var 6 rfl rfl ?_ | refine we_var 7 rfl rfl ?_ | refine we_var 8 rfl rfl ?_ | refine we_var 9 rfl rfl ?_ | refine we_var 10 rfl rfl ?_ | refine we_var 11 rfl rfl ?_ | refine we_var 12 rfl rfl ?_ | refine we_var 13 rfl rfl ?_ | refine we_var 14 rfl rfl ?_ | refine we_var 15 rfl rfl ?_)
  | ((with_reducible show WE _ _ (.BinOp _ _ _ _) _ _ _); refine we_bin ?_)
  | ((with_reducible show WE _ _ (.Compare _ [_] [_] _) _ _ _); refine we_cmp ?_)
  | ((with_reducible show WT _ _ (.Compare _ [_] [_] _) _ _ _); refine wt_cmp ?_)
  | ((with_reducible show WE _ _ (.UnaryOp .USub _ _) _ _ _); refine we_un ?_)
  | ((with_reducible show WT _ _ (.UnaryOp .Not _ _) _ _ _); refine wt_not ?_)
  | ((with_reducible show WE _ _ (.IfExp _ _ _ _) _ _ _); refine we_ifx ?_)
  | ((with_reducible show WE _ _ (.Subscript _ (.Name _ _) _) _ _ _); refine we_ix ?_)
  | ((with_reducible show WE _ _ (.Subscript _ (.Constant _ _ _) _) _ _ _); refine we_ix ?_)
  | ((with_reducible show WE _ _ (.Subscript _ (.Subscript _ _ _) _) _ _ _); refine we_ix ?_)
  | ((with_reducible show WE _ _ (.Subscript _ (.BinOp _ _ _ _) _) _ _ _); refine we_ix ?_)
  | ((with_reducible show WE _ _ (.Subscript _ (.UnaryOp _ _ _) _) _ _ _); refine we_ix ?_)
  | ((with_reducible show WE _ _ (.Subscript _ (.Call _ _ _ _) _) _ _ _); refine we_ix ?_)
  | ((with_reducible show WE _ _ (.Call (.Name "len" _) [_] [] _) _ _ _); refine we_b1 (by assumption) bb_len ?_)
  | ((with_reducible show WE _ _ (.Call (.Name "abs" _) [_] [] _) _ _ _); refine we_b1 (by assumption) bb_abs ?_)
  | ((with_reducible show WE _ _ (.Call (.Name "int" _) [_] [] _) _ _ _); refine we_t1 (by assumption) bb_int ?_)
  | ((with_reducible show WE _ _ (.Call (.Name "list" _) [_] [] _) _ _ _); refine we_t1 (by assumption) bb_list ?_)
  | ((with_reducible show WE _ _ (.Call (.Name "tuple" _) [_] [] _) _ _ _); refine we_t1 (by assumption) bb_tuple ?_)
  | ((with_reducible show WE _ _ (.Call (.Name "str" _) [_] [] _) _ _ _); refine we_t1 (by assumption) bb_str ?_)
  | ((with_reducible show WE _ _ (.Call (.Name "set" _) [_] [] _) _ _ _); refine we_t1 (by assumption) bb_set ?_)
  | ((with_reducible show WE _ _ (.Call (.Name "sorted" _) [_] [] _) _ _ _); refine we_b1 (by assumption) bb_sorted ?_)
  | ((with_reducible show WE _ _ (.Call (.Name "isinstance" _) [_, _] [] _) _ _ _); refine we_b2 (by assumption) bb_isinstance ?_)
  | ((with_reducible show WE _ _ (.Call (.Name "max" _) [_] [] _) _ _ _); refine we_b1 (by assumption) bb_max ?_)
  | ((with_reducible show WE _ _ (.Call (.Name "min" _) [_] [] _) _ _ _); refine we_b1 (by assumption) bb_min ?_)
  | ((with_reducible show WE _ _ (.Call (.Name "max" _) [_, _] [] _) _ _ _); refine we_b2 (by assumption) bb_max ?_)
  | ((with_reducible show WE _ _ (.Call (.Name "min" _) [_, _] [] _) _ _ _); refine we_b2 (by assumption) bb_min ?_)
  | ((with_reducible show BinG _ _ (binaryOp .Add) (.int _) (.int _) _ _); refine b_add ?_)
  | ((with_reducible show BinG _ _ (binaryOp .Sub) (.int _) (.int _) _ _); refine b_sub ?_)
  | ((with_reducible show BinG _ _ (binaryOp .Mod) (.int _) (.int _) _ _); refine b_mod (by omega) ?_)
  | ((with_reducible show BinG _ _ (binaryOp .FloorDiv) (.int _) (.int _) _ _); refine b_div ⟨by omega, by omega⟩ ?_)
  | ((with_reducible show BinG _ _ (binaryOp .Mult) (.int _) (.int _) _ _); first | refine b_mul (.inr ⟨by omega, by omega⟩) ?_ | refine b_mul (.inl ⟨by omega, by omega⟩) ?_)
  | ((with_reducible show BinG _ _ (compareOp .Lt) (.int _) (.int _) _ _); refine b_lt ?_)
  | ((with_reducible show BinG _ _ (compareOp .LtE) (.int _) (.int _) _ _); refine b_le ?_)
  | ((with_reducible show BinG _ _ (compareOp .Gt) (.int _) (.int _) _ _); refine b_gt ?_)
  | ((with_reducible show BinG _ _ (compareOp .GtE) (.int _) (.int _) _ _); refine b_ge ?_)
  | ((with_reducible show BinG _ _ (compareOp .Eq) (.int _) (.int _) _ _); refine b_eqI (by assumption) ?_)
  | ((with_reducible show BinG _ _ (compareOp .NotEq) (.int _) (.int _) _ _); refine b_neI (by assumption) ?_)
  | ((with_reducible show UnG _ _ (unaryOp .USub) (.int _) _ _); refine b_neg ?_)
  | (with_reducible refine ex_bl ?_)
  | ((with_reducible show CallG _ _ (.type "int") [.int _] _ _); refine c_int ?_)
  | ((with_reducible show CallG _ _ (.type "int") [.bl _] _ _); refine c_intB ?_)
  | ((with_reducible show CallG _ _ (.builtin "abs") _ _ _); refine c_abs ?_)
  | ((with_reducible show CallG _ _ (.builtin "len") [.lst _] _ _); refine c_len ?_)
  | ((with_reducible show CallG _ _ (.builtin "len") [.tup _] _ _); refine c_lenT ?_)
  | ((with_reducible show CallG _ _ (.builtin "len") [.raw _] _ _); refine c_lenM (by first | assumption | exact updM_same) ?_)
  | ((with_reducible show CallG _ _ (.type "list") [.tup _] _ _); refine c_listT ?_)
  | ((with_reducible show CallG _ _ (.type "tuple") [.lst _] _ _); refine c_tuple ?_)
  | ((with_reducible show CallG _ _ (.type "tuple") [.tup _] _ _); refine c_tupleT ?_)
  | ((with_reducible show CallG _ _ (.builtin "max") [.int _, .int _] _ _); refine c_max2 rfl ?_)
  | ((with_reducible show CallG _ _ (.builtin "min") [.int _, .int _] _ _); refine c_min2 rfl ?_)
  | ((with_reducible show IxG _ _ (.tup _) _ _ _); refine ix_tupD rfl ?_)
  | ((with_reducible show IxG _ _ (.raw _) _ _ _); refine ix_mlst (by first | assumption | exact updM_same) rfl ?_)
  | ((with_reducible show WA _ _ (_ :: _) _ _ _); refine wa_cons ?_)
  | ((with_reducible show WA _ _ [] _ _ _); refine wa_nil ?_))
section
variable {P : Program} {w : World} {K : PySem.W.Frag} {mg : Str → Option Value} {base : Heap}
section
variable {X : Cx} {Pm : Hp → Prop} {M : Mst} {Q : QD}
theorem b_p17 (q : Q (.int 100000000000000000) M) : BinG Pm X (binaryOp .Pow) (.int 10) (.int 17) M Q := b_pow ⟨by decide, by decide, by decide⟩ (by rw [show (10 : Int) ^ (17 : Int).toNat = 100000000000000000 from by decide]; exact q)
theorem b_p9 (q : Q (.int 1000000000) M) : BinG Pm X (binaryOp .Pow) (.int 10) (.int 9) M Q := b_pow ⟨by decide, by decide, by decide⟩ (by rw [show (10 : Int) ^ (9 : Int).toNat = 1000000000 from by decide]; exact q)
end
theorem all_int {xs : List D} (h : ∀ x ∈ xs, ∃ t : Int, x = .int t) {i : Nat} (hi : i < xs.length) : ∃ t : Int, xs.getD i .non = .int t := by
  rw [List.getD_eq_getElem?_getD, List.getElem?_eq_getElem hi]
  exact h _ (List.getElem_mem hi)
theorem mv_same {B : Int} {R R' : Rw Str} (ko : Ko B R) (cn : Cn R.at R') (hr : R.ring = true) (z : Int) : mv R' ((R.l.length : Int) * z) = R' := by
  have e : (fun t => R.at (t + (R.l.length : Int) * z)) = R.at := by
    funext t
    have h := mv_at ko ((R.l.length : Int) * z) t
    rw [← h]
    unfold mv
    rw [if_pos hr]
    rcases ko_cases ko with ⟨l, rfl⟩ | ⟨l, mi, r, st, rfl⟩
    · have l0 : 0 < l.length := ko.l0
      show (rg (turn l ((l.length : Int) * z))).at t = (rg l).at t
      rw [ring_at (by rw [turn_len]; exact l0), turn_len, ring_at l0]
      have h2 := Int.emod_nonneg t (show (l.length : Int) ≠ 0 by omega)
      have h3 := Int.emod_lt_of_pos t (show (0 : Int) < l.length by omega)
      rw [turn_getD l0 (by omega)]
      congr 2
      rw [Int.toNat_of_nonneg h2]
      show (((l.length : Int) * z) + t % (l.length : Int)) % (l.length : Int) = t % (l.length : Int)
      rw [Int.mul_add_emod_self_left, Int.emod_emod]
    · cases hr
  have c := cn_mv cn ((R.l.length : Int) * z)
  rw [e] at c
  exact c.uniq cn
/-! ### _law_group -/
def spGroup : SpD := fun xs M Q => ∃ (p : Addr) (d : D) (R : Rw Str), xs = [.raw (.ref p), rowD R] ∧ M p = some d ∧ BagD d ∧ Ko Bw R ∧ ∀ d', BagD d' → Q (.bl true) (updM M p d')
theorem sc_group : FnScope ["bag", "row", "a", "b", "told", "one", "both", "at", "t", "low", "many", "k"] ["bag", "row"] d__law_group.scope := ⟨rfl, rfl, rfl, by decide +kernel, rfl, by decide +kernel, by decide +kernel⟩
theorem cal_group (m : Md K mg base) : CalD P w K mg base 8 "_law_group" spGroup [] := by
  refine cal_of (d := d__law_group) rfl (fd__law_group m.c) (He.glo_ok m.i m.n (glo__law_group m.c)) sc_group (fun xs M Q ⟨a, b, c, e, _⟩ => by rw [e]; rfl) (fun _ _ _ _ _ _ us hl => match us, hl with | [_, _], _ => rfl) ?_
  rintro cdv A outer s H E hr xs M Q ⟨p, d, R, rfl, hM, hB, ko, hQ⟩
  have nd := sc_group.nd
  have flen : mg "len" = none := He.free_ok m.i m.n (free_len m.c)
  have frange : mg "range" = none := He.free_ok m.i m.n (free_range m.c)
  have hsz : sizeLine = 16777216 := sizeLine_eq
  have nf := (insB_ok (He.cls_ok (cls_Row m.c)) (ex_ins_Row m.e)).2
  have vr := ko.vr
  have k1 := ko.l1
  have k2 := ko.m1
  have k3 := ko.r1
  have s1 := ko.s1
  have s2 := ko.s2
  have eBw : Bw = 20000000000000000 := rfl
  refine wss_cons <| ws_asg (.tp [2, 3]) (pg_tup rfl <| pgs_cons (pgN nd rfl) <| pgs_cons (pgN nd rfl) pgs_nil) <| we_tup <| wa_cons <| we_cal (cal_pick m) hr (by decide) <| wa2 <| we_var 0 rfl rfl <| we_lst <| wa_cons <| we_int <| wa_cons <| we_int <| wa_cons <| we_un <| we_int <| b_neg <| wa_cons <| we_int <| wa_cons <|
    we_cal (cal_take m) hr (by decide) <| wa2 <| we_var 0 rfl rfl <| we_bin <| we_int <| we_int <| b_p17 ⟨p, d, _, rfl, hM, hB, by decide, by decide, fun z1 d1 a1 a2 hB1 => wa_cons <| we_un <| we_cal (cal_take m) hr (by decide) <| wa2 <| we_var 0 rfl rfl <| we_bin <| we_int <| we_int <| b_p17 ⟨p, d1, _, rfl, updM_same, hB1, by decide, by decide, fun z2 d2 b1 b2 hB2 => b_neg <| wa_nil ⟨sz rfl, p, d2, _, rfl, updM_same, hB2, by simp, by simp, fun x d3 hx hB3 => ?_⟩⟩⟩
  have hx2 : ∃ a : Int, x = .int a ∧ -100000000000000000 ≤ a ∧ a ≤ 100000000000000000 := by
    simp only [List.mem_cons, List.not_mem_nil, or_false] at hx
    rcases hx with rfl | rfl | rfl | rfl | rfl | rfl <;> exact ⟨_, rfl, by omega, by omega⟩
  obtain ⟨a, rfl, ha1, ha2⟩ := hx2
  clear hx
  refine wa1 <| we_cal (cal_pick m) hr (by decide) <| wa2 <| we_var 0 rfl rfl <| we_lst <| wa_cons <| we_b1 flen bb_len <| we_ix <| we_var 1 rfl rfl <| we_int <| ix_tupD rfl <| c_len <| wa_cons <| we_un <| we_int <| b_neg <| wa_cons <|
    we_cal (cal_take m) hr (by decide) <| wa2 <| we_var 0 rfl rfl <| we_bin <| we_int <| we_int <| b_p17 ⟨p, d3, _, rfl, updM_same, hB3, by decide, by decide, fun z3 d4 c1 c2 hB4 => wa_cons <| we_un <| we_cal (cal_take m) hr (by decide) <| wa2 <| we_var 0 rfl rfl <| we_bin <| we_int <| we_int <| b_p17 ⟨p, d4, _, rfl, updM_same, hB4, by decide, by decide, fun z4 d5 e1 e2 hB5 => b_neg <| wa_nil ⟨sz rfl, p, d5, _, rfl, updM_same, hB5, by simp, by simp, fun x d6 hx hB6 => ?_⟩⟩⟩
  have hx2 : ∃ b : Int, x = .int b ∧ -100000000000000000 ≤ b ∧ b ≤ 100000000000000000 := by
    rw [List.length_map] at hx
    simp only [List.mem_cons, List.not_mem_nil, or_false] at hx
    rcases hx with rfl | rfl | rfl | rfl <;> exact ⟨_, rfl, by omega, by omega⟩
  obtain ⟨b, rfl, hb1, hb2⟩ := hx2
  clear hx
  simp only [updM_updM]
  refine ⟨sz rfl, _, rfl, ?_⟩
  refine wss_cons <| ws_set 4 nd rfl <| we_cal (cal_made m) hr (by decide) <| wa1 <| we_var 1 rfl rfl ⟨Bw, R, rfl, ko, by decide, fun R' cn => ?_⟩
  have kR' := cn_ko ko (by decide) cn
  have cs := cn_self cn
  have kA := ko_mv kR' (k := a) (C := 100000000000000000) ⟨ha1, ha2⟩ (by decide)
  have kA0 := ko_mv ko (k := a) (C := 100000000000000000) ⟨ha1, ha2⟩ (by decide)
  have kB := ko_mv kR' (k := b) (C := 100000000000000000) ⟨hb1, hb2⟩ (by decide)
  have kAB := ko_mv kR' (k := a + b) (C := 200000000000000000) ⟨by omega, by omega⟩ (by decide)
  have kAB0 := ko_mv ko (k := a + b) (C := 200000000000000000) ⟨by omega, by omega⟩ (by decide)
  have cA : Cn (mv R a).at (mv R' a) := by
    rw [show (mv R a).at = fun t => R.at (t + a) from funext (mv_at ko a)]
    exact cn_mv cn a
  have cAB : Cn (mv R (a + b)).at (mv R' (a + b)) := by
    rw [show (mv R (a + b)).at = fun t => R.at (t + (a + b)) from funext (mv_at ko (a + b))]
    exact cn_mv cn (a + b)
  have eAB : mv (mv R' a) b = mv R' (a + b) := mv_mv cs
  have eBA : mv (mv R' b) a = mv R' (a + b) := by rw [mv_mv cs, Int.add_comm]
  have eB0 : mv (mv R' (a + b)) (-a - b) = R' := by rw [mv_mv cs, show a + b + (-a - b) = 0 by omega, mv_zero cs]
  have arA : ∀ t, (mv R' a).at (t - a) = R.at t := fun t => by rw [mv_at kR', show t - a + a = t by omega, cn.at]
  have arAB : ∀ t, (mv R' (a + b)).at (t - a - b) = R.at t := fun t => by rw [mv_at kR', show t - a - b + (a + b) = t by omega, cn.at]
  refine wss_cons <| ws_asg (.tp [5, 6]) (pg_tup rfl <| pgs_cons (pgN nd rfl) <| pgs_cons (pgN nd rfl) pgs_nil) <| we_tup <| wa_cons <| we_met (met_moved m) hr (by decide) <| we_var 4 rfl rfl ⟨_, .inl rfl, (by unfold rowF; split <;> rfl), wa1 <| we_var 2 rfl rfl ⟨_, R', a, rfl, kR', wa1 <|
    we_met (met_moved m) hr (by decide) <| we_met (met_moved m) hr (by decide) <| we_var 4 rfl rfl ⟨_, .inl rfl, (by unfold rowF; split <;> rfl), wa1 <| we_var 2 rfl rfl ⟨_, R', a, rfl, kR', _, .inl rfl, (by unfold rowF; split <;> rfl), wa1 <| we_var 3 rfl rfl ⟨_, mv R' a, b, rfl, kA, sz rfl, _, rfl, ?_⟩⟩⟩⟩⟩
  rw [eAB]
  -- whole
  refine wss_cons <| ws_if <| wt_w <| ww_or <| wt_not <| wt_truth <| we_cal (cal_whole m) hr (by decide) <| wa2 <| we_var 5 rfl rfl <| we_cal (cal_lmoved m) hr (by decide) <| wa2 <| we_var 1 rfl rfl <| we_var 2 rfl rfl ⟨Bw, R, a, rfl, ko, _, mv R a, mv R' a, rfl, kA0, by decide, by decide, cA, tru_is rfl ⟨fun h => (by cases h), fun _ => ?_⟩⟩
  refine ww_or1 <| wt_not <| wt_truth <| we_cal (cal_whole m) hr (by decide) <| wa2 <| we_var 6 rfl rfl <| we_cal (cal_lmoved m) hr (by decide) <| wa2 <| we_var 1 rfl rfl <| we_bin <| we_var 2 rfl rfl <| we_var 3 rfl rfl <| b_add ⟨Bw, R, a + b, rfl, ko, _, mv R (a + b), mv R' (a + b), rfl, kAB0, by decide, by decide, cAB, tru_is rfl ⟨fun h => (by cases h), fun _ => wss_nil ?_⟩⟩
  -- the group
  refine wss_cons <| ws_if <| wt_w <| ww_or <| wt_cmp <| we_cmp <| we_met (met_moved m) hr (by decide) <| we_var 4 rfl rfl ⟨_, .inl rfl, (by unfold rowF; split <;> rfl), wa1 <| we_bin <| we_var 2 rfl rfl <| we_var 3 rfl rfl <| b_add ⟨_, R', a + b, rfl, kR', we_var 6 rfl rfl <| b_eqM (met_eq m) nf hr (by decide) (.inl rfl) (.inl rfl) ⟨_, _, _, _, rfl, kAB, kAB, fun k hk => ?_⟩⟩⟩
  obtain rfl : k = true := hk.mpr rfl
  refine we_bl <| b_notB ⟨_, rfl, fun h => (by cases h), fun _ => ?_⟩
  refine ww_or <| wt_cmp <| we_cmp <| we_met (met_moved m) hr (by decide) <| we_met (met_moved m) hr (by decide) <| we_var 4 rfl rfl ⟨_, .inl rfl, (by unfold rowF; split <;> rfl), wa1 <| we_var 3 rfl rfl ⟨_, R', b, rfl, kR', _, .inl rfl, (by unfold rowF; split <;> rfl), wa1 <| we_var 2 rfl rfl ⟨_, mv R' b, a, rfl, kB, we_var 6 rfl rfl <| b_eqM (met_eq m) nf hr (by decide) (.inl rfl) (.inl rfl) ⟨_, _, _, _, rfl, eBA ▸ kAB, kAB, fun k hk => ?_⟩⟩⟩⟩
  obtain rfl : k = true := hk.mpr eBA
  refine we_bl <| b_notB ⟨_, rfl, fun h => (by cases h), fun _ => ?_⟩
  refine ww_or1 <| wt_cmp <| we_cmp <| we_met (met_moved m) hr (by decide) <| we_var 6 rfl rfl ⟨_, .inl rfl, (by unfold rowF; split <;> rfl), wa1 <| we_bin <| we_un <| we_var 2 rfl rfl <| b_neg <| we_var 3 rfl rfl <| b_sub ⟨_, mv R' (a + b), -a - b, rfl, kAB, we_var 4 rfl rfl <| b_eqM (met_eq m) nf hr (by decide) (.inl rfl) (.inl rfl) ⟨_, _, _, _, rfl, eB0.symm ▸ kR', kR', fun k hk => ?_⟩⟩⟩
  obtain rfl : k = true := hk.mpr eB0
  refine we_bl <| b_notB ⟨_, rfl, fun h => (by cases h), fun _ => wss_nil ?_⟩
  -- the arrows
  refine wss_cons <| ws_set 7 nd rfl <| we_bin <| we_ix <| we_var 1 rfl rfl <| we_int <| ix_tupD rfl <| we_b1 flen bb_len <| we_ix <| we_var 1 rfl rfl <| we_int <| ix_tupD rfl <| c_len <| b_add ?_
  rw [List.length_map]
  generalize ht : R.s + (R.m.length : Int) = tt
  refine wss_cut (fun ds1 M1 => ∃ (o : Option D) (d2 : D), ds1 = [some (.raw (.ref p)), some (rowD R), some (.int a), some (.int b), some (rowO K R'), some (rowO K (mv R' a)), some (rowO K (mv R' (a + b))), some (.int tt), o, none, none, none] ∧ M1 = updM M p d2 ∧ BagD d2)
    (ws_for (.nm 8) PassesOwn.never rfl (pgN nd rfl) <| wi_list <| we_lst <| wa_cons <| we_bin <| we_ix <| we_var 1 rfl rfl <| we_int <| ix_tupD rfl <| we_int <| b_sub <| wa_cons <| we_ix <| we_var 1 rfl rfl <| we_int <| ix_tupD rfl <| wa_cons <| we_var 7 rfl rfl <| wa_cons <| we_bin <| we_var 7 rfl rfl <| we_int <| b_add <| wa_cons <|
      we_bin <| we_ix <| we_var 1 rfl rfl <| we_int <| ix_tupD rfl <| we_cal (cal_take m) hr (by decide) <| wa2 <| we_var 0 rfl rfl <| we_int ⟨p, d6, _, rfl, updM_same, hB6, by decide, by decide, fun z5 d7 f1 f2 hB7 => b_sub <| wa_cons <| we_bin <| we_var 7 rfl rfl <| we_cal (cal_take m) hr (by decide) <| wa2 <| we_var 0 rfl rfl <| we_int ⟨p, d7, _, rfl, updM_same, hB7, by decide, by decide, fun z6 d8 g1 g2 hB8 => b_add <| wa_cons <|
      we_bin <| we_ix <| we_var 1 rfl rfl <| we_int <| ix_tupD rfl <| we_cal (cal_take m) hr (by decide) <| wa2 <| we_var 0 rfl rfl <| we_bin <| we_b1 flen bb_len <| we_ix <| we_var 1 rfl rfl <| we_int <| ix_tupD rfl <| c_len <| we_int <| b_add ⟨p, d8, _, rfl, updM_same, hB8, by rw [List.length_map]; omega, by rw [List.length_map]; omega, fun z7 d9 h1 h2 hB9 => b_add <| wa_nil ⟨sz rfl, _, rfl, fun _ => ⟨fun _ ds1 M1 => ∃ o, ds1 = [some (.raw (.ref p)), some (rowD R), some (.int a), some (.int b), some (rowO K R'), some (rowO K (mv R' a)), some (rowO K (mv R' (a + b))), some (.int tt), o, none, none, none] ∧ M1 = updM M p d9, ⟨_, rfl, ?_⟩, ?_, ?_⟩⟩⟩⟩⟩) ?_
  · simp only [updM_updM]
  · rintro ds1 M1 ⟨o, rfl, rfl⟩
    exact ⟨o, d9, rfl, rfl, hB9⟩
  · rintro i ds1 M1 hi ⟨o, rfl, rfl⟩
    obtain ⟨t, et⟩ := all_int (by simp) hi
    show ∃ ds', bindT _ (Tg.nm 8) (List.getD _ i D.non) = some ds' ∧ _
    rw [et]
    refine ⟨_, rfl, ?_⟩
    refine wss_one <| ws_if <| wt_w <| ww_or <| wt_cmp <| we_met (met_arrow m) hr (by decide) <| we_var 5 rfl rfl ⟨_, .inl rfl, (by unfold rowF; split <;> rfl), wa1 <| we_bin <| we_var 8 rfl rfl <| we_var 2 rfl rfl <| b_sub ⟨_, mv R' a, t - a, rfl, kA, we_cal (cal_lat m) hr (by decide) <| wa2 <| we_var 1 rfl rfl <| we_var 8 rfl rfl ⟨R, t, rfl, vr, ?_⟩⟩⟩
    rw [arA]
    refine b_neS ⟨_, rfl, fun h => ?_, fun _ => ?_⟩
    · rw [decide_eq_true rfl] at h; cases h
    refine ww_or1 <| wt_cmp <| we_met (met_arrow m) hr (by decide) <| we_var 6 rfl rfl ⟨_, .inl rfl, (by unfold rowF; split <;> rfl), wa1 <| we_bin <| we_bin <| we_var 8 rfl rfl <| we_var 2 rfl rfl <| b_sub <| we_var 3 rfl rfl <| b_sub ⟨_, mv R' (a + b), t - a - b, rfl, kAB, we_cal (cal_lat m) hr (by decide) <| wa2 <| we_var 1 rfl rfl <| we_var 8 rfl rfl ⟨R, t, rfl, vr, ?_⟩⟩⟩
    rw [arAB]
    refine b_neS ⟨_, rfl, fun h => ?_, fun _ => wss_nil ⟨_, rfl, rfl⟩⟩
    rw [decide_eq_true rfl] at h; cases h
  rintro ds1 M1 ⟨o, d7, rfl, rfl, hB7⟩
  refine wss_cons <| ws_asg (.tp [9, 10]) (pg_tup rfl <| pgs_cons (pgN nd rfl) <| pgs_cons (pgN nd rfl) pgs_nil) <| we_tup <| wa_cons <| we_bin <| we_bin <| we_ix <| we_var 1 rfl rfl <| we_int <| ix_tupD rfl <| we_int <| b_sub <| we_cal (cal_take m) hr (by decide) <| wa2 <| we_var 0 rfl rfl <| we_int ⟨p, d7, _, rfl, updM_same, hB7, by decide, by decide, fun z8 d8 f1 f2 hB8 => b_sub <| wa1 <|
    we_cal (cal_pick m) hr (by decide) <| wa2 <| we_var 0 rfl rfl <| we_lst <| wa_cons <| we_un <| we_int <| b_neg <| wa_cons <| we_int <| wa_cons <| we_int <| wa_cons <| we_int <| wa_nil ⟨sz rfl, p, d8, _, rfl, updM_same, hB8, by simp, by simp, fun x d9 hx hB9 => ?_⟩⟩
  have hx2 : ∃ n : Int, x = .int n ∧ -5 ≤ n ∧ n ≤ 30 := by
    simp only [List.mem_cons, List.not_mem_nil, or_false] at hx
    rcases hx with rfl | rfl | rfl | rfl <;> exact ⟨_, rfl, by omega, by omega⟩
  obtain ⟨many, rfl, hm1, hm2⟩ := hx2
  clear hx
  simp only [updM_updM]
  refine ⟨sz rfl, _, rfl, ?_⟩
  generalize hlow : R.s - 1 - z8 = low
  have lo1 : -20000000000000010 ≤ low := by omega
  have lo2 : low ≤ 20000000000000010 := by omega
  have nmO : ∀ (f : Int → Str) (x : Int) (n : Nat), (∀ t, f t ∈ NM) → (encL encS).ok (seg f x n) := fun f x n h y hy => nm_ok y (seg_mem h y hy)
  have nR' : ∀ t, R'.at t ∈ NM := kR'.at
  have nR : ∀ t, R.at t ∈ NM := ko.at
  have nA : ∀ t, (mv R' a).at t ∈ NM := kA.at
  refine wss_cons <| ws_if <| wt_w <| ww_or <| wt_cmp <| we_met (met_part m) hr (by decide) <| we_var 4 rfl rfl ⟨_, .inl rfl, (by unfold rowF; split <;> rfl), wa2 <| we_var 9 rfl rfl <| we_bin <| we_var 9 rfl rfl <| we_var 10 rfl rfl <| b_add ⟨_, R', low, low + many, rfl, kR', by omega, by omega, by omega, by omega, by omega, ?_⟩⟩
  refine we_lcM (.nm 11) (List.range many.toNat) (fun i : Nat => .int (i : Int)) (fun i : Nat => .str (R.at (low + (i : Int)))) rfl nd (own := [("k", 11)]) (by kernel_rfl) (by decide) (fun s0 H0 C cl fp => pgN nd rfl) (wi_range1 frange <| wa1 <| we_var 10 rfl rfl ⟨many, rfl, by omega, by omega, by omega, li_range _ _, fun i hi M' hs => ⟨_, rfl, fun s0 H0 C cl fp => we_cal (cal_lat m) hr (by decide) <| wa2 <| we_var 1 rfl rfl <| we_bin <| we_var 9 rfl rfl <| we_var 11 rfl rfl <| b_add ⟨R, _, rfl, vr, rfl, rfl⟩⟩, ?_⟩)
  rw [seg_D, show low + many - low = many by omega]
  refine b_neE (encL encS) (a := seg R'.at low many.toNat) (b := seg R.at low many.toNat) hr ⟨_, rfl, fun h => ?_, fun _ => ?_⟩ (nmO _ _ _ nR') (nmO _ _ _ nR)
  · rw [decide_eq_true (show seg R'.at low many.toNat = seg R.at low many.toNat by rw [funext cn.at])] at h; cases h
  refine ww_or1 <| wt_cmp <| we_met (met_part m) hr (by decide) <| we_var 4 rfl rfl ⟨_, .inl rfl, (by unfold rowF; split <;> rfl), wa2 <| we_bin <| we_var 9 rfl rfl <| we_var 2 rfl rfl <| b_sub <| we_bin <| we_var 9 rfl rfl <| we_var 2 rfl rfl <| b_sub ⟨_, R', low - a, low - a, rfl, kR', by omega, by omega, by omega, by omega, by omega, we_lst <| wa_nil ⟨sz rfl, ?_⟩⟩⟩
  rw [show low - a - (low - a) = 0 by omega]
  refine b_neE (encL encS) (a := []) (b := []) hr ⟨_, rfl, fun h => (by cases h), fun _ => wss_nil ?_⟩ (fun _ h => (by cases h)) (fun _ h => (by cases h))
  refine wss_cons <| ws_if <| wt_cmp <| we_met (met_part m) hr (by decide) <| we_var 5 rfl rfl ⟨_, .inl rfl, (by unfold rowF; split <;> rfl), wa2 <| we_bin <| we_var 9 rfl rfl <| we_var 2 rfl rfl <| b_sub <| we_bin <| we_bin <| we_var 9 rfl rfl <| we_var 2 rfl rfl <| b_sub <| we_int <| b_add ⟨_, mv R' a, low - a, low - a + 12, rfl, kA, by omega, by omega, by omega, by omega, by omega, ?_⟩⟩
  refine we_lcM (.nm 11) (List.range 12) (fun i : Nat => .int (i : Int)) (fun i : Nat => .str ((mv R' a).at (low - a + (i : Int)))) rfl nd (own := [("k", 11)]) (by kernel_rfl) (by decide) (fun s0 H0 C cl fp => pgN nd rfl) (wi_range1 frange <| wa1 <| we_int ⟨12, rfl, by omega, by omega, by show 12 ≤ _; omega, li_range _ _, fun i hi M' hs => ⟨_, rfl, fun s0 H0 C cl fp => we_met (met_arrow m) hr (by decide) <| we_var 5 rfl rfl ⟨_, .inl rfl, (by unfold rowF; split <;> rfl), wa1 <| we_bin <| we_bin <| we_var 9 rfl rfl <| we_var 2 rfl rfl <| b_sub <| we_var 11 rfl rfl <| b_add ⟨_, mv R' a, _, rfl, kA, rfl, rfl⟩⟩⟩, ?_⟩)
  rw [seg_D, show low - a + 12 - (low - a) = 12 by omega]
  refine b_neE (encL encS) (a := seg (mv R' a).at (low - a) 12) (b := seg (mv R' a).at (low - a) 12) hr ⟨_, rfl, fun h => ?_, fun _ => wss_nil ?_⟩ (nmO _ _ _ nA) (nmO _ _ _ nA)
  · rw [decide_eq_true rfl] at h; cases h
  -- the ring's own turn
  refine wss_cut (fun ds1 M1 => ∃ d2, ds1 = [some (.raw (.ref p)), some (rowD R), some (.int a), some (.int b), some (rowO K R'), some (rowO K (mv R' a)), some (rowO K (mv R' (a + b))), some (.int tt), o, some (.int low), some (.int many), none] ∧ M1 = updM M p d2 ∧ BagD d2) (ws_if <| wt_w <| ww_and ?_) ?_
  · have same : R.ring = true → ∀ z : Int, mv R' ((R.l.length : Int) * z) = R' := fun h z => mv_same ko cn h z
    rcases ko_cases ko with ⟨l, rfl⟩ | ⟨l, mi, r, st, rfl⟩
    · refine wt_truth <| we_ix <| we_var 1 rfl rfl <| we_int <| ix_tupD rfl <| tru_is rfl ⟨fun _ => ?_, fun h => (by cases h)⟩
      refine ww_and1 <| wt_cmp <| we_cmp <| we_met (met_moved m) hr (by decide) <| we_var 4 rfl rfl ⟨_, .inl rfl, (by unfold rowF; split <;> rfl), wa1 <| we_bin <| we_b1 flen bb_len <| we_ix <| we_var 1 rfl rfl <| we_int <| ix_tupD rfl <| c_len <| we_cal (cal_take m) hr (by decide) <| wa2 <| we_var 0 rfl rfl <| we_bin <| we_int <| we_int <| b_p9 ⟨p, d9, _, rfl, updM_same, hB9, by decide, by decide, fun z9 d10 f1 f2 hB10 => b_mul (.inr ⟨by omega, by omega⟩) ?_⟩⟩
      rw [List.length_map, updM_updM]
      have sm : mv R' ((l.length : Int) * z9) = R' := same rfl z9
      refine ⟨_, R', _, rfl, kR', we_var 4 rfl rfl <| b_eqM (met_eq m) nf hr (by decide) (.inl rfl) (.inl rfl) ⟨_, _, _, _, rfl, sm.symm ▸ kR', kR', fun k hk => ?_⟩⟩
      obtain rfl : k = true := hk.mpr sm
      exact we_bl <| b_notB ⟨_, rfl, fun h => (by cases h), fun _ => wss_nil ⟨d10, rfl, rfl, hB10⟩⟩
    · exact wt_truth <| we_ix <| we_var 1 rfl rfl <| we_int <| ix_tupD rfl <| tru_is rfl ⟨fun h => (by cases h), fun _ => ⟨fun h => (by cases h), fun _ => wss_nil ⟨d9, rfl, rfl, hB9⟩⟩⟩
  rintro ds1 M1 ⟨d10, rfl, rfl, hB10⟩
  refine wss_one <| ws_ret <| we_andT <| we_cal (cal_whole m) hr (by decide) <| wa2 <| we_var 4 rfl rfl <| we_var 1 rfl rfl ⟨Bw, R, R', rfl, ko, by decide, by decide, cn, tru_is rfl ⟨fun _ => ?_, fun h => (by cases h)⟩⟩
  refine we_one <| we_cmp <| we_cmp <| we_met (met_moved m) hr (by decide) <| we_var 4 rfl rfl ⟨_, .inl rfl, (by unfold rowF; split <;> rfl), wa1 <| we_int ⟨_, R', 0, rfl, kR', we_var 4 rfl rfl <| b_eqM (met_eq m) nf hr (by decide) (.inl rfl) (.inl rfl) ⟨_, _, _, _, rfl, (mv_zero cs).symm ▸ kR', kR', fun k hk => ?_⟩⟩⟩
  obtain rfl : k = true := hk.mpr (mv_zero cs)
  exact we_bl <| b_isB (hQ d10 hB10)
end
end K03

namespace K03
open PySem PySem.Spec L2 DL

local macro_rules | `(tactic| walk_at "dl") => `(tactic| first
  | ((with_reducible show WE _ _ (.Constant _ _ _) _ _ _); first | refine we_int ?_ | refine we_str ?_ | refine we_bl ?_ | refine we_non ?_)
  | ((with_reducible show WE _ _ (.Name _ _) _ _ _); first | refine we_var 0 rfl rfl ?_ | refine we_var 1 rfl rfl ?_ | refine we_var 2 rfl rfl ?_ | refine we_var 3 rfl rfl ?_ | refine we_var 4 rfl rfl ?_ | refine we_var 5 rfl rfl ?_ | refine we_var 6 rfl rfl ?_ | refine we_var 7 rfl rfl ?_ | refine we_var 8 rfl rfl ?_ | refine we_var 9 rfl rfl ?_ | refine we_var 10 rfl rfl ?_ | refine we_var 11 rfl rfl ?_ | refine we_var 12 rfl rfl ?_ | refine we_var 13 rfl rfl ?_ | refine we_var 14 rfl rfl ?_ | refine we_var 15 rfl rfl ?_)
  | ((with_reducible show WE _ _ (.BinOp _ _ _ _) _ _ _); refine we_bin ?_)
  | ((with_reducible show WE _ _ (.Compare _ [_] [_] _) _ _ _); refine we_cmp ?_)
  | ((with_reducible show WT _ _ (.Compare _ [_] [_] _) _ _ _); refine wt_cmp ?_)
  | ((with_reducible show WE _ _ (.UnaryOp .USub _ _) _ _ _); refine we_un ?_)
  | ((with_reducible show WT _ _ (.UnaryOp .Not _ _) _ _ _); refine wt_not ?_)
  | ((with_reducible show WE _ _ (.IfExp _ _ _ _) _ _ _); refine we_ifx ?_)
  | ((with_reducible show WE _ _ (.Subscript _ (.Name _ _) _) _ _ _); refine we_ix ?_)
  | ((with_reducible show WE _ _ (.Subscript _ (.Constant _ _ _) _) _ _ _); refine we_ix ?_)
  | ((with_reducible show WE _ _ (.Subscript _ (.Subscript _ _ _) _) _ _ _); refine we_ix ?_)
  | ((with_reducible show WE _ _ (.Subscript _ (.BinOp _ _ _ _) _) _ _ _); refine we_ix ?_)
  | ((with_reducible show WE _ _ (.Subscript _ (.UnaryOp _ _ _) _) _ _ _); refine we_ix ?_)
  | ((with_reducible show WE _ _ (.Subscript _ (.Call _ _ _ _) _) _ _ _); refine we_ix ?_)
  | ((with_reducible show WE _ _ (.Call (.Name "len" _) [_] [] _) _ _ _); refine we_b1 (by assumption) bb_len ?_)
  | ((with_reducible show WE _ _ (.Call (.Name "abs" _) [_] [] _) _ _ _); refine we_b1 (by assumption) bb_abs ?_)
  | ((with_reducible show WE _ _ (.Call (.Name "int" _) [_] [] _) _ _ _); refine we_t1 (by assumption) bb_int ?_)
  | ((with_reducible show WE _ _ (.Call (.Name "list" _) [_] [] _) _ _ _); refine we_t1 (by assumption) bb_list ?_)
  | ((with_reducible show WE _ _ (.Call (.Name "tuple" _) [_] [] _) _ _ _); refine we_t1 (by assumption) bb_tuple ?_)
  | ((with_reducible show WE _ _ (.Call (.Name "str" _) [_] [] _) _ _ _); refine we_t1 (by assumption) bb_str ?_)
  | ((with_reducible show WE _ _ (.Call (.Name "set" _) [_] [] _) _ _ _); refine we_t1 (by assumption) bb_set ?_)
  | ((with_reducible show WE _ _ (.Call (.Name "sorted" _) [_] [] _) _ _ _); refine we_b1 (by assumption) bb_sorted ?_)
  | ((with_reducible show WE _ _ (.Call (.Name "isinstance" _) [_, _] [] _) _ _ _); refine we_b2 (by assumption) bb_isinstance ?_)
  | ((with_reducible show WE _ _ (.Call (.Name "max" _) [_] [] _) _ _ _); refine we_b1 (by assumption) bb_max ?_)
  | ((with_reducible show WE _ _ (.Call (.Name "min" _) [_] [] _) _ _ _); refine we_b1 (by assumption) bb_min ?_)
  | ((with_reducible show WE _ _ (.Call (.Name "max" _) [_, _] [] _) _ _ _); refine we_b2 (by assumption) bb_max ?_)
  | ((with_reducible show WE _ _ (.Call (.Name "min" _) [_, _] [] _) _ _ _); refine we_b2 (by assumption) bb_min ?_)
  | ((with_reducible show BinG _ _ (binaryOp .Add) (.int _) (.int _) _ _); refine b_add ?_)
  | ((with_reducible show BinG _ _ (binaryOp .Sub) (.int _) (.int _) _ _); refine b_sub ?_)
  | ((with_reducible show BinG _ _ (binaryOp .Mod) (.int _) (.int _) _ _); refine b_mod (by omega) ?_)
  | ((with_reducible show BinG _ _ (binaryOp .FloorDiv) (.int _) (.int _) _ _); refine b_div ⟨by omega, by omega⟩ ?_)
  | ((with_reducible show BinG _ _ (binaryOp .Mult) (.int _) (.int _) _ _); first | refine b_mul (.inr ⟨by omega, by omega⟩) ?_ | refine b_mul (.inl ⟨by omega, by omega⟩) ?_)
  | ((with_reducible show BinG _ _ (compareOp .Lt) (.int _) (.int _) _ _); refine b_lt ?_)
  | ((with_reducible show BinG _ _ (compareOp .LtE) (.int _) (.int _) _ _); refine b_le ?_)
  | ((with_reducible show BinG _ _ (compareOp .Gt) (.int _) (.int _) _ _); refine b_gt ?_)
  | ((with_reducible show BinG _ _ (compareOp .GtE) (.int _) (.int _) _ _); refine b_ge ?_)
  | ((with_reducible show BinG _ _ (compareOp .Eq) (.int _) (.int _) _ _); refine b_eqI (by assumption) ?_)
  | ((with_reducible show BinG _ _ (compareOp .NotEq) (.int _) (.int _) _ _); refine b_neI (by assumption) ?_)
  | ((with_reducible show UnG _ _ (unaryOp .USub) (.int _) _ _); refine b_neg ?_)
  | (with_reducible refine ex_bl ?_)
  | ((with_reducible show CallG _ _ (.type "int") [.int _] _ _); refine c_int ?_)
  | ((with_reducible show CallG _ _ (.type "int") [.bl _] _ _); refine c_intB ?_)
  | ((with_reducible show CallG _ _ (.builtin "abs") _ _ _); refine c_abs ?_)
  | ((with_reducible show CallG _ _ (.builtin "len") [.lst _] _ _); refine c_len ?_)
  | ((with_reducible show CallG _ _ (.builtin "len") [.tup _] _ _); refine c_lenT ?_)
  | ((with_reducible show CallG _ _ (.builtin "len") [.raw _] _ _); refine c_lenM (by first | assumption | exact updM_same) ?_)
  | ((with_reducible show CallG _ _ (.type "list") [.tup _] _ _); refine c_listT ?_)
  | ((with_reducible show CallG _ _ (.type "tuple") [.lst _] _ _); refine c_tuple ?_)
  | ((with_reducible show CallG _ _ (.type "tuple") [.tup _] _ _); refine c_tupleT ?_)
  | ((with_reducible show CallG _ _ (.builtin "max") [.int _, .int _] _ _); refine c_max2 rfl ?_)
  | ((with_reducible show CallG _ _ (.builtin "min") [.int _, .int _] _ _); refine c_min2 rfl ?_)
  | ((with_reducible show IxG _ _ (.tup _) _ _ _); refine ix_tupD rfl ?_)
  | ((with_reducible show IxG _ _ (.raw _) _ _ _); refine ix_mlst (by first | assumption | exact updM_same) rfl ?_)
  | ((with_reducible show WA _ _ (_ :: _) _ _ _); refine wa_cons ?_)
  | ((with_reducible show WA _ _ [] _ _ _); refine wa_nil ?_))
section
variable {P : Program} {w : World} {K : PySem.W.Frag} {mg : Str → Option Value} {base : Heap}
theorem due_iff {R S R' S' : Rw Str} (cr : Cn R.at R') (cs : Cn S.at S') : (∀ t, R.at t = S.at t) ↔ R' = S' := by
  constructor
  · intro h
    rw [← show R.at = S.at from funext h] at cs
    exact cr.uniq cs
  · intro h t
    rw [← cr.at, ← cs.at, h]
theorem apart_ne (s : Int) : ¬ ∀ t, (wR [("x" : Str)] [("yy" : Str), "x"] [("x" : Str)] s).at t = (wR [("x" : Str)] [("yy" : Str), "x"] [("x" : Str)] (s + 1)).at t := by
  intro h
  have h := h s
  simp only [Rw.at] at h
  rw [if_neg (by omega), if_pos (by show s - s < ((2 : Nat) : Int); omega), if_pos (by omega), show (s - s).toNat = 0 by omega] at h
  have e1 : ((s - (s + 1)) % (([("x" : Str)] : List Str).length : Int)).toNat = 0 := by
    show ((s - (s + 1)) % (1 : Int)).toNat = 0
    rw [Int.emod_one]
    rfl
  rw [e1] at h
  exact absurd h (by decide +kernel)
def spLaw : SpD := fun xs M Q => ∃ ns : List Int, xs = [.klst (ns.map D.int)] ∧ ∀ M', Q (.bl true) M'
theorem sc_law : FnScope ["script", "bag", "names", "k", "row", "told", "twice", "long", "read", "other", "turn", "bent", "apart"] ["script"] d_law.scope := ⟨rfl, rfl, rfl, by decide +kernel, rfl, by decide +kernel, by decide +kernel⟩
theorem ok_law (m : Md K mg base) {fd : FuncData} (F : FunD K d_law.name d_law.qual d_law.params d_law.body d_law.scope (d_law.dvs K) (d_law.kws K) (He.fAd K d_law.at_) fd) : FnOk P w K mg base CX0 9 (He.fAd K d_law.at_) fd ["script"] (toSp K spLaw) := by
  refine fnD F sc_law (fun xs M Q ⟨a, e, _⟩ => by rw [e]; rfl) ?_
  rintro cdv A outer s H E hr xs M Q ⟨ns, rfl, hQ⟩
  have nd := sc_law.nd
  have flist : mg "list" = none := He.free_ok m.i m.n (free_list m.c)
  have frange : mg "range" = none := He.free_ok m.i m.n (free_range m.c)
  have hsz : sizeLine = 16777216 := sizeLine_eq
  refine wss_cons <| ws_set 1 nd rfl <| we_cal (cal_bag m) hr (by decide) <| wa1 <| we_var 0 rfl rfl ⟨ns, rfl, fun p d hp hB => ?_⟩
  refine wss_cut (fun ds1 M1 => ∃ (na : List Str) (d1 : D), ds1 = [some (.klst (ns.map D.int)), some (.raw (.ref p)), some (.lst (na.map D.str)), none, none, none, none, none, none, none, none, none, none] ∧ M1 = updM M p d1 ∧ BagD d1 ∧ 0 < na.length ∧ na.length < 1000 ∧ ∀ x ∈ na, x ∈ NM)
    (ws_set 2 nd rfl <| we_slice <| we_lst <| wa_cons <| we_str <| wa_cons <| we_str <| wa_cons <| we_str <| wa_nil ⟨sz rfl, wo_none <| wo_some <| we_bin <| we_int <| we_cal (cal_take m) hr (by decide) <| wa2 <| we_var 1 rfl rfl <| we_int ⟨p, d, 2, rfl, updM_same, hB, by decide, by decide, fun z d2 h1 h2 hB2 => b_add ?_⟩⟩) ?_
  · rw [updM_updM]
    have hz : z = 0 ∨ z = 1 := by omega
    rcases hz with rfl | rfl
    · refine ⟨((2 : Nat) : Int), rfl, _, .lst _ _ _, ?_⟩
      show ∃ _, _
      have e := cutD_take (xs := NM) (k := 2) (by decide)
      refine ⟨NM.take 2, d2, ?_, rfl, hB2, by decide, by decide, fun x hx => List.mem_of_mem_take hx⟩
      rw [← e]
      rfl
    · refine ⟨((3 : Nat) : Int), rfl, _, .lst _ _ _, ?_⟩
      have e := cutD_take (xs := NM) (k := 3) (by decide)
      refine ⟨NM.take 3, d2, ?_, rfl, hB2, by decide, by decide, fun x hx => List.mem_of_mem_take hx⟩
      rw [← e]
      rfl
  rintro ds1 M1 ⟨na, d0, rfl, rfl, hB0, na0, na1, nan⟩
  refine wss_cut (fun ds1 M1 => True)
    (ws_for (.nm 3) PassesOwn.never rfl (pgN nd rfl) <| wi_range1 frange <| wa1 <| we_int ⟨2, rfl, by decide, by decide, fun _ ds1 M1 => ∃ (o3 o4 o5 o6 o7 o8 o9 o10 o11 o12 : Option D) (d1 : D), ds1 = [some (.klst (ns.map D.int)), some (.raw (.ref p)), some (.lst (na.map D.str)), o3, o4, o5, o6, o7, o8, o9, o10, o11, o12] ∧ M1 = updM M p d1 ∧ BagD d1, ⟨_, _, _, _, _, _, _, _, _, _, d0, rfl, rfl, hB0⟩, fun _ _ _ => trivial, ?_⟩)
    (fun ds1 M1 _ => wss_one <| ws_ret <| we_bl <| hQ _)
  rintro i ds1 M1 hi ⟨o3, o4, o5, o6, o7, o8, o9, o10, o11, o12, d1, rfl, rfl, hB1⟩
  refine ⟨_, rfl, ?_⟩
  refine wss_cons <| ws_set 4 nd rfl <| we_cal (cal_row m) hr (by decide) <| wa2 <| we_var 1 rfl rfl <| we_var 2 rfl rfl ⟨p, d1, na, rfl, updM_same, hB1, na0, na1, nan, fun R d2 ko ka km kr hB2 => ?_⟩
  rw [updM_updM]
  have vr := ko.vr
  have eBw : Bw = 20000000000000000 := rfl
  refine wss_cons <| ws_if <| wt_not <| wt_truth <| we_cal (cal_group m) hr (by decide) <| wa2 <| we_var 1 rfl rfl <| we_var 4 rfl rfl ⟨p, d2, R, rfl, updM_same, hB2, ko, fun d3 hB3 => tru_is rfl ⟨fun h => (by cases h), fun _ => wss_nil ?_⟩⟩
  rw [updM_updM]
  refine wss_cons <| ws_asg (.tp [5, 6, 7]) (pg_tup rfl <| pgs_cons (pgN nd rfl) <| pgs_cons (pgN nd rfl) <| pgs_cons (pgN nd rfl) pgs_nil) <| we_tup <| wa_cons <| we_cal (cal_made m) hr (by decide) <| wa1 <| we_var 4 rfl rfl ⟨Bw, R, rfl, ko, by decide, fun R' cn => wa_cons <|
    we_cal (cal_made m) hr (by decide) <| wa1 <| we_cal (cal_written m) hr (by decide) <| wa2 <| we_var 4 rfl rfl <| we_int ⟨Bw, R, 1, rfl, .inl rfl, ko, ka, km, kr, fun W1 kW1 eW1 => ⟨Bw + 1, W1, rfl, kW1, by decide, fun T1 c1 => wa1 <|
    we_cal (cal_made m) hr (by decide) <| wa1 <| we_cal (cal_written m) hr (by decide) <| wa2 <| we_var 4 rfl rfl <| we_int ⟨Bw, R, 2, rfl, .inr rfl, ko, ka, km, kr, fun W2 kW2 eW2 => ⟨Bw + 1, W2, rfl, kW2, by decide, fun T2 c2 => ?_⟩⟩⟩⟩⟩
  rw [show W1.at = R.at from funext eW1] at c1
  rw [show W2.at = R.at from funext eW2] at c2
  obtain rfl := c1.uniq cn
  obtain rfl := c2.uniq c1
  refine ⟨sz rfl, _, rfl, ?_⟩
  have kR' := cn_ko ko (by decide) c1
  have cs := cn_self c1
  -- read
  refine wss_cons <| ws_set 8 nd rfl <| we_cal (cal_read m) hr (by decide) <| wa1 <| we_cal (cal_ltext m) hr (by decide) <| wa1 <| we_tup <| wa_cons <| we_ix <| we_var 4 rfl rfl <| we_int <| ix_tupD rfl <| wa_cons <| we_t1 flist bb_list <| we_ix <| we_var 4 rfl rfl <| we_int <| ix_tupD rfl <| c_list <| wa_cons <| we_t1 flist bb_list <| we_ix <| we_var 4 rfl rfl <| we_int <| ix_tupD rfl <| c_list <| wa2 <| we_t1 flist bb_list <| we_ix <| we_var 4 rfl rfl <| we_int <| ix_tupD rfl <| c_list <| we_ix <| we_var 4 rfl rfl <| we_int <| ix_tupD rfl ⟨sz rfl, Bw, R, rfl, ko, by decide, Bw, R, rfl, ko, by decide, fun T3 c3 => ?_⟩
  obtain rfl := c3.uniq c1
  refine wss_cons <| ws_if <| wt_cmp <| we_lcP (.nm 9) [(), (), (), ()] (fun _ => rowO K T3) (fun _ => false) (fun _ => D.non) rfl nd (own := [("other", 9)]) (blkOk_by (by kernel_rfl)) (by decide) (fun s0 H0 C cl fp => pgN nd rfl) (wi_list <| we_lst <| wa_cons <| we_var 6 rfl rfl <| wa_cons <| we_var 7 rfl rfl <| wa2 <| we_var 8 rfl rfl <| we_cal (cal_made m) hr (by decide) <| wa1 <| we_cal (cal_lleast m) hr (by decide) <| wa1 <| we_var 4 rfl rfl ⟨Bw, R, rfl, ko, by decide, fun R2 c4 => ?_⟩)
  · obtain rfl := c4.uniq c1
    refine ⟨_, R2, rfl, kR', by decide, fun R3 c5 => ?_⟩
    obtain rfl := c5.uniq cs
    refine ⟨sz rfl, _, rfl, fun hz => ⟨hz, li_map [(), (), (), ()] (fun _ => rowO K R3), ?_, ?_⟩⟩
    · intro y hy M' hs
      exact ⟨_, rfl, fun s0 H0 C cl fp => wts_one <| wt_not <| wt_truth <| we_cal (cal_alike m) hr (by decide) <| wa_cons <| we_var 5 rfl rfl <| wa2 <| we_var 9 rfl rfl <| we_bl ⟨_, _, R3, R3, true, rfl, kR', kR', ⟨fun _ => rfl, fun _ => rfl⟩, tru_is rfl ⟨rfl, rfl⟩⟩, fun h => (by cases h)⟩
    refine we_lst <| wa_nil ⟨sz rfl, b_neE (encL encI) (a := []) (b := []) hr ⟨_, rfl, fun h => (by cases h), fun _ => wss_nil ?_⟩ (fun _ h => (by cases h)) (fun _ h => (by cases h))⟩
    -- bent
    refine wss_cut (fun ds1 M1 => ∃ (o10 o11 : Option D) (d2 : D), ds1 = [some (.klst (ns.map D.int)), some (.raw (.ref p)), some (.lst (na.map D.str)), some (.int (i : Int)), some (rowD R), some (rowO K R3), some (rowO K R3), some (rowO K R3), some (rowO K R3), o9, o10, o11, o12] ∧ M1 = updM M p d2 ∧ BagD d2)
      (ws_for (.nm 10) PassesOwn.never rfl (pgN nd rfl) <| wi_range1 frange <| wa1 <| we_int ⟨3, rfl, by decide, by decide, fun _ ds1 M1 => ∃ (o10 o11 : Option D) (d2 : D), ds1 = [some (.klst (ns.map D.int)), some (.raw (.ref p)), some (.lst (na.map D.str)), some (.int (i : Int)), some (rowD R), some (rowO K R3), some (rowO K R3), some (rowO K R3), some (rowO K R3), o9, o10, o11, o12] ∧ M1 = updM M p d2 ∧ BagD d2, ⟨_, _, d3, rfl, rfl, hB3⟩, fun _ _ h => h, ?_⟩) ?_
    · rintro j ds1 M1 hj ⟨o10, o11, d4, rfl, rfl, hB4⟩
      refine ⟨_, rfl, ?_⟩
      refine wss_cons <| ws_set 11 nd rfl <| we_cal (cal_bent m) hr (by decide) <| wa2 <| we_var 1 rfl rfl <| we_var 4 rfl rfl ⟨p, d4, Bw, R, rfl, updM_same, hB4, by decide, ko, fun S d5 kS g1 g2 hB5 => ?_⟩
      rw [updM_updM]
      refine wss_one <| ws_if <| wt_not <| wt_truth <| we_cal (cal_alike m) hr (by decide) <| wa_cons <| we_var 5 rfl rfl <| wa2 <| we_cal (cal_made m) hr (by decide) <| wa1 <| we_var 11 rfl rfl ⟨_, S, rfl, kS, by decide, fun S' cS => we_cal (cal_equal m) hr (by decide) <| wa2 <| we_var 4 rfl rfl <| we_var 11 rfl rfl ⟨_, R, _, S, rfl, ko, by decide, kS, by decide, by omega, by omega, fun k hk => ?_⟩⟩
      exact ⟨_, _, R3, S', k, rfl, kR', cn_ko kS (by decide) cS, hk.trans (due_iff c1 cS), tru_is rfl ⟨fun h => (by cases h), fun _ => wss_nil ⟨_, _, d5, rfl, rfl, hB5⟩⟩⟩
    rintro ds1 M1 ⟨o10, o11, d4, rfl, rfl, hB4⟩
    -- other, apart
    have s1 := ko.s1
    have s2 := ko.s2
    have nx : ∀ x ∈ [("x" : Str)], x ∈ NM := by decide +kernel
    have nyx : ∀ x ∈ [("yy" : Str), "x"], x ∈ NM := by decide +kernel
    have kO : Ko Bw (wR [("x" : Str)] [("yy" : Str), "x"] [("x" : Str)] R.s) := ⟨Nat.le_refl 1, (show (1 : Nat) ≤ 30 by omega), (show (2 : Nat) ≤ 60 by omega), Nat.le_refl 1, (show (1 : Nat) ≤ 30 by omega), nx, nyx, nx, fun e => Bool.noConfusion e, s1, s2⟩
    have kA : Ko (Bw + 1) (wR [("x" : Str)] [("yy" : Str), "x"] [("x" : Str)] (R.s + 1)) := ⟨Nat.le_refl 1, (show (1 : Nat) ≤ 30 by omega), (show (2 : Nat) ≤ 60 by omega), Nat.le_refl 1, (show (1 : Nat) ≤ 30 by omega), nx, nyx, nx, fun e => Bool.noConfusion e, by show -(Bw + 1) ≤ R.s + 1; omega, by show R.s + 1 ≤ Bw + 1; omega⟩
    refine wss_cons ?_
    refine ws_set 9 nd rfl ?_
    refine we_tup ?_
    refine wa_cons ?_
    refine we_bl ?_
    refine wa_cons ?_
    refine we_lst ?_
    refine wa1 ?_
    refine we_str ?_
    refine ⟨sz rfl, ?_⟩
    refine wa_cons ?_
    refine we_lst ?_
    refine wa2 ?_
    refine we_str ?_
    refine we_str ?_
    refine ⟨sz rfl, ?_⟩
    refine wa_cons ?_
    refine we_lst <| wa1 ?_
    refine we_str ⟨sz rfl, ?_⟩
    refine wa1 ?_
    refine we_ix <| we_var 4 rfl rfl ?_
    refine we_int <| ix_tupD rfl ?_
    refine ⟨sz rfl, ?_⟩
    refine wss_cons ?_
    refine ws_set 12 nd rfl ?_
    refine we_tup ?_
    refine wa_cons ?_
    refine we_bl ?_
    refine wa_cons ?_
    refine we_lst ?_
    refine wa1 ?_
    refine we_str ?_
    refine ⟨sz rfl, ?_⟩
    refine wa_cons ?_
    refine we_lst ?_
    refine wa2 ?_
    refine we_str ?_
    refine we_str ?_
    refine ⟨sz rfl, ?_⟩
    refine wa_cons ?_
    refine we_lst <| wa1 ?_
    refine we_str ⟨sz rfl, ?_⟩
    refine wa1 ?_
    refine we_bin <| we_ix <| we_var 4 rfl rfl ?_
    refine we_int <| ix_tupD rfl ?_
    refine we_int <| b_add ?_
    refine ⟨sz rfl, ?_⟩
    refine wss_one <| ws_if <| wt_w <| ww_or <| wt_not <| wt_truth <| we_cal (cal_alike m) hr (by decide) <| wa_cons <| we_cal (cal_made m) hr (by decide) <| wa1 <| we_var 9 rfl rfl ⟨_, wR [("x" : Str)] [("yy" : Str), "x"] [("x" : Str)] R.s, rfl, kO, by decide, fun O cO => wa2 <| we_cal (cal_made m) hr (by decide) <| wa1 <| we_var 12 rfl rfl ⟨_, wR [("x" : Str)] [("yy" : Str), "x"] [("x" : Str)] (R.s + 1), rfl, kA, by decide, fun A cA => we_bl ⟨_, _, O, A, false, rfl, cn_ko kO (by decide) cO, cn_ko kA (by decide) cA, ⟨fun h => (by cases h), fun h => absurd ((due_iff cO cA).mpr h) (apart_ne _)⟩, tru_is rfl ⟨fun h => (by cases h), fun _ => ?_⟩⟩⟩⟩
    refine ww_or1 <| wt_not <| wt_truth <| we_cal (cal_alike m) hr (by decide) <| wa_cons <| we_var 5 rfl rfl <| wa2 <| we_cal (cal_made m) hr (by decide) <| wa1 <| we_var 9 rfl rfl ⟨_, wR [("x" : Str)] [("yy" : Str), "x"] [("x" : Str)] R.s, rfl, kO, by decide, fun O cO => we_cal (cal_equal m) hr (by decide) <| wa2 <| we_var 4 rfl rfl <| we_var 9 rfl rfl ⟨_, R, _, wR [("x" : Str)] [("yy" : Str), "x"] [("x" : Str)] R.s, rfl, ko, by decide, kO, by decide, by show R.s - R.s ≤ 1000; omega, by show R.s - R.s ≤ 1000; omega, fun k hk => ?_⟩⟩
    exact ⟨_, _, R3, O, k, rfl, kR', cn_ko kO (by decide) cO, hk.trans (due_iff c1 cO), tru_is rfl ⟨fun h => (by cases h), fun _ => wss_nil ⟨_, _, _, _, _, _, _, _, _, _, d4, rfl, rfl, hB4⟩⟩⟩
end
end K03

namespace K03
open PySem PySem.Spec L2 DL
theorem law_facts {P : Program} {w : World} {K : PySem.W.Frag} {h : Heap} {mg : Str → Option Value} {f : Addr} (X : K.In h) (G : h.Ns mainGlobals mg) (hfa : mg ("law" : Str) = some (.ref f)) (e : extra K = true) (c : He.SaysD fa fn K) :
    ∃ fd : FuncData, (∀ (s : Shared) (v : Value), BindsTo s fd ⟨[v], []⟩ [("script", v)]) ∧ ∀ base : Heap, K.In base → base.Ns mainGlobals mg → FnOk P w K mg base CX0 9 f fd ["script"] (toSp K spLaw) := by
  obtain ⟨fd, F⟩ := fd_law c
  have e1 : f = He.fAd K d_law.at_ := by
    have := hfa.symm.trans (He.glo_ok X G (glo_law c))
    cases this
    rfl
  subst e1
  have F' : FunD K d_law.name d_law.qual d_law.params d_law.body d_law.scope [] (d_law.kws K) (He.fAd K d_law.at_) fd := F
  have b := FunD.bindsA (ps := ["script"]) F' fun _ _ _ _ _ _ us hl => match us, hl with | [_], _ => rfl
  exact ⟨fd, fun s v => b s [v] rfl, fun base hi hn => ok_law ⟨c, e, hi, hn⟩ F⟩
theorem law_end {K : PySem.W.Frag} {H : Hp} {a : Addr} {ns : List Int} (hS : SqL K H a (ns.map V.int)) : toSp K spLaw [.ref a] H (fun v _ => v = .bl true) fun _ _ _ => False := by
  refine ⟨[.klst (ns.map D.int)], fun _ => none, fun _ => True, fun d _ => d = .bl true, fun _ _ _ _ => trivial, ⟨H, Le.refl H, fun _ _ h => (by cases h), RpL.cons (by simp only [Rp]; exact ⟨a, _, rfl, hS, rpl_ints⟩) RpL.nil, trivial⟩, ⟨ns, rfl, fun _ => rfl⟩, fun v H' ⟨d, M', o, q⟩ => ?_⟩
  subst q
  exact o.use fun _ _ z => z.1.bl_inv
end K03
open PySem PySem.W PySem.Calls PyProof.Rows
theorem PySem.Challenge.cw_ringsallow_k03_rows_moved_are_a_group_holds : PySem.Challenge.rw_ringsallow_k03_rows_moved_are_a_group.Holds := by
  w_on; o_law
  refine HandSHeadRun.head_any (r := OpenLaw.row PySem.Challenge.rw_ringsallow_k03_rows_moved_are_a_group) (q := K03.vw) (H := K03.hk) (ob := K03.ob) (M := 4000) (loose := K03.loose) (d := K03.lawDef) (kwd := []) K03.ob_eq (by kernel_rfl) (fun s => by first | rfl | kernel_rfl) K03.run
    (by kernel_rfl) (by kernel_rfl) (by kernel_rfl) (by rfl) (by first | assumption | decide +kernel) (by decide +kernel) ⟨rfl, rfl, rfl, rfl, rfl, by decide +kernel⟩ ?hw ?hc
  case hw => w_witness2
  case hc =>
    refine L2.walk_ofE (l := PySem.Challenge.rw_ringsallow_k03_rows_moved_are_a_group) (n := 63) (k := 9) (x := "script") (CX := L2.CX0) rfl (by decide) (by kernel_rfl) ⟨rfl, by decide, by decide⟩ ?F (fun _ _ _ _ z => z)
    intro w mg fa h Y G hmg0
    obtain ⟨K, KX, e, c⟩ := Y
    have hmg : mg ("law" : PySem.Str) = some (.ref fa) := by
      have e : K03.lawDef.name = ("law" : PySem.Str) := by kernel_rfl
      rw [← e]
      exact hmg0
    obtain ⟨fd, hb, hF⟩ := K03.law_facts (P := (PySem.Challenge.rw_ringsallow_k03_rows_moved_are_a_group).prog) (w := w) KX G hmg e c
    exact ⟨K, fd, DL.toSp K K03.spLaw, KX, hb, fun H a ns hl _ hS => K03.law_end hS, hF⟩

