import PyProof.Rows.All
import Wide.All
import OpenK.AllK
import Wide.FinOn
import HandS.ForMost
import HandS.ForExc
import HandS.Walk
import HandS.Zip
import HandS.TupAny
import HandS.Wide
import HandS.IsInst
import HandS.Style
import HandS.RaiseMore
import HandS.CallSlots
import PyProof.ReprBulk
import PyProof.Rows.FactsN_abs
import HandS.ExcInit
import HandS.ExcField
import HandS.ExcIs
import HandS.Small
import PySem.Challenge.RW_mergepapers_k09_cut_rows
set_option Elab.async false
set_option linter.all false
set_option maxRecDepth 100000
set_option maxHeartbeats 0
/-! Z1: tree values, what they stand for in the abstract heap, paths. -/
namespace Z
open PySem L2

/-- who may change a list or an object: its one owner; nobody any more; nobody (it came from outside) -/
inductive Fl where
  | own | frz | scr
  deriving DecidableEq

/-- a tree value -/
inductive D where
  | non | bl (b : Bool) | int (i : Int) | str (s : Str)
  | tup (ds : List D)
  | lst (f : Fl) (ds : List D)
  | ins (f : Fl) (c : Nat) (ks : List Str) (ds : List D)

abbrev Ad := Addr → Prop
abbrev noAd : Ad := fun _ => False

/-- the exception that a suite holds: its name's slot, its object, its class, its dict, its fields -/
structure Exn where
  i : Option Nat
  a : Addr
  c : Nat
  d : Option Addr
  ks : List Str
  fs : List D
/-- the classes of the text: the address of each; the exception in hand -/
structure Cls where
  f : Nat → Addr
  ex : Option Exn
instance : CoeFun Cls (fun _ => Nat → Addr) := ⟨Cls.f⟩

section
variable (K : PySem.W.Frag) (CA : Cls)
mutual
/-- d stands at v: its frozen parts in F, its owned parts in H at addresses of T -/
def Rep (F H : Hp) : D → V → Ad → Prop
  | .non, v, _ => v = .non
  | .bl b, v, _ => v = .bl b
  | .int i, v, _ => v = .int i
  | .str s, v, _ => v = .str s
  | .tup ds, v, _ => ∃ a vs, v = .ref a ∧ SqT K F a vs ∧ RepL F F ds vs noAd
  | .lst .own ds, v, T => ∃ a vs T', v = .ref a ∧ H a = some (.lst vs) ∧ T a ∧ ¬ T' a ∧ (∀ b, T' b → T b) ∧ RepL F H ds vs T'
  | .lst .frz ds, v, _ => ∃ a vs, v = .ref a ∧ F a = some (.lst vs) ∧ RepL F F ds vs noAd
  | .lst .scr ds, v, _ => ∃ a vs, v = .ref a ∧ SqL K F a vs ∧ RepL F F ds vs noAd
  | .ins .own c ks ds, v, T => ∃ a dx vs T', v = .ref a ∧ H a = some (.ins (CA c) dx (ks.zip vs)) ∧ H dx = some (.own a) ∧ T a ∧ T dx ∧ ¬ T' a ∧ ¬ T' dx ∧ (∀ b, T' b → T b) ∧ RepL F H ds vs T' ∧ ks.length = ds.length
  | .ins _ c ks ds, v, _ => ∃ a dx vs, v = .ref a ∧ F a = some (.ins (CA c) dx (ks.zip vs)) ∧ RepL F F ds vs noAd ∧ ks.length = ds.length
def RepL (F H : Hp) : List D → List V → Ad → Prop
  | [], vs, _ => vs = []
  | d :: ds, vs, T => ∃ v r T1 T2, vs = v :: r ∧ (∀ a, T1 a → T a) ∧ (∀ a, T2 a → T a) ∧ (∀ a, T1 a → T2 a → False) ∧ Rep F H d v T1 ∧ RepL F H ds r T2
end
end

/-- no part is owned -/
def pureD : D → Bool
  | .lst .own _ => false
  | .ins .own _ _ _ => false
  | _ => true

mutual
/-- nobody may change it any more -/
def frzD : D → D
  | .lst .own ds => .lst .frz (frzDs ds)
  | .ins .own c ks ds => .ins .frz c ks (frzDs ds)
  | d => d
def frzDs : List D → List D
  | [] => []
  | d :: ds => frzD d :: frzDs ds
end

/-- F is part of H -/
abbrev Le (F H : Hp) : Prop := ∀ a o, F a = some o → H a = some o
theorem Le.rd {F H : Hp} (e : Le F H) {a : Addr} {u : HO} (h : Rd F a u) : Rd H a u := by
  rcases h with h | ⟨o, h⟩
  · exact .inl (e _ _ h)
  · exact .inr ⟨o, e _ _ h⟩
theorem Le.sqL {K : PySem.W.Frag} {F H : Hp} (e : Le F H) {a : Addr} {xs : List V} (h : SqL K F a xs) : SqL K H a xs := by
  rcases h with h | h
  · exact .inl (e.rd h)
  · exact .inr h
theorem Le.sqT {K : PySem.W.Frag} {F H : Hp} (e : Le F H) {a : Addr} {xs : List V} (h : SqT K F a xs) : SqT K H a xs := by
  rcases h with h | h
  · exact .inl (e.rd h)
  · exact .inr h
theorem Le.refl (F : Hp) : Le F F := fun _ _ h => h
theorem Le.trans {F G H : Hp} (a : Le F G) (b : Le G H) : Le F H := fun x o h => b x o (a x o h)

section
variable {K : PySem.W.Frag} {CA : Cls}
mutual
theorem Rep.up : ∀ {d : D} {F F' H H' : Hp} {v : V} {T T' : Ad}, Rep K CA F H d v T → Le F F' → (∀ a, T a → H' a = H a) → (∀ a, T a → T' a) → Rep K CA F' H' d v T'
  | .non, _, _, _, _, _, _, _, h, _, _, _ => h
  | .bl _, _, _, _, _, _, _, _, h, _, _, _ => h
  | .int _, _, _, _, _, _, _, _, h, _, _, _ => h
  | .str _, _, _, _, _, _, _, _, h, _, _, _ => h
  | .tup ds, F, F', H, H', v, T, T', h, e, _, _ => by
    obtain ⟨a, vs, h1, h2, h3⟩ := h
    exact ⟨a, vs, h1, e.sqT h2, RepL.up h3 e (fun _ z => z.elim) (fun _ z => z)⟩
  | .lst .own ds, F, F', H, H', v, T, T', h, e, k, m => by
    obtain ⟨a, vs, T1, h1, h2, h3, h4, h5, h6⟩ := h
    exact ⟨a, vs, T1, h1, (k a h3).trans h2, m a h3, h4, fun b z => m b (h5 b z), RepL.up h6 e (fun b z => k b (h5 b z)) (fun _ z => z)⟩
  | .lst .frz ds, F, F', H, H', v, T, T', h, e, _, _ => by
    obtain ⟨a, vs, h1, h2, h3⟩ := h
    exact ⟨a, vs, h1, e _ _ h2, RepL.up h3 e (fun _ z => z.elim) (fun _ z => z)⟩
  | .lst .scr ds, F, F', H, H', v, T, T', h, e, _, _ => by
    obtain ⟨a, vs, h1, h2, h3⟩ := h
    exact ⟨a, vs, h1, e.sqL h2, RepL.up h3 e (fun _ z => z.elim) (fun _ z => z)⟩
  | .ins .own c ks ds, F, F', H, H', v, T, T', h, e, k, m => by
    obtain ⟨a, dx, vs, T1, h1, h2, h3, h4, h5, h6, h7, h8, h9, h10⟩ := h
    exact ⟨a, dx, vs, T1, h1, (k a h4).trans h2, (k dx h5).trans h3, m a h4, m dx h5, h6, h7, fun b z => m b (h8 b z), RepL.up h9 e (fun b z => k b (h8 b z)) (fun _ z => z), h10⟩
  | .ins .frz c ks ds, F, F', H, H', v, T, T', h, e, k, m => by
    obtain ⟨a, dx, vs, h1, h2, h3, h4⟩ := h
    exact ⟨a, dx, vs, h1, e _ _ h2, RepL.up h3 e (fun _ z => z.elim) (fun _ z => z), h4⟩
  | .ins .scr c ks ds, F, F', H, H', v, T, T', h, e, k, m => by
    obtain ⟨a, dx, vs, h1, h2, h3, h4⟩ := h
    exact ⟨a, dx, vs, h1, e _ _ h2, RepL.up h3 e (fun _ z => z.elim) (fun _ z => z), h4⟩
theorem RepL.up : ∀ {ds : List D} {F F' H H' : Hp} {vs : List V} {T T' : Ad}, RepL K CA F H ds vs T → Le F F' → (∀ a, T a → H' a = H a) → (∀ a, T a → T' a) → RepL K CA F' H' ds vs T'
  | [], _, _, _, _, _, _, _, h, _, _, _ => h
  | d :: ds, F, F', H, H', vs, T, T', h, e, k, m => by
    obtain ⟨v, r, T1, T2, h1, h2, h3, h4, h5, h6⟩ := h
    exact ⟨v, r, T1, T2, h1, fun a z => m a (h2 a z), fun a z => m a (h3 a z), h4, Rep.up h5 e (fun b z => k b (h2 b z)) (fun _ z => z), RepL.up h6 e (fun b z => k b (h3 b z)) (fun _ z => z)⟩
end

mutual
/-- whatever exception is in hand -/
theorem Rep.ca {CB : Cls} (e : CA.f = CB.f) : ∀ {d : D} {F H : Hp} {v : V} {T : Ad}, Rep K CA F H d v T → Rep K CB F H d v T
  | .non, _, _, _, _, h => h
  | .bl _, _, _, _, _, h => h
  | .int _, _, _, _, _, h => h
  | .str _, _, _, _, _, h => h
  | .tup ds, F, H, v, T, h => by
    obtain ⟨a, vs, h1, h2, h3⟩ := h
    exact ⟨a, vs, h1, h2, RepL.ca e h3⟩
  | .lst .own ds, F, H, v, T, h => by
    obtain ⟨a, vs, T1, h1, h2, h3, h4, h5, h6⟩ := h
    exact ⟨a, vs, T1, h1, h2, h3, h4, h5, RepL.ca e h6⟩
  | .lst .frz ds, F, H, v, T, h => by
    obtain ⟨a, vs, h1, h2, h3⟩ := h
    exact ⟨a, vs, h1, h2, RepL.ca e h3⟩
  | .lst .scr ds, F, H, v, T, h => by
    obtain ⟨a, vs, h1, h2, h3⟩ := h
    exact ⟨a, vs, h1, h2, RepL.ca e h3⟩
  | .ins .own c ks ds, F, H, v, T, h => by
    obtain ⟨a, dx, vs, T1, h1, h2, h3, h4, h5, h6, h7, h8, h9, h10⟩ := h
    exact ⟨a, dx, vs, T1, h1, (show H a = some (.ins (CB.f c) dx (ks.zip vs)) from e ▸ h2), h3, h4, h5, h6, h7, h8, RepL.ca e h9, h10⟩
  | .ins .frz c ks ds, F, H, v, T, h => by
    obtain ⟨a, dx, vs, h1, h2, h3, h4⟩ := h
    exact ⟨a, dx, vs, h1, (show F a = some (.ins (CB.f c) dx (ks.zip vs)) from e ▸ h2), RepL.ca e h3, h4⟩
  | .ins .scr c ks ds, F, H, v, T, h => by
    obtain ⟨a, dx, vs, h1, h2, h3, h4⟩ := h
    exact ⟨a, dx, vs, h1, (show F a = some (.ins (CB.f c) dx (ks.zip vs)) from e ▸ h2), RepL.ca e h3, h4⟩
theorem RepL.ca {CB : Cls} (e : CA.f = CB.f) : ∀ {ds : List D} {F H : Hp} {vs : List V} {T : Ad}, RepL K CA F H ds vs T → RepL K CB F H ds vs T
  | [], _, _, _, _, h => h
  | d :: ds, F, H, vs, T, h => by
    obtain ⟨v, r, T1, T2, h1, h2, h3, h4, h5, h6⟩ := h
    exact ⟨v, r, T1, T2, h1, h2, h3, h4, Rep.ca e h5, RepL.ca e h6⟩
end
theorem Rep.pure {d : D} {F H : Hp} {v : V} {T : Ad} (h : Rep K CA F H d v T) (p : pureD d = true) : Rep K CA F F d v noAd := by
  match d, p, h with
  | .non, _, h => exact h
  | .bl _, _, h => exact h
  | .int _, _, h => exact h
  | .str _, _, h => exact h
  | .tup ds, _, h => exact h
  | .lst .frz ds, _, h => exact h
  | .lst .scr ds, _, h => exact h
  | .ins .frz c ks ds, _, h => exact h
  | .ins .scr c ks ds, _, h => exact h
/-- a pure value stands whatever H is -/
theorem Rep.pureH {d : D} {F H H' : Hp} {v : V} {T : Ad} (h : Rep K CA F H d v noAd) : Rep K CA F H' d v T :=
  h.up (Le.refl F) (fun _ z => z.elim) (fun _ z => z.elim)
theorem RepL.pureH {d : List D} {F H H' : Hp} {v : List V} {T : Ad} (h : RepL K CA F H d v noAd) : RepL K CA F H' d v T :=
  h.up (Le.refl F) (fun _ z => z.elim) (fun _ z => z.elim)

mutual
theorem Rep.freeze : ∀ {d : D} {F F' H : Hp} {v : V} {T : Ad}, Rep K CA F H d v T → Le F F' → (∀ a, T a → F' a = H a) → Rep K CA F' F' (frzD d) v noAd
  | .non, _, _, _, _, _, h, _, _ => h
  | .bl _, _, _, _, _, _, h, _, _ => h
  | .int _, _, _, _, _, _, h, _, _ => h
  | .str _, _, _, _, _, _, h, _, _ => h
  | .tup ds, F, F', H, v, T, h, e, _ => by
    obtain ⟨a, vs, h1, h2, h3⟩ := h
    exact ⟨a, vs, h1, e.sqT h2, RepL.up h3 e (fun _ z => z.elim) (fun _ z => z)⟩
  | .lst .own ds, F, F', H, v, T, h, e, k => by
    obtain ⟨a, vs, T1, h1, h2, h3, h4, h5, h6⟩ := h
    exact ⟨a, vs, h1, (k a h3).trans h2, RepL.freeze h6 e (fun b z => k b (h5 b z))⟩
  | .lst .frz ds, F, F', H, v, T, h, e, _ => by
    obtain ⟨a, vs, h1, h2, h3⟩ := h
    exact ⟨a, vs, h1, e _ _ h2, RepL.up h3 e (fun _ z => z.elim) (fun _ z => z)⟩
  | .lst .scr ds, F, F', H, v, T, h, e, _ => by
    obtain ⟨a, vs, h1, h2, h3⟩ := h
    exact ⟨a, vs, h1, e.sqL h2, RepL.up h3 e (fun _ z => z.elim) (fun _ z => z)⟩
  | .ins .own c ks ds, F, F', H, v, T, h, e, k => by
    obtain ⟨a, dx, vs, T1, h1, h2, h3, h4, h5, h6, h7, h8, h9, h10⟩ := h
    exact ⟨a, dx, vs, h1, (k a h4).trans h2, RepL.freeze h9 e (fun b z => k b (h8 b z)), by rw [frzDs_length]; exact h10⟩
  | .ins .frz c ks ds, F, F', H, v, T, h, e, k => by
    obtain ⟨a, dx, vs, h1, h2, h3, h4⟩ := h
    exact ⟨a, dx, vs, h1, e _ _ h2, RepL.up h3 e (fun _ z => z.elim) (fun _ z => z), h4⟩
  | .ins .scr c ks ds, F, F', H, v, T, h, e, k => by
    obtain ⟨a, dx, vs, h1, h2, h3, h4⟩ := h
    exact ⟨a, dx, vs, h1, e _ _ h2, RepL.up h3 e (fun _ z => z.elim) (fun _ z => z), h4⟩
theorem RepL.freeze : ∀ {ds : List D} {F F' H : Hp} {vs : List V} {T : Ad}, RepL K CA F H ds vs T → Le F F' → (∀ a, T a → F' a = H a) → RepL K CA F' F' (frzDs ds) vs noAd
  | [], _, _, _, _, _, h, _, _ => h
  | d :: ds, F, F', H, vs, T, h, e, k => by
    obtain ⟨v, r, T1, T2, h1, h2, h3, h4, h5, h6⟩ := h
    exact ⟨v, r, noAd, noAd, h1, fun a z => z, fun a z => z, fun a z _ => z, Rep.freeze h5 e (fun b z => k b (h2 b z)), RepL.freeze h6 e (fun b z => k b (h3 b z))⟩
theorem frzDs_length : ∀ (ds : List D), (frzDs ds).length = ds.length
  | [] => rfl
  | d :: ds => by
    show (frzDs ds).length + 1 = ds.length + 1
    rw [frzDs_length ds]
end

theorem RepL.length : ∀ {ds : List D} {F H : Hp} {vs : List V} {T : Ad}, RepL K CA F H ds vs T → vs.length = ds.length
  | [], _, _, _, _, h => by rw [show _ = _ from h]; rfl
  | d :: ds, F, H, vs, T, h => by
    obtain ⟨v, r, T1, T2, h1, h2, h3, h4, h5, h6⟩ := h
    rw [h1, List.length_cons, List.length_cons, RepL.length h6]
end
end Z

/-! Z2: paths into tree values. -/
namespace Z
open PySem L2

inductive Acc where
  | ix (j : Nat) | fd (f : Str)
  deriving DecidableEq

/-- the place of a field -/
def fdIx : List Str → Str → Option Nat
  | [], _ => none
  | k :: ks, f => if f == k then some 0 else (fdIx ks f).map (· + 1)

def subD : D → Acc → Option D
  | .tup ds, .ix j => ds[j]?
  | .lst _ ds, .ix j => ds[j]?
  | .ins _ _ ks ds, .fd f => (fdIx ks f).bind fun j => ds[j]?
  | _, _ => none
def putD : D → Acc → D → Option D
  | .lst .own ds, .ix j, d => some (.lst .own (ds.set j d))
  | .ins .own c ks ds, .fd f, d => (fdIx ks f).map fun j => .ins .own c ks (ds.set j d)
  | _, _, _ => none
def getP : D → List Acc → Option D
  | x, [] => some x
  | x, a :: as => (subD x a).bind fun y => getP y as
def setP : D → List Acc → D → Option D
  | _, [], d => some d
  | x, a :: as, d => (subD x a).bind fun y => (setP y as d).bind fun y' => putD x a y'

theorem getP_append : ∀ {x : D} {as bs : List Acc}, getP x (as ++ bs) = (getP x as).bind fun y => getP y bs
  | x, [], bs => rfl
  | x, a :: as, bs => by
    show ((subD x a).bind fun y => getP y (as ++ bs)) = ((subD x a).bind fun y => getP y as).bind _
    cases h : subD x a with
    | none => rfl
    | some y => exact getP_append
theorem setP_append : ∀ {x : D} {as bs : List Acc} {d : D}, setP x (as ++ bs) d = (getP x as).bind fun y => (setP y bs d).bind fun y' => setP x as y'
  | x, [], bs, d => by
    show setP x bs d = (setP x bs d).bind fun y' => some y'
    cases setP x bs d <;> rfl
  | x, a :: as, bs, d => by
    show ((subD x a).bind fun y => (setP y (as ++ bs) d).bind fun y' => putD x a y') = ((subD x a).bind fun y => getP y as).bind fun y => (setP y bs d).bind fun y' => (subD x a).bind fun z => (setP z as y').bind fun z' => putD x a z'
    cases h : subD x a with
    | none => rfl
    | some y =>
      show (setP y (as ++ bs) d).bind _ = (getP y as).bind fun y1 => (setP y1 bs d).bind fun y' => (setP y as y').bind fun z' => putD x a z'
      rw [setP_append]
      cases getP y as with
      | none => rfl
      | some z =>
        show ((setP z bs d).bind _).bind _ = (setP z bs d).bind _
        cases setP z bs d <;> rfl

theorem fdIx_lookup : ∀ {ks : List Str} {vs : List V} {f : Str} {j : Nat} {u : V}, fdIx ks f = some j → vs[j]? = some u → (ks.zip vs).lookup f = some u
  | [], _, _, _, _, h, _ => by cases h
  | k :: ks, [], f, j, u, h, h2 => by simp at h2
  | k :: ks, v :: vs, f, j, u, h, h2 => by
    unfold fdIx at h
    rw [List.zip_cons_cons, List.lookup_cons]
    cases e : f == k with
    | true =>
      rw [e, if_pos rfl] at h
      cases h
      simpa using h2
    | false =>
      rw [e, if_neg (by decide)] at h
      obtain ⟨i, hi, rfl⟩ := Option.map_eq_some_iff.mp h
      exact fdIx_lookup (ks := ks) (vs := vs) hi (by simpa using h2)

section
variable {K : PySem.W.Frag} {CA : Cls}
theorem RepL.at : ∀ {ds : List D} {F H : Hp} {vs : List V} {T : Ad} {j : Nat} {d : D}, RepL K CA F H ds vs T → ds[j]? = some d →
    ∃ u T1, vs[j]? = some u ∧ (∀ a, T1 a → T a) ∧ Rep K CA F H d u T1 ∧
      ∀ (F' H' : Hp) (d' : D) (T2 : Ad), Le F F' → (∀ a, T a → ¬ T1 a → H' a = H a) → (∀ a, T2 a → T1 a ∨ ¬ T a) → Rep K CA F' H' d' u T2 → RepL K CA F' H' (ds.set j d') vs (fun a => (T a ∧ ¬ T1 a) ∨ T2 a)
  | [], _, _, _, _, _, _, _, h => by simp at h
  | d0 :: ds, F, H, vs, T, 0, d, h, hj => by
    obtain ⟨v, r, T1, T2, rfl, h2, h3, h4, h5, h6⟩ := h
    have e : d0 = d := by simpa using hj
    subst e
    refine ⟨v, T1, rfl, h2, h5, fun F' H' d' T3 e k m r' => ?_⟩
    refine ⟨v, r, T3, T2, rfl, fun a z => .inr z, fun a z => .inl ⟨h3 a z, fun q => h4 a q z⟩, fun a z1 z2 => ?_, r', h6.up e (fun a z => k a (h3 a z) fun q => h4 a q z) fun _ z => z⟩
    rcases m a z1 with q | q
    · exact h4 a q z2
    · exact q (h3 a z2)
  | d0 :: ds, F, H, vs, T, j + 1, d, h, hj => by
    obtain ⟨v, r, T1, T2, rfl, h2, h3, h4, h5, h6⟩ := h
    obtain ⟨u, T3, g1, g2, g3, g4⟩ := RepL.at (ds := ds) (j := j) h6 (by simpa using hj)
    refine ⟨u, T3, by simpa using g1, fun a z => h3 a (g2 a z), g3, fun F' H' d' T4 e k m r' => ?_⟩
    have g5 := g4 F' H' d' T4 e (fun a z q => k a (h3 a z) q) (fun a z => (m a z).elim .inl fun q => .inr fun w => q (h3 a w)) r'
    refine ⟨v, r, T1, _, rfl, fun a z => .inl ⟨h2 a z, fun q => h4 a z (g2 a q)⟩, fun a z => ?_, fun a z1 z2 => ?_, h5.up e (fun a z => k a (h2 a z) fun q => h4 a z (g2 a q)) (fun _ z => z), g5⟩
    · rcases z with ⟨z1, z2⟩ | z
      · exact .inl ⟨h3 a z1, z2⟩
      · exact .inr z
    · rcases z2 with ⟨z2, _⟩ | z2
      · exact h4 a z1 z2
      · rcases m a z2 with q | q
        · exact h4 a z1 (g2 a q)
        · exact q (h2 a z1)

/-- (d, u, T') is the place behind the path as of (x, v, T) -/
structure Plc (K : PySem.W.Frag) (CA : Cls) (F H : Hp) (x : D) (v : V) (T : Ad) (as : List Acc) (d : D) (u : V) (T' : Ad) : Prop where
  get : getP x as = some d
  sub : ∀ a, T' a → T a
  rep : Rep K CA F H d u T'
  put : ∀ (F' H' : Hp) (d' : D) (T2 : Ad) (x' : D), Le F F' → (∀ a, T a → ¬ T' a → H' a = H a) → (∀ a, T2 a → T' a ∨ ¬ T a) → Rep K CA F' H' d' u T2 → setP x as d' = some x' → Rep K CA F' H' x' v (fun a => (T a ∧ ¬ T' a) ∨ T2 a)

theorem Plc.nil {F H : Hp} {x : D} {v : V} {T : Ad} (h : Rep K CA F H x v T) : Plc K CA F H x v T [] x v T where
  get := rfl
  sub := fun _ z => z
  rep := h
  put := fun F' H' d' T2 x' e k m r s => by
    cases s
    exact r.up (Le.refl _) (fun _ _ => rfl) fun a z => .inr z
theorem Plc.app {F H : Hp} {x d e : D} {v u w : V} {T T1 T2 : Ad} {as bs : List Acc} (p : Plc K CA F H x v T as d u T1) (q : Plc K CA F H d u T1 bs e w T2) : Plc K CA F H x v T (as ++ bs) e w T2 where
  get := by rw [getP_append, p.get]; exact q.get
  sub := fun a z => p.sub a (q.sub a z)
  rep := q.rep
  put := fun F' H' e' T3 x' le k m r s => by
    rw [setP_append, p.get] at s
    obtain ⟨d', s1, s2⟩ := Option.bind_eq_some_iff.mp (show ((setP d bs e').bind fun y' => setP x as y') = some x' from s)
    have g := q.put F' H' e' T3 d' le (fun a z1 z2 => k a (p.sub a z1) z2) (fun a z => (m a z).elim .inl fun n => .inr fun w => n (p.sub a w)) r s1
    refine (p.put F' H' d' _ x' le (fun a z1 z2 => k a z1 fun n => z2 (q.sub a n)) (fun a z => ?_) g s2).up (Le.refl _) (fun _ _ => rfl) fun a z => ?_
    · rcases z with ⟨z, _⟩ | z
      · exact .inl z
      · exact (m a z).elim (fun n => .inl (q.sub a n)) .inr
    · rcases z with ⟨z1, z2⟩ | ⟨z1, z2⟩ | z
      · exact .inl ⟨z1, fun n => z2 (q.sub a n)⟩
      · exact .inl ⟨p.sub a z1, z2⟩
      · exact .inr z

/-- one step by place, into a list or a tuple: where the item stands -/
theorem Plc.lst {F H : Hp} {f : Fl} {ds : List D} {v : V} {T : Ad} {j : Nat} {d : D} (le : Le F H) (h : Rep K CA F H (.lst f ds) v T) (hj : ds[j]? = some d) :
    ∃ a vs u T', v = .ref a ∧ SqL K H a vs ∧ vs.length = ds.length ∧ vs[j]? = some u ∧ Plc K CA F H (.lst f ds) v T [.ix j] d u T' := by
  cases f with
  | own =>
    obtain ⟨a, vs, T1, h1, h2, h3, h4, h5, h6⟩ := h
    obtain ⟨u, T2, g1, g2, g3, g4⟩ := h6.at hj
    refine ⟨a, vs, u, T2, h1, SqL.of h2, h6.length, g1, ?_, fun b z => h5 b (g2 b z), g3, fun F' H' d' T3 x' e k m r s => ?_⟩
    · show (ds[j]?).bind _ = _
      rw [hj]; rfl
    · have s' : ((ds[j]?).bind fun y => (some d').bind fun y' => putD (.lst .own ds) (.ix j) y') = some x' := s
      rw [hj] at s'
      cases s'
      have g := g4 F' H' d' T3 e (fun b z q => k b (h5 b z) q) (fun b z => (m b z).elim .inl fun q => .inr fun w => q (h5 b w)) r
      refine ⟨a, vs, _, h1, (k a h3 fun z => h4 (g2 a z)).trans h2, .inl ⟨h3, fun z => h4 (g2 a z)⟩, fun z => ?_, fun b z => ?_, g⟩
      · rcases z with ⟨z, _⟩ | z
        · exact h4 z
        · rcases m a z with q | q
          · exact h4 (g2 a q)
          · exact q h3
      · rcases z with ⟨z1, z2⟩ | z
        · exact .inl ⟨h5 b z1, z2⟩
        · exact .inr z
  | frz =>
    obtain ⟨a, vs, h1, h2, h3⟩ := h
    obtain ⟨u, T2, g1, g2, g3, g4⟩ := h3.at hj
    refine ⟨a, vs, u, noAd, h1, SqL.of (le _ _ h2), h3.length, g1, ?_, fun b z => z.elim, (g3.up (Le.refl F) (fun _ _ => rfl) g2).pureH, fun F' H' d' T3 x' e k m r s => ?_⟩
    · show (ds[j]?).bind _ = _
      rw [hj]; rfl
    · have s' : ((ds[j]?).bind fun y => (some d').bind fun y' => putD (.lst .frz ds) (.ix j) y') = some x' := s
      rw [hj] at s'
      cases s'
  | scr =>
    obtain ⟨a, vs, h1, h2, h3⟩ := h
    obtain ⟨u, T2, g1, g2, g3, g4⟩ := h3.at hj
    refine ⟨a, vs, u, noAd, h1, le.sqL h2, h3.length, g1, ?_, fun b z => z.elim, (g3.up (Le.refl F) (fun _ _ => rfl) g2).pureH, fun F' H' d' T3 x' e k m r s => ?_⟩
    · show (ds[j]?).bind _ = _
      rw [hj]; rfl
    · have s' : ((ds[j]?).bind fun y => (some d').bind fun y' => putD (.lst .scr ds) (.ix j) y') = some x' := s
      rw [hj] at s'
      cases s'
theorem Plc.tup {F H : Hp} {ds : List D} {v : V} {T : Ad} {j : Nat} {d : D} (le : Le F H) (h : Rep K CA F H (.tup ds) v T) (hj : ds[j]? = some d) :
    ∃ a vs u, v = .ref a ∧ SqT K H a vs ∧ vs.length = ds.length ∧ vs[j]? = some u ∧ Plc K CA F H (.tup ds) v T [.ix j] d u noAd := by
  obtain ⟨a, vs, h1, h2, h3⟩ := h
  obtain ⟨u, T2, g1, g2, g3, g4⟩ := h3.at hj
  refine ⟨a, vs, u, h1, le.sqT h2, h3.length, g1, ?_, fun b z => z.elim, (g3.up (Le.refl F) (fun _ _ => rfl) g2).pureH, fun F' H' d' T3 x' e k m r s => ?_⟩
  · show (ds[j]?).bind _ = _
    rw [hj]; rfl
  · have s' : ((ds[j]?).bind fun y => (some d').bind fun y' => putD (.tup ds) (.ix j) y') = some x' := s
    rw [hj] at s'
    cases s'
theorem Plc.ins {F H : Hp} {f : Fl} {c : Nat} {ks : List Str} {ds : List D} {v : V} {T : Ad} {n : Str} {j : Nat} {d : D} (le : Le F H) (h : Rep K CA F H (.ins f c ks ds) v T) (hn : fdIx ks n = some j) (hj : ds[j]? = some d) :
    ∃ a dx vs u T', v = .ref a ∧ H a = some (.ins (CA c) dx (ks.zip vs)) ∧ vs.length = ds.length ∧ (ks.zip vs).lookup n = some u ∧ Plc K CA F H (.ins f c ks ds) v T [.fd n] d u T' := by
  have gt : getP (.ins f c ks ds) [.fd n] = some d := by
    show ((fdIx ks n).bind fun j => ds[j]?).bind _ = _
    rw [hn]
    show (ds[j]?).bind _ = _
    rw [hj]; rfl
  cases f with
  | own =>
    obtain ⟨a, dx, vs, T1, h1, h2, h3, h4, h5, h6, h7, h8, h9, h10⟩ := h
    obtain ⟨u, T2, g1, g2, g3, g4⟩ := h9.at hj
    refine ⟨a, dx, vs, u, T2, h1, h2, h9.length, fdIx_lookup hn g1, gt, fun b z => h8 b (g2 b z), g3, fun F' H' d' T3 x' e k m r s => ?_⟩
    have s' : (((fdIx ks n).bind fun j => ds[j]?).bind fun y => (some d').bind fun y' => putD (.ins .own c ks ds) (.fd n) y') = some x' := s
    rw [hn] at s'
    have s2 : ((ds[j]?).bind fun y => (some d').bind fun y' => putD (.ins .own c ks ds) (.fd n) y') = some x' := s'
    rw [hj] at s2
    have s3 : (fdIx ks n).map (fun j => D.ins .own c ks (ds.set j d')) = some x' := s2
    rw [hn] at s3
    cases s3
    have g := g4 F' H' d' T3 e (fun b z q => k b (h8 b z) q) (fun b z => (m b z).elim .inl fun q => .inr fun w => q (h8 b w)) r
    have ni : ∀ b, T b → ¬ T1 b → ¬ ((T1 b ∧ ¬ T2 b) ∨ T3 b) := fun b hb n1 z => by
      rcases z with ⟨z, _⟩ | z
      · exact n1 z
      · rcases m b z with q | q
        · exact n1 (g2 b q)
        · exact q hb
    refine ⟨a, dx, vs, _, h1, (k a h4 fun z => h6 (g2 a z)).trans h2, (k dx h5 fun z => h7 (g2 dx z)).trans h3, .inl ⟨h4, fun z => h6 (g2 a z)⟩, .inl ⟨h5, fun z => h7 (g2 dx z)⟩, ni a h4 h6, ni dx h5 h7, fun b z => ?_, g, by rw [List.length_set]; exact h10⟩
    rcases z with ⟨z1, z2⟩ | z
    · exact .inl ⟨h8 b z1, z2⟩
    · exact .inr z
  | frz =>
    obtain ⟨a, dx, vs, h1, h2, h3, h4⟩ := h
    obtain ⟨u, T2, g1, g2, g3, g4⟩ := h3.at hj
    refine ⟨a, dx, vs, u, noAd, h1, le _ _ h2, h3.length, fdIx_lookup hn g1, gt, fun b z => z.elim, (g3.up (Le.refl F) (fun _ _ => rfl) g2).pureH, fun F' H' d' T3 x' e k m r s => ?_⟩
    have s' : (subD (.ins .frz c ks ds) (.fd n)).bind (fun y => (some d').bind fun y' => putD (.ins .frz c ks ds) (.fd n) y') = some x' := s
    cases e : subD (.ins .frz c ks ds) (.fd n) with
    | none => rw [e] at s'; cases s'
    | some y => rw [e] at s'; cases s'
  | scr =>
    obtain ⟨a, dx, vs, h1, h2, h3, h4⟩ := h
    obtain ⟨u, T2, g1, g2, g3, g4⟩ := h3.at hj
    refine ⟨a, dx, vs, u, noAd, h1, le _ _ h2, h3.length, fdIx_lookup hn g1, gt, fun b z => z.elim, (g3.up (Le.refl F) (fun _ _ => rfl) g2).pureH, fun F' H' d' T3 x' e k m r s => ?_⟩
    have s' : (subD (.ins .scr c ks ds) (.fd n)).bind (fun y => (some d').bind fun y' => putD (.ins .scr c ks ds) (.fd n) y') = some x' := s
    cases e : subD (.ins .scr c ks ds) (.fd n) with
    | none => rw [e] at s'; cases s'
    | some y => rw [e] at s'; cases s'
end
end Z

/-! Z3: the small language and its evaluator. -/
namespace Z
open PySem L2

abbrev Env := List (Option D)
inductive R (α : Type) where
  | ok (a : α) (e : Env)
  | exc (c : Nat) (ks : List Str) (fs : List D) (e : Env)
  | stuck
def R.bind {α β : Type} (r : R α) (f : α → Env → R β) : R β :=
  match r with
  | .ok a e => f a e
  | .exc c ks fs e => .exc c ks fs e
  | .stuck => .stuck
/-- what a call gives: a value and what its arguments have become -/
inductive CR where
  | ok (d : D) (outs : List D)
  | exc (c : Nat) (ks : List Str) (fs : List D) (outs : List D)
  | stuck
inductive Itm where
  | tmp (d : D)
  | ref (i : Nat) (as : List Acc)

def slot (env : Env) (i : Nat) : Option D := (env[i]?).bind id
def look (env : Env) : Itm → Option D
  | .tmp d => some d
  | .ref i as => (slot env i).bind fun x => getP x as
def looks (env : Env) : List Itm → Option (List D)
  | [] => some []
  | i :: is => (look env i).bind fun d => (looks env is).bind fun ds => some (d :: ds)
/-- the value at a path becomes d -/
def setE (env : Env) (i : Nat) (as : List Acc) (d : D) : Option Env :=
  (slot env i).bind fun x => (setP x as d).bind fun x' => some (env.set i (some x'))

/-- non-mutating operations -/
inductive Pr where
  | add | sub | mul | fdiv | mod | pow | neg
  | eq | ne | lt | le | gt | ge
  | isN | notN
  | len | int | str | repr | abs | min2 | max2 | sum | sorted | list | tuple | all | any
  | isTy (T : String)
  | item | slice (lo hi : Bool) | rev
  | inn | notin
  deriving DecidableEq
/-- mutating methods of lists -/
inductive Mt where
  | append | pop | popAt | insert | extend | reverse | clear
  deriving DecidableEq
mutual
/-- targets -/
inductive Tg where
  | nm (i : Nat) | tup (ts : TgL)
inductive TgL where
  | nil | cons (t : Tg) (r : TgL)
end

mutual
inductive P where
  | v (i : Nat)
  | fd (p : P) (c : Nat) (f : Str)
  | ix (p : P) (e : E)
inductive E where
  | c (d : D)
  | g (x : Str) (d : D)
  | rd (p : P) | fz (p : P) | mv (i : Nat) | pk (p : P)
  | pr (op : Pr) (as : A)
  | lst (as : A) | tup (as : A)
  | cond (t : T) (a b : E)
  | andV (a b : E) | orV (a b : E) | notV (a : E)
  | chn (op op2 : Pr) (a b c : E)
  | mt (op : Mt) (p : P) (as : A)
  | call (f : Nat) (as : A)
  | meth (c f : Nat) (m : Str) (r : E) (as : A)
  | new (c f : Nat) (as : A)
  | lc (own : List Nat) (elt : E) (tg : Tg) (it : I) (t : T)
  | xf (i : Nat) (f : Str)
  | xis (i : Nat) (n : Str) (yes no : List Nat)
  | ded
  | frz (e : E)
inductive A where
  | nil | cons (e : E) (r : A)
inductive T where
  | val (e : E) | and (a b : T) | or (a b : T) | not (a : T) | yes
inductive I where
  | lst (e : E) | tup (e : E) | str (e : E)
  | rng1 (a : E) | rng2 (a b : E) | rngD (a b c : E)
  | enm (e : E) | zip (a b : E) | zipT (a b : E)
end

mutual
inductive S where
  | asg (tg : Tg) (e : E)
  | par (i j : Nat) (a b : E)
  | stoI (p : P) (k e : E) | stoF (p : P) (c : Nat) (f : Str) (e : E)
  | aug (i : Nat) (op : Pr) (e : E)
  | augI (p : P) (k : E) (op : Pr) (e : E) | augF (p : P) (c : Nat) (f : Str) (op : Pr) (e : E)
  | exp (e : E)
  | iff (t : T) (a b : B)
  | for (tg : Tg) (it : I) (b : B)
  | whl (t : T) (b : B)
  | ret (e : E) | retN
  | rse (n : Str) (c : Nat) (ks : List Str) (as : A)
  | try_ (b : B) (h : HL)
  | ded
  | brk | cnt | pas
inductive B where
  | nil | cons (s : S) (r : B)
/-- except clauses: the classes that each takes, those that it does not take, its name's slot -/
inductive HL where
  | nil | cons (n : Str) (yes no : List Nat) (i : Option Nat) (b : B) (r : HL)
end

/-- ints -/
def cut {α : Type} (xs : List α) (lo hi : Option Int) : List α := (xs.drop (HT.sIx xs.length 0 lo)).take (HT.sIx xs.length xs.length hi - HT.sIx xs.length 0 lo)
def szOk (n : Nat) : Bool := decide (n ≤ sizeLine)
def szLt (n : Nat) : Bool := decide (n < sizeLine)
mutual
/-- equal as data (flags play no part) -/
def eqD : D → D → Bool
  | .non, .non => true
  | .bl a, .bl b => a == b
  | .int a, .int b => decide (a = b)
  | .str a, .str b => decide (a = b)
  | .tup a, .tup b => eqDs a b
  | .lst _ a, .lst _ b => eqDs a b
  | .bl a, .int b => decide ((if a then 1 else 0) = b)
  | .int a, .bl b => decide (a = (if b then 1 else 0))
  | _, _ => false
def eqDs : List D → List D → Bool
  | [], [] => true
  | a :: as, b :: bs => eqD a b && eqDs as bs
  | _, _ => false
end
mutual
/-- data that == and repr speak of -/
def dataD : D → Bool
  | .tup a => dataDs a
  | .lst _ a => dataDs a
  | .ins _ _ _ _ => false
  | _ => true
def dataDs : List D → Bool
  | [] => true
  | a :: as => dataD a && dataDs as
end
def ints? : List D → Option (List Int)
  | [] => some []
  | .int i :: r => (ints? r).map (i :: ·)
  | _ => none
def bools? : List D → Option (List Bool)
  | [] => some []
  | .bl i :: r => (bools? r).map (i :: ·)
  | _ => none
end Z

/-! Z4: operations on tree values, and that Python's do the same. -/
namespace Z
open PySem L2

/-! ### the meaning -/
mutual
def toPy : D → PyData
  | .non => .none
  | .bl b => .bool b
  | .int i => .int i
  | .str s => .str s
  | .tup ds => .tuple (toPys ds)
  | .lst _ ds => .list (toPys ds)
  | .ins _ _ _ _ => .none
def toPys : List D → List PyData
  | [] => []
  | d :: ds => toPy d :: toPys ds
end
mutual
/-- data at most n deep -/
def depD : Nat → D → Bool
  | 0, .tup _ => false
  | 0, .lst _ _ => false
  | n + 1, .tup ds => depDs n ds
  | n + 1, .lst _ ds => depDs n ds
  | _, .ins _ _ _ _ => false
  | _, .str s => PyData.strOk s
  | _, _ => true
def depDs : Nat → List D → Bool
  | _, [] => true
  | n, d :: ds => depD n d && depDs n ds
end
def pures (ds : List D) : Bool := ds.all pureD
def eqv (a b : D) : Bool := PyData.eqv (toPy a) (toPy b)
def typeD : D → Option String
  | .non => some "NoneType"
  | .bl _ => some "bool"
  | .int _ => some "int"
  | .str _ => some "str"
  | .tup _ => some "tuple"
  | .lst _ _ => some "list"
  | .ins _ _ _ _ => none
def lstOf : D → Option (List D)
  | .lst _ ds => some ds
  | .tup ds => some ds
  | _ => none
def isNo : D → Bool
  | .non => true
  | _ => false
def sliceS (lo hi : Option Int) : D → Option D
  | .lst _ ds => if pures ds then some (.lst .own (cut ds lo hi)) else none
  | .tup ds => some (.tup (cut ds lo hi))
  | _ => none
def un (f : D → Option D) : List D → Option D
  | [a] => f a
  | _ => none
def bi (f : D → D → Option D) : List D → Option D
  | [a, b] => f a b
  | _ => none
def tri (f : D → D → D → Option D) : List D → Option D
  | [a, b, c] => f a b c
  | _ => none
theorem un_some {f : D → Option D} {ds : List D} {d : D} (h : un f ds = some d) : ds.length = 1 := by
  match ds, h with
  | [_], _ => rfl
  | [], h => cases h
  | _ :: _ :: _, h => cases h
theorem bi_some {f : D → D → Option D} {ds : List D} {d : D} (h : bi f ds = some d) : ds.length = 2 := by
  match ds, h with
  | [_, _], _ => rfl
  | [], h => cases h
  | [_], h => cases h
  | _ :: _ :: _ :: _, h => cases h
def addS : D → D → Option D
  | .int i, .int j => some (.int (i + j))
  | .tup a, .tup b => if szOk (a.length + b.length) then some (.tup (a ++ b)) else none
  | .lst f a, .lst g b => if f != .scr && g != .scr && pures a && pures b && szOk (a.length + b.length) then some (.lst .own (a ++ b)) else none
  | .str a, .str b => if szOk (a.length + b.length) then some (.str (a ++ b)) else none
  | _, _ => none
def mulS : D → D → Option D
  | .int i, .int j => if i.natAbs.log2 + j.natAbs.log2 < 1000000 then some (.int (i * j)) else none
  | .lst f a, .int k => if f != .scr && pures a && decide (k.natAbs < 2 ^ 63) && szOk (a.length * k.toNat) then some (.lst .own (List.replicate k.toNat a).flatten) else none
  | _, _ => none
def int2 (f : Int → Int → Option D) : D → D → Option D
  | .int i, .int j => f i j
  | _, _ => none
def int1 (f : Int → Option D) : D → Option D
  | .int i => f i
  | _ => none
def ltS : D → D → Option D
  | .int i, .int j => some (.bl (decide (i < j)))
  | .tup a, .tup b => (ints? a).bind fun xs => (ints? b).bind fun ys => some (.bl (HT.lexLt xs ys))
  | .str a, .str b => some (.bl (decide (a.cps.toList < b.cps.toList)))
  | _, _ => none
def lenS : D → Option D
  | .str s => if szOk s.length then some (.int s.length) else none
  | .lst _ ds => some (.int ds.length)
  | .tup ds => some (.int ds.length)
  | _ => none
def intS : D → Option D
  | .int i => some (.int i)
  | .bl b => some (.int (if b then 1 else 0))
  | _ => none
def reprS (d : D) : Option D := if depD 60 d && (toPy d).showable && szOk (toPy d).shown.length then some (.str (toPy d).shown) else none
def sumS : D → Option D
  | .lst _ ds => (ints? ds).map fun ns => .int ns.sum
  | _ => none
def listS : D → Option D
  | .lst _ ds => if pures ds then some (.lst .own ds) else none
  | .tup ds => some (.lst .own ds)
  | _ => none
def tupleS : D → Option D
  | .lst _ ds => if pures ds then some (.tup ds) else none
  | .tup ds => some (.tup ds)
  | _ => none
def allS : D → Option D
  | .lst _ ds => (bools? ds).map fun bs => .bl (bs.all id)
  | _ => none
def anyS : D → Option D
  | .lst _ ds => (bools? ds).map fun bs => .bl (bs.any id)
  | _ => none
def isTyS (T : String) (d : D) : Option D := (typeD d).bind fun a => (kitB a T).map .bl
def itemS : D → D → Option D
  | .lst _ ds, .int k => (atI ds k).bind fun d => if pureD d then some d else none
  | .tup ds, .int k => atI ds k
  | .str s, .int k => if szOk s.length then (atI s.cps.toList k).map fun c => .str ⟨#[c]⟩ else none
  | _, _ => none
def revS : D → Option D
  | .lst _ ds => if pures ds then some (.lst .own ds.reverse) else none
  | _ => none
def eqS : D → D → Option D
  | .str x, .str y => some (.bl (decide (x = y)))
  | a, b => if depD 60 a && depD 60 b then some (.bl (eqv a b)) else none
def neS : D → D → Option D
  | .str x, .str y => some (.bl (!decide (x = y)))
  | a, b => if depD 60 a && depD 60 b then some (.bl (!eqv a b)) else none
theorem eqS_cases {a b d : D} (h : eqS a b = some d) : (∃ x y, a = .str x ∧ b = .str y ∧ d = .bl (decide (x = y))) ∨ (if depD 60 a && depD 60 b then some (.bl (eqv a b)) else none) = some d := by
  unfold eqS at h
  split at h
  · cases h; exact .inl ⟨_, _, rfl, rfl, rfl⟩
  · exact .inr h
theorem neS_cases {a b d : D} (h : neS a b = some d) : (∃ x y, a = .str x ∧ b = .str y ∧ d = .bl (!decide (x = y))) ∨ (if depD 60 a && depD 60 b then some (.bl (!eqv a b)) else none) = some d := by
  unfold neS at h
  split at h
  · cases h; exact .inl ⟨_, _, rfl, rfl, rfl⟩
  · exact .inr h
def prS : Pr → List D → Option D
  | .add => bi addS
  | .sub => bi (int2 fun i j => some (.int (i - j)))
  | .mul => bi mulS
  | .fdiv => bi (int2 fun i j => if 0 < j ∧ j.natAbs.log2 < 9000 then some (.int (i / j)) else none)
  | .mod => bi (int2 fun i j => if 0 < j then some (.int (i % j)) else none)
  | .pow => bi (int2 fun i j => if 0 ≤ j ∧ (Builtin.Int.intBits i : Int) * j ≤ 2 ^ 27 then some (.int (i ^ j.toNat)) else none)
  | .neg => un (int1 fun i => some (.int (-i)))
  | .eq => bi eqS
  | .ne => bi neS
  | .lt => bi ltS
  | .le => bi (int2 fun i j => some (.bl (decide (i ≤ j))))
  | .gt => bi (int2 fun i j => some (.bl (decide (j < i))))
  | .ge => bi (int2 fun i j => some (.bl (decide (j ≤ i))))
  | .isN => un fun a => some (.bl (isNo a))
  | .notN => un fun a => some (.bl (!isNo a))
  | .len => un lenS
  | .int => un intS
  | .repr => un reprS
  | .abs => un (int1 fun i => some (.int (if i < 0 then -i else i)))
  | .min2 => bi (int2 fun i j => some (.int (if j < i then j else i)))
  | .max2 => bi (int2 fun i j => some (.int (if j > i then j else i)))
  | .sum => un sumS
  | .list => un listS
  | .tuple => un tupleS
  | .all => un allS
  | .any => un anyS
  | .isTy T => un (isTyS T)
  | .item => bi itemS
  | .slice false false => un (sliceS none none)
  | .slice true false => bi fun x l => match l with | .int i => sliceS (some i) none x | _ => none
  | .slice false true => bi fun x l => match l with | .int i => sliceS none (some i) x | _ => none
  | .slice true true => tri fun x l h => match l, h with | .int i, .int j => sliceS (some i) (some j) x | _, _ => none
  | .rev => un revS
  | _ => fun _ => none
end Z

/-! Z5: contexts; arguments; readings of operations. -/
namespace Z
open PySem L2

/-- what holds for the whole text -/
structure G where
  P : Program
  w : World
  K : PySem.W.Frag
  mg : Str → Option Value
  base : Heap
  CA : Cls
  blt : List Str
  FA : Nat → Addr
  FD : Nat → FuncData
  PN : Nat → List Str
structure Cxt where
  N : List Str
  sc : Scope
  sto : Str → Bool
  hot : Bool
  xi : Option Nat
  xcs : List Nat
structure XOk (g : G) (c : Cxt) (X : Cx) : Prop where
  P : X.prog = g.P
  w : X.w = g.w
  K : X.K = g.K
  mg : X.mg = g.mg
  base : X.base = g.base
  blt : ∀ x ∈ g.blt, g.mg x = none
  N : X.N = c.N
  nd : c.N.Nodup
  sc : X.env.scope = c.sc
  fn : ∀ x, c.sto x = true → X.fn x = true ∨ X.env.scope.names.lookup x = some .local
  calm : c.hot = false → X.calm = true
  cold : c.hot = false → g.CA.ex = none
  hotx : c.hot = true → ∃ x, g.CA.ex = some x
  exn : ∀ x, g.CA.ex = some x → x.i = c.xi ∧ x.c ∈ c.xcs ∧ ∃ X0 oe pn, X = Cx.suite X0 x.a ((x.a, oe) :: pn) ∧ Zc (.ref (g.CA x.c)) x.d oe ∧ ∃ vs, oe.data = .fields vs
  gd : X.A.guards = some []
  un : X.A.units + 200 < cLine
  hd : c.hot = false → X.A.handled = none

def glB (c : Cxt) (x : Str) : Bool := c.sc.names.lookup x == some .globalImplicit
def visB (c : Cxt) (x : Str) : Bool := match c.sc.names.lookup x with
  | some .local => true
  | some .cell => true
  | some .free => true
  | _ => false
def locB (c : Cxt) (x : Str) : Bool := match c.sc.names.lookup x with
  | some .local => true
  | some .cell => true
  | _ => false
def noStar : Expr → Bool
  | .Starred _ _ => false
  | _ => true

section
variable {g : G} {c : Cxt} {X : Cx}
theorem XOk.gl (h : XOk g c X) {x : Str} (e : glB c x = true) : Gl X x := by
  show X.env.scope.names.lookup x = _
  rw [h.sc]
  exact eq_of_beq e
theorem XOk.vis (h : XOk g c X) {x : Str} (e : visB c x = true) : Vis X.env.scope x := by
  unfold Vis
  rw [h.sc]
  unfold visB at e
  split at e
  · exact .inl (by assumption)
  · exact .inr (.inl (by assumption))
  · exact .inr (.inr (by assumption))
  · cases e
theorem XOk.loc (h : XOk g c X) {x : Str} (e : locB c x = true) : L2.Loc X.env.scope x := by
  unfold L2.Loc
  rw [h.sc]
  unfold locB at e
  split at e
  · exact .inl (by assumption)
  · exact .inr (by assumption)
  · cases e
theorem XOk.no (h : XOk g c X) {x : Str} (e : g.blt.contains x = true) : X.mg x = none := by
  rw [h.mg]
  exact h.blt x (by simpa using e)

/-! ### arguments -/
def Mono (t : TE) : Prop := ∀ (σ : L2.St) (H : Hp) (Q Q' : VK), (∀ v H', Q v H' → Q' v H') → t σ H Q → t σ H Q'
inductive PEs (X : Cx) : List Expr → List TE → Prop where
  | nil : PEs X [] []
  | cons {e : Expr} {es : List Expr} {t : TE} {ts : List TE} : PE X e t → Mono t → PEs X es ts → PEs X (e :: es) (t :: ts)
def tArgs : List TE → TA
  | [] => tNil
  | t :: ts => tCons t (tArgs ts)
def tCh : List TE → (List V → Hp → VK → Prop) → TE
  | [], r => fun _ H Q => r [] H Q
  | t :: ts, r => fun σ H Q => t σ H fun v H1 => tCh ts (fun vs => r (v :: vs)) σ H1 Q
theorem star_cons {e : Expr} {es : List Expr} {env : PySem.Env} (h : noStar e = true) : starEach (e :: es) env = (false, eval e env) :: starEach es env := by
  cases e <;> first | rfl | cases h
theorem star_any {pos : Pos} {env : PySem.Env} : ∀ {es : List Expr}, es.all noStar = true → (backTo pos (starEach es env)).any (·.1) = false
  | [], _ => rfl
  | e :: es, h => by
    rw [List.all_cons, Bool.and_eq_true] at h
    rw [star_cons h.1]
    have ih := star_any (pos := pos) (env := env) (es := es) h.2
    unfold backTo at ih ⊢
    rw [List.map_cons, List.any_cons, ih]
    rfl
theorem pa_of : ∀ {es : List Expr} {ts : List TE}, PEs X es ts → es.all noStar = true → PA X es (tArgs ts)
  | [], _, .nil, _ => pa_nil
  | e :: es, _, .cons h _ r, hs => by
    rw [List.all_cons, Bool.and_eq_true] at hs
    exact pa_cons h (pa_of r hs.2) (star_cons hs.1)
theorem tArgs_tCh {r : List V → Hp → VK → Prop} : ∀ {ts : List TE} {σ : L2.St} {H : Hp} {Q : VK}, (tArgs ts σ H fun vs H1 => r vs H1 Q) = tCh ts r σ H Q
  | [], _, _, _ => rfl
  | t :: ts, σ, H, Q => by
    show (t σ H fun x H1 => tArgs ts σ H1 fun xs H2 => r (x :: xs) H2 Q) = t σ H fun v H1 => tCh ts (fun vs => r (v :: vs)) σ H1 Q
    congr
    funext v H1
    exact tArgs_tCh (r := fun vs => r (v :: vs)) (ts := ts)
theorem tCh_mono : ∀ {es : List Expr} {ts : List TE} {r r' : List V → Hp → VK → Prop} {σ : L2.St} {H : Hp} {Q Q' : VK}, PEs X es ts → (∀ vs H2, r vs H2 Q → r' vs H2 Q') → tCh ts r σ H Q → tCh ts r' σ H Q'
  | _, _, r, r', σ, H, Q, Q', .nil, h, q => h [] H q
  | _, _, r, r', σ, H, Q, Q', .cons _ m ps, h, q => m σ H _ _ (fun v H1 q1 => tCh_mono (r := fun vs => r (v :: vs)) (r' := fun vs => r' (v :: vs)) ps (fun vs H2 => h (v :: vs) H2) q1) q
theorem pe_is {e : Expr} {t u : TE} (h : PE X e t) (k : ∀ σ H Q, u σ H Q → t σ H Q) : PE X e u := ⟨fun pins s σ H Q I q => h.run pins s σ H Q I (k σ H Q q)⟩
theorem pt_is {e : Expr} {t u : TT} (h : PT X e t) (k : ∀ σ H Q, u σ H Q → t σ H Q) : PT X e u := ⟨fun pins s σ H Q I q => h.run pins s σ H Q I (k σ H Q q)⟩
theorem ps_is {e : Stmt} {t u : TS} (h : PS X e t) (k : ∀ D σ H, u D σ H → t D σ H) : PS X e u := ⟨fun pins s σ H D I q => h.run pins s σ H D I (k D σ H q)⟩
theorem pss_is {e : List Stmt} {t u : TS} (h : PSs X e t) (k : ∀ D σ H, u D σ H → t D σ H) : PSs X e u := ⟨fun pins s σ H D I q => h.run pins s σ H D I (k D σ H q)⟩
theorem opR_or {f : Value → Value → Sem Value} {r r' : R2} (h : OpR X f r) (h' : OpR X f r') : OpR X f (fun x y H Q => r x y H Q ∨ r' x y H Q) := by
  intro pins s σ H x y v u Q I rx ry q
  rcases q with q | q
  · exact h pins s σ H x y v u Q I rx ry q
  · exact h' pins s σ H x y v u Q I rx ry q
theorem opR_imp {f : Value → Value → Sem Value} {r r' : R2} (h : OpR X f r) (k : ∀ x y H Q, r' x y H Q → r x y H Q) : OpR X f r' := fun pins s σ H x y v u Q I rx ry q =>
  h pins s σ H x y v u Q I rx ry (k x y H Q q)
theorem callR_or {f : Value} {r r' : List V → Hp → VK → Prop} (h : CallR X f r) (h' : CallR X f r') : CallR X f (fun x H Q => r x H Q ∨ r' x H Q) := by
  intro pins s σ H x v Q I rx q
  rcases q with q | q
  · exact h pins s σ H x v Q I rx q
  · exact h' pins s σ H x v Q I rx q
theorem callR_imp {f : Value} {r r' : List V → Hp → VK → Prop} (h : CallR X f r) (k : ∀ x H Q, r' x H Q → r x H Q) : CallR X f r' := fun pins s σ H x v Q I rx q =>
  h pins s σ H x v Q I rx (k x H Q q)
theorem ixR_imp {r r' : R2} (h : IxR X r) (k : ∀ x y H Q, r' x y H Q → r x y H Q) : IxR X r' := fun va sl pins s σ H x y v u Q I rx ry q hs =>
  h va sl pins s σ H x y v u Q I rx ry (k x y H Q q) hs
theorem slR_imp {r r' : V → Option Int → Option Int → Hp → VK → Prop} (h : SlR X r) (k : ∀ x a b H Q, r' x a b H Q → r x a b H Q) : SlR X r' := fun pins s σ H x v vl vu lo hi sl Q I rx hs pl pu q =>
  h pins s σ H x v vl vu lo hi sl Q I rx hs pl pu (k x lo hi H Q q)
end

/-! ### what operations do -/
section
variable (K : PySem.W.Frag) (CA : Cls)
/-- a value d, new or frozen -/
def Fin (F H : Hp) (d : D) (Q : VK) : Prop :=
  ∀ (v : V) (F' H' : Hp) (T : Ad), Le F F' → Le F' H' → Le H H' → (∀ a, F' a ≠ none → F a ≠ none ∨ H a = none) → (∀ a, T a → H a = none ∧ F' a = none ∧ H' a ≠ none) → Rep K CA F' H' d v T → Q v H'
/-- arguments, to be looked at -/
inductive Args (F H : Hp) : List D → List V → Prop where
  | nil : Args F H [] []
  | cons {d : D} {ds : List D} {v : V} {vs : List V} {T : Ad} : Rep K CA F H d v T → Args F H ds vs → Args F H (d :: ds) (v :: vs)
def rSem (op : Pr) : List V → Hp → VK → Prop := fun vs H Q => ∃ F ds d, Le F H ∧ Args K CA F H ds vs ∧ prS op ds = some d ∧ Fin K CA F H d Q
end
section
variable {K : PySem.W.Frag} {CA : Cls} {F H : Hp} {Q : VK}
theorem Fin.pure {d : D} {v : V} (h : Fin K CA F H d Q) (le : Le F H) (r : Rep K CA F F d v noAd) : Q v H :=
  h v F H noAd (Le.refl F) le (Le.refl H) (fun _ z => .inl z) (fun _ z => z.elim) r.pureH
theorem le_none {F H : Hp} (le : Le F H) {p : Addr} (hp : H p = none) : F p = none := by
  cases e : F p with
  | none => rfl
  | some o => rw [le _ _ e] at hp; cases hp
theorem le_upd {F H : Hp} (le : Le F H) {p : Addr} {o : HO} (hp : F p = none) : Le F (upd H p o) := fun a u e => by
  rw [upd_ne (ne_of_none e hp)]
  exact le a u e
theorem le_new {H : Hp} {p : Addr} {o : HO} (hp : H p = none) : Le H (upd H p o) := le_upd (Le.refl H) hp
theorem le_upd2 {F H : Hp} (le : Le F H) {p : Addr} {o : HO} : Le (upd F p o) (upd H p o) := fun a u e => by
  by_cases h : a = p
  · subst h
    rw [upd_same] at e ⊢
    exact e
  · rw [upd_ne h] at e ⊢
    exact le a u e
theorem Fin.tup {ds : List D} {vs : List V} (h : Fin K CA F H (.tup ds) Q) (le : Le F H) (r : RepL K CA F F ds vs noAd) {p : Addr} (hp : H p = none) : Q (.ref p) (upd H p (.tup vs)) := by
  have hF := le_none le hp
  refine h (.ref p) (upd F p (.tup vs)) _ noAd (le_new hF) (le_upd2 le) (le_new hp) (fun a z => ?_) (fun _ z => z.elim) ?_
  · by_cases e : a = p
    · subst e; exact .inr hp
    · rw [upd_ne e] at z; exact .inl z
  · exact ⟨p, vs, rfl, SqT.of upd_same, r.up (le_new hF) (fun _ z => z.elim) fun _ z => z⟩
theorem Fin.lst {ds : List D} {vs : List V} (h : Fin K CA F H (.lst .own ds) Q) (le : Le F H) (r : RepL K CA F F ds vs noAd) {p : Addr} (hp : H p = none) : Q (.ref p) (upd H p (.lst vs)) := by
  have hF := le_none le hp
  refine h (.ref p) F _ (fun a => a = p) (Le.refl F) (le_upd le hF) (le_new hp) (fun a z => .inl z) (fun a z => by cases z; exact ⟨hp, hF, by rw [upd_same]; exact fun q => nomatch q⟩) ?_
  exact ⟨p, vs, noAd, rfl, upd_same, rfl, fun z => z, fun _ z => z.elim, r.pureH⟩

/-- the items of a list that are all pure -/
theorem RepL.pures : ∀ {ds : List D} {vs : List V} {T : Ad}, RepL K CA F H ds vs T → pures ds = true → RepL K CA F F ds vs noAd
  | [], _, _, h, _ => h
  | d :: ds, vs, T, h, p => by
    obtain ⟨v, r, T1, T2, h1, h2, h3, h4, h5, h6⟩ := h
    unfold Z.pures at p
    rw [List.all_cons, Bool.and_eq_true] at p
    exact ⟨v, r, noAd, noAd, h1, fun _ z => z, fun _ z => z, fun _ z _ => z, h5.pure p.1, RepL.pures h6 p.2⟩
theorem RepL.append : ∀ {ds es : List D} {vs us : List V}, RepL K CA F H ds vs noAd → RepL K CA F H es us noAd → RepL K CA F H (ds ++ es) (vs ++ us) noAd
  | [], es, vs, us, h, k => by
    rw [show vs = _ from h]
    exact k
  | d :: ds, es, vs, us, h, k => by
    obtain ⟨v, r, T1, T2, rfl, h2, h3, h4, h5, h6⟩ := h
    exact ⟨v, r ++ us, noAd, noAd, rfl, fun _ z => z, fun _ z => z, fun _ z _ => z, h5.up (Le.refl _) (fun _ _ => rfl) h2, RepL.append (h6.up (Le.refl _) (fun _ _ => rfl) h3) k⟩
/-- a list as it is read -/
theorem rep_lst {f : Fl} {ds : List D} {v : V} {T : Ad} (h : Rep K CA F H (.lst f ds) v T) (le : Le F H) :
    ∃ a vs T', v = .ref a ∧ SqL K H a vs ∧ RepL K CA F H ds vs T' ∧ (f ≠ .scr → H a = some (.lst vs)) := by
  cases f with
  | own =>
    obtain ⟨a, vs, T1, h1, h2, h3, h4, h5, h6⟩ := h
    exact ⟨a, vs, T1, h1, SqL.of h2, h6, fun _ => h2⟩
  | frz =>
    obtain ⟨a, vs, h1, h2, h3⟩ := h
    exact ⟨a, vs, noAd, h1, SqL.of (le _ _ h2), h3.pureH, fun _ => le _ _ h2⟩
  | scr =>
    obtain ⟨a, vs, h1, h2, h3⟩ := h
    exact ⟨a, vs, noAd, h1, le.sqL h2, h3.pureH, fun z => absurd rfl z⟩
theorem rep_tup {ds : List D} {v : V} {T : Ad} (h : Rep K CA F H (.tup ds) v T) (le : Le F H) :
    ∃ a vs, v = .ref a ∧ SqT K H a vs ∧ RepL K CA F F ds vs noAd := by
  obtain ⟨a, vs, h1, h2, h3⟩ := h
  exact ⟨a, vs, h1, le.sqT h2, h3⟩
theorem RepL.ints : ∀ {ds : List D} {vs : List V} {T : Ad} {ns : List Int}, RepL K CA F H ds vs T → ints? ds = some ns → vs = ns.map V.int
  | [], _, _, _, h, e => by
    cases e
    exact h
  | d :: ds, vs, T, ns, h, e => by
    obtain ⟨v, r, T1, T2, rfl, h2, h3, h4, h5, h6⟩ := h
    cases d with
    | int i =>
      obtain ⟨ms, e1, rfl⟩ := Option.map_eq_some_iff.mp (show (ints? ds).map (i :: ·) = some ns from e)
      rw [RepL.ints h6 e1, show v = V.int i from h5]
      rfl
    | _ => cases e
theorem RepL.bools : ∀ {ds : List D} {vs : List V} {T : Ad} {ns : List Bool}, RepL K CA F H ds vs T → bools? ds = some ns → vs = ns.map V.bl
  | [], _, _, _, h, e => by
    cases e
    exact h
  | d :: ds, vs, T, ns, h, e => by
    obtain ⟨v, r, T1, T2, rfl, h2, h3, h4, h5, h6⟩ := h
    cases d with
    | bl i =>
      obtain ⟨ms, e1, rfl⟩ := Option.map_eq_some_iff.mp (show (bools? ds).map (i :: ·) = some ns from e)
      rw [RepL.bools h6 e1, show v = V.bl i from h5]
      rfl
    | _ => cases e
mutual
theorem Rep.dp : ∀ {d : D} {n : Nat} {v : V} {F H H0 : Hp} {T : Ad}, Rep K CA F H d v T → Le F H0 → (∀ a, T a → H0 a = H a) → depD n d = true → Dp K H0 v (toPy d)
  | .non, n, v, F, H, H0, T, h, _, _, _ => by rw [show v = _ from h]; exact .non
  | .bl b, n, v, F, H, H0, T, h, _, _, _ => by rw [show v = _ from h]; exact .bl b
  | .int b, n, v, F, H, H0, T, h, _, _, _ => by rw [show v = _ from h]; exact .int b
  | .str b, n, v, F, H, H0, T, h, _, _, _ => by rw [show v = _ from h]; exact .str b
  | .tup ds, 0, v, F, H, H0, T, h, _, _, p => by cases p
  | .tup ds, n + 1, v, F, H, H0, T, h, le, k, p => by
    obtain ⟨a, vs, rfl, h2, h3⟩ := h
    exact .tup (le.sqT h2) (RepL.dp (n := n) h3 le (fun _ z => z.elim) p)
  | .lst f ds, 0, v, F, H, H0, T, h, _, _, p => by cases p
  | .lst .own ds, n + 1, v, F, H, H0, T, h, le, k, p => by
    obtain ⟨a, vs, T1, rfl, h2, h3, h4, h5, h6⟩ := h
    exact .lst (SqL.of ((k a h3).trans h2)) (RepL.dp (n := n) h6 le (fun b z => k b (h5 b z)) p)
  | .lst .frz ds, n + 1, v, F, H, H0, T, h, le, k, p => by
    obtain ⟨a, vs, rfl, h2, h3⟩ := h
    exact .lst (SqL.of (le _ _ h2)) (RepL.dp (n := n) h3 le (fun _ z => z.elim) p)
  | .lst .scr ds, n + 1, v, F, H, H0, T, h, le, k, p => by
    obtain ⟨a, vs, rfl, h2, h3⟩ := h
    exact .lst (le.sqL h2) (RepL.dp (n := n) h3 le (fun _ z => z.elim) p)
  | .ins f c ks ds, 0, v, F, H, H0, T, h, _, _, p => by cases p
  | .ins f c ks ds, n + 1, v, F, H, H0, T, h, _, _, p => by cases p
theorem RepL.dp : ∀ {ds : List D} {n : Nat} {vs : List V} {F H H0 : Hp} {T : Ad}, RepL K CA F H ds vs T → Le F H0 → (∀ a, T a → H0 a = H a) → depDs n ds = true → DpAll K H0 vs (toPys ds)
  | [], n, vs, F, H, H0, T, h, _, _, _ => by rw [show vs = _ from h]; exact .nil
  | d :: ds, n, vs, F, H, H0, T, h, le, k, p => by
    obtain ⟨v, r, T1, T2, rfl, h2, h3, h4, h5, h6⟩ := h
    have p' : (depD n d && depDs n ds) = true := by cases n <;> exact p
    rw [Bool.and_eq_true] at p'
    exact .cons (Rep.dp h5 le (fun b z => k b (h2 b z)) p'.1) (RepL.dp h6 le (fun b z => k b (h3 b z)) p'.2)
end
mutual
theorem dep_lay : ∀ {d : D} {n : Nat}, depD n d = true → (toPy d).canLay0 = true ∧ (toPy d).depth ≤ n
  | .non, n, _ => ⟨rfl, Nat.zero_le _⟩
  | .bl b, n, _ => ⟨rfl, Nat.zero_le _⟩
  | .int b, n, _ => ⟨rfl, Nat.zero_le _⟩
  | .str b, 0, h => ⟨h, Nat.zero_le _⟩
  | .str b, n + 1, h => ⟨h, Nat.zero_le _⟩
  | .tup ds, 0, p => by cases p
  | .tup ds, n + 1, p => ⟨(dep_lays (ds := ds) (n := n) p).1, Nat.succ_le_succ (dep_lays (ds := ds) (n := n) p).2⟩
  | .lst f ds, 0, p => by cases p
  | .lst f ds, n + 1, p => ⟨(dep_lays (ds := ds) (n := n) p).1, Nat.succ_le_succ (dep_lays (ds := ds) (n := n) p).2⟩
  | .ins f c ks ds, 0, p => by cases p
  | .ins f c ks ds, n + 1, p => by cases p
theorem dep_lays : ∀ {ds : List D} {n : Nat}, depDs n ds = true → PyData.canLayAll0 (toPys ds) = true ∧ PyData.depthAll (toPys ds) ≤ n
  | [], n, _ => ⟨rfl, Nat.zero_le _⟩
  | d :: ds, n, p => by
    have p' : (depD n d && depDs n ds) = true := by cases n <;> exact p
    rw [Bool.and_eq_true] at p'
    have h1 := dep_lay p'.1
    have h2 := dep_lays p'.2
    refine ⟨?_, Nat.max_le.mpr ⟨h1.2, h2.2⟩⟩
    show (PyData.canLay0 _ && PyData.canLayAll0 _) = true
    rw [h1.1, h2.1]
    rfl
end
theorem dep_shaped {d : D} (h : depD 60 d = true) : SeqAt.shaped (toPy d) = true := by
  obtain ⟨h1, h2⟩ := dep_lay h
  show (_ && decide _) = true
  rw [h1, decide_eq_true (Nat.le_trans h2 (by decide))]
  rfl
end
end Z

/-! Z6: each operation's rule. -/
namespace Z
open PySem L2

def bopOf : Pr → Option Operator
  | .add => some .Add
  | .sub => some .Sub
  | .mul => some .Mult
  | .fdiv => some .FloorDiv
  | .mod => some .Mod
  | .pow => some .Pow
  | _ => none
def copOf : Pr → Option CmpOp
  | .eq => some .Eq
  | .ne => some .NotEq
  | .lt => some .Lt
  | .le => some .LtE
  | .gt => some .Gt
  | .ge => some .GtE
  | _ => none
/-- a built-in by its name; is it a class; how many arguments -/
def bltOf : Pr → Option (Str × Nat)
  | .len => some ("len", 1)
  | .int => some ("int", 1)
  | .repr => some ("repr", 1)
  | .abs => some ("abs", 1)
  | .min2 => some ("min", 2)
  | .max2 => some ("max", 2)
  | .sum => some ("sum", 1)
  | .list => some ("list", 1)
  | .tuple => some ("tuple", 1)
  | .all => some ("all", 1)
  | .any => some ("any", 1)
  | _ => none
def tyNames : List String := ["int", "bool", "str", "list", "tuple"]
def isSlice : Expr → Bool
  | .Slice _ _ _ _ => true
  | _ => false
/-- the arguments' expressions, where the expression is this operation -/
def calmOp : Pr → Bool
  | .min2 => true
  | .max2 => true
  | .sum => true
  | .all => true
  | .any => true
  | _ => false
def prCk (c : Cxt) (blt : List Str) : Pr → Expr → Option (List Expr)
  | op, .BinOp a o b _ => if bopOf op = some o then some [a, b] else none
  | .neg, .UnaryOp .USub a _ => some [a]
  | .isN, .Compare a [.Is] [.Constant .none _ _] _ => some [a]
  | .notN, .Compare a [.IsNot] [.Constant .none _ _] _ => some [a]
  | op, .Compare a [o] [b] _ => if copOf op = some o ∧ behindInMarks o b = false then some [a, b] else none
  | .isTy T, .Call (.Name x _) [a, .Name y _] [] _ => if x = "isinstance" ∧ y = Str.ofString T ∧ tyNames.contains T = true ∧ glB c x = true ∧ glB c y = true ∧ blt.contains x = true ∧ blt.contains y = true ∧ noStar a = true then some [a] else none
  | op, .Call (.Name x _) (a :: as) [] _ => if bltOf op = some (x, as.length + 1) ∧ glB c x = true ∧ blt.contains x = true ∧ (a :: as).all noStar = true ∧ (calmOp op && c.hot) = false then some (a :: as) else none
  | .item, .Subscript a b _ => if isSlice b = false then some [a, b] else none
  | .slice false false, .Subscript a (.Slice none none none _) _ => some [a]
  | .slice true false, .Subscript a (.Slice (some l) none none _) _ => some [a, l]
  | .slice false true, .Subscript a (.Slice none (some h) none _) _ => some [a, h]
  | .slice true true, .Subscript a (.Slice (some l) (some h) none _) _ => some [a, l, h]
  | .rev, .Subscript a (.Slice none none (some (.UnaryOp .USub (.Constant (.int 1) _ _) _)) _) _ => some [a]
  | _, _ => none

section
variable {g : G} {c : Cxt} {X : Cx}
abbrev rs (g : G) (op : Pr) := rSem g.K g.CA op

theorem opR_add (h : XOk g c X) : OpR X (binaryOp .Add) (fun x y => rs g .add [x, y]) := by
  refine opR_imp (opR_or op_add (opR_or op_catA (opR_or op_cat op_add_str))) fun x y H Q q => ?_
  obtain ⟨F, ds, d, le, ar, e, fin⟩ := q
  rw [h.K]
  cases ar with
  | @cons a _ _ _ _ r1 ar =>
    cases ar with
    | @cons b _ _ _ _ r2 ar =>
      cases ar
      cases a <;> cases b <;> try (cases e; done)
      case int.int i j =>
        cases e
        exact .inl ⟨i, j, r1, r2, fin.pure le rfl⟩
      case str.str i j =>
        have e' : (if szOk (i.length + j.length) then some (D.str (i ++ j)) else none) = some d := e
        split at e'
        · cases e'
          exact .inr (.inr (.inr ⟨i, j, r1, r2, of_decide_eq_true (by assumption), fin.pure le rfl⟩))
        · cases e'
      case tup.tup as bs =>
        have e' : (if szOk (as.length + bs.length) then some (D.tup (as ++ bs)) else none) = some d := e
        split at e'
        · cases e'
          obtain ⟨p, vs, rfl, h1, h2⟩ := rep_tup r1 le
          obtain ⟨q, us, rfl, h3, h4⟩ := rep_tup r2 le
          refine .inr (.inl ⟨p, q, vs, us, rfl, rfl, h1, h3, by rw [h2.length, h4.length]; exact of_decide_eq_true (by assumption), fun z => ?_, fun _ z => ?_, fun _ _ => fun p hp => fin.tup le (h2.append h4) hp⟩)
          · subst z
            have z : as = [] := List.eq_nil_of_length_eq_zero (by rw [← h2.length]; rfl)
            subst z
            exact fin.pure le (r2.pure rfl)
          · subst z
            have z : bs = [] := List.eq_nil_of_length_eq_zero (by rw [← h4.length]; rfl)
            subst z
            rw [List.append_nil] at fin
            exact fin.pure le (r1.pure rfl)
        · cases e'
      case lst.lst f as f2 bs =>
        have e' : (if (f != .scr && f2 != .scr && pures as && pures bs && szOk (as.length + bs.length)) = true then some (D.lst .own (as ++ bs)) else none) = some d := e
        split at e'
        · rename_i hc
          cases e'
          simp only [Bool.and_eq_true, bne_iff_ne, ne_eq] at hc
          obtain ⟨⟨⟨⟨c1, c2⟩, c3⟩, c4⟩, c5⟩ := hc
          obtain ⟨p, vs, T1, rfl, h1, h2, h3⟩ := rep_lst r1 le
          obtain ⟨q, us, T2, rfl, h4, h5, h6⟩ := rep_lst r2 le
          exact .inr (.inr (.inl ⟨p, q, vs, us, rfl, rfl, h3 c1, h6 c2, by rw [h2.length, h5.length]; exact of_decide_eq_true c5, fun p hp => fin.lst le ((h2.pures c3).append (h5.pures c4)) hp⟩))
        · cases e'

/-- opening a reading of two, of one -/
theorem rs2 {op : Pr} {x y : V} {H : Hp} {Q : VK} (q : rs g op [x, y] H Q) : ∃ F a b d T1 T2, Le F H ∧ Rep g.K g.CA F H a x T1 ∧ Rep g.K g.CA F H b y T2 ∧ prS op [a, b] = some d ∧ Fin g.K g.CA F H d Q := by
  obtain ⟨F, ds, d, le, ar, e, fin⟩ := q
  cases ar with
  | cons r1 ar =>
    cases ar with
    | cons r2 ar =>
      cases ar
      exact ⟨F, _, _, d, _, _, le, r1, r2, e, fin⟩
theorem rs1 {op : Pr} {x : V} {H : Hp} {Q : VK} (q : rs g op [x] H Q) : ∃ F a d T1, Le F H ∧ Rep g.K g.CA F H a x T1 ∧ prS op [a] = some d ∧ Fin g.K g.CA F H d Q := by
  obtain ⟨F, ds, d, le, ar, e, fin⟩ := q
  cases ar with
  | cons r1 ar =>
    cases ar
    exact ⟨F, _, d, _, le, r1, e, fin⟩
theorem rs3 {op : Pr} {x y z : V} {H : Hp} {Q : VK} (q : rs g op [x, y, z] H Q) : ∃ F a b c d T1 T2 T3, Le F H ∧ Rep g.K g.CA F H a x T1 ∧ Rep g.K g.CA F H b y T2 ∧ Rep g.K g.CA F H c z T3 ∧ prS op [a, b, c] = some d ∧ Fin g.K g.CA F H d Q := by
  obtain ⟨F, ds, d, le, ar, e, fin⟩ := q
  cases ar with
  | cons r1 ar =>
    cases ar with
    | cons r2 ar =>
      cases ar with
      | cons r3 ar =>
        cases ar
        exact ⟨F, _, _, _, d, _, _, _, le, r1, r2, r3, e, fin⟩
theorem rs1_len {op : Pr} {vs : List V} {H : Hp} {Q : VK} {n : Nat} (hop : ∀ ds d, prS op ds = some d → ds.length = n) (q : rs g op vs H Q) : vs.length = n := by
  obtain ⟨F, ds, d, le, ar, e, fin⟩ := q
  have : ∀ {ds : List D} {vs : List V}, Args g.K g.CA F H ds vs → vs.length = ds.length := by
    intro ds vs ar
    induction ar with
    | nil => rfl
    | cons _ _ ih => rw [List.length_cons, List.length_cons, ih]
  rw [this ar]
  exact hop _ _ e
theorem one_of {vs : List V} (h : vs.length = 1) : ∃ x, vs = [x] := by
  match vs, h with
  | [x], _ => exact ⟨x, rfl⟩
theorem two_of {vs : List V} (h : vs.length = 2) : ∃ x y, vs = [x, y] := by
  match vs, h with
  | [x, y], _ => exact ⟨x, y, rfl⟩

theorem rsU {op : Pr} {f : D → Option D} {vs : List V} {H : Hp} {Q : VK} (hop : ∀ ds, prS op ds = un f ds) (q : rs g op vs H Q) : ∃ x, vs = [x] :=
  one_of (rs1_len (fun ds d e => un_some ((hop ds).symm.trans e)) q)
theorem rsB {op : Pr} {f : D → D → Option D} {vs : List V} {H : Hp} {Q : VK} (hop : ∀ ds, prS op ds = bi f ds) (q : rs g op vs H Q) : ∃ x y, vs = [x, y] :=
  two_of (rs1_len (fun ds d e => bi_some ((hop ds).symm.trans e)) q)
theorem opR_sub (h : XOk g c X) : OpR X (binaryOp .Sub) (fun x y => rs g .sub [x, y]) := by
  refine opR_imp op_sub fun x y H Q q => ?_
  obtain ⟨F, a, b, d, T1, T2, le, r1, r2, e, fin⟩ := rs2 q
  cases a <;> cases b <;> try (cases e; done)
  cases e
  exact ⟨_, _, r1, r2, fin.pure le rfl⟩
theorem opR_mul (h : XOk g c X) : OpR X (binaryOp .Mult) (fun x y => rs g .mul [x, y]) := by
  refine opR_imp (opR_or op_mulW op_rep) fun x y H Q q => ?_
  obtain ⟨F, a, b, d, T1, T2, le, r1, r2, e, fin⟩ := rs2 q
  cases a <;> cases b <;> try (cases e; done)
  case int.int i j =>
    have e' : (if i.natAbs.log2 + j.natAbs.log2 < 1000000 then some (D.int (i * j)) else none) = some d := e
    split at e'
    · cases e'
      exact .inl ⟨_, _, r1, r2, by assumption, fin.pure le rfl⟩
    · cases e'
  case lst.int f as k =>
    have e' : (if (f != .scr && pures as && decide (k.natAbs < 2 ^ 63) && szOk (as.length * k.toNat)) = true then some (D.lst .own (List.replicate k.toNat as).flatten) else none) = some d := e
    split at e'
    · rename_i hc
      cases e'
      simp only [Bool.and_eq_true, bne_iff_ne, ne_eq] at hc
      obtain ⟨⟨⟨c1, c2⟩, c3⟩, c5⟩ := hc
      have c3 : k.natAbs < 2 ^ 63 := of_decide_eq_true c3
      obtain ⟨p, vs, T1, rfl, h1, h2, h3⟩ := rep_lst r1 le
      refine .inr ⟨p, k, vs, rfl, r2, h3 c1, by omega, by omega, by rw [h2.length]; exact of_decide_eq_true c5, fun p hp => fin.lst le ?_ hp⟩
      have h4 := h2.pures c2
      generalize k.toNat = n
      induction n with
      | zero => exact rfl
      | succ n ih =>
        rw [List.replicate_succ, List.replicate_succ, List.flatten_cons, List.flatten_cons]
        exact h4.append ih
    · cases e'
theorem opR_fdiv (h : XOk g c X) : OpR X (binaryOp .FloorDiv) (fun x y => rs g .fdiv [x, y]) := by
  refine opR_imp op_fdivW fun x y H Q q => ?_
  obtain ⟨F, a, b, d, T1, T2, le, r1, r2, e, fin⟩ := rs2 q
  cases a <;> cases b <;> try (cases e; done)
  case int.int i j =>
    have e' : (if 0 < j ∧ j.natAbs.log2 < 9000 then some (D.int (i / j)) else none) = some d := e
    split at e'
    · cases e'
      exact ⟨_, _, r1, r2, by assumption, fin.pure le rfl⟩
    · cases e'
theorem opR_mod (h : XOk g c X) : OpR X (binaryOp .Mod) (fun x y => rs g .mod [x, y]) := by
  refine opR_imp op_mod fun x y H Q q => ?_
  obtain ⟨F, a, b, d, T1, T2, le, r1, r2, e, fin⟩ := rs2 q
  cases a <;> cases b <;> try (cases e; done)
  case int.int i j =>
    have e' : (if 0 < j then some (D.int (i % j)) else none) = some d := e
    split at e'
    · cases e'
      exact ⟨_, _, r1, r2, by assumption, fin.pure le rfl⟩
    · cases e'
theorem op_powW : OpR X (binaryOp .Pow) (rI (fun i j => 0 ≤ j ∧ (Builtin.Int.intBits i : Int) * j ≤ 2 ^ 27) fun i j => .int (i ^ j.toNat)) := opI fun _ _ _ _ _ _ _ hc q => PyProof.Rows.pow_int hc.1 hc.2 q
theorem opR_pow (h : XOk g c X) : OpR X (binaryOp .Pow) (fun x y => rs g .pow [x, y]) := by
  refine opR_imp op_powW fun x y H Q q => ?_
  obtain ⟨F, a, b, d, T1, T2, le, r1, r2, e, fin⟩ := rs2 q
  cases a <;> cases b <;> try (cases e; done)
  case int.int i j =>
    have e' : (if 0 ≤ j ∧ (Builtin.Int.intBits i : Int) * j ≤ 2 ^ 27 then some (D.int (i ^ j.toNat)) else none) = some d := e
    split at e'
    · cases e'
      exact ⟨_, _, r1, r2, by assumption, fin.pure le rfl⟩
    · cases e'
theorem opR_eq (h : XOk g c X) : OpR X (compareOp .Eq) (fun x y => rs g .eq [x, y]) := by
  refine opR_imp (opR_or op_eq (op_eqD (by have := h.un; omega))) fun x y H Q q => ?_
  obtain ⟨F, a, b, d, T1, T2, le, r1, r2, e, fin⟩ := rs2 q
  rcases eqS_cases e with ⟨x', y', rfl, rfl, rfl⟩ | e'
  · left
    rw [show x = V.str x' from r1, show y = V.str y' from r2]
    refine ⟨rfl, ?_⟩
    have := fin.pure (v := .bl (decide (x' = y'))) le rfl
    rw [show decide (V.str x' = V.str y') = decide (x' = y') from by rw [decide_eq_decide]; exact ⟨fun h => by cases h; rfl, fun h => by rw [h]⟩]
    exact this
  right
  split at e'
  · rename_i hc
    rw [Bool.and_eq_true] at hc
    cases e'
    rw [h.K]
    exact ⟨toPy a, toPy b, r1.dp le (fun _ _ => rfl) hc.1, r2.dp le (fun _ _ => rfl) hc.2, dep_shaped hc.1, dep_shaped hc.2, fin.pure le rfl⟩
  · cases e'
theorem opR_ne (h : XOk g c X) : OpR X (compareOp .NotEq) (fun x y => rs g .ne [x, y]) := by
  refine opR_imp (opR_or op_ne (op_neD (by have := h.un; omega))) fun x y H Q q => ?_
  obtain ⟨F, a, b, d, T1, T2, le, r1, r2, e, fin⟩ := rs2 q
  rcases neS_cases e with ⟨x', y', rfl, rfl, rfl⟩ | e'
  · left
    rw [show x = V.str x' from r1, show y = V.str y' from r2]
    refine ⟨rfl, ?_⟩
    have := fin.pure (v := .bl (!decide (x' = y'))) le rfl
    rw [show decide (V.str x' = V.str y') = decide (x' = y') from by rw [decide_eq_decide]; exact ⟨fun h => by cases h; rfl, fun h => by rw [h]⟩]
    exact this
  right
  split at e'
  · rename_i hc
    rw [Bool.and_eq_true] at hc
    cases e'
    rw [h.K]
    exact ⟨toPy a, toPy b, r1.dp le (fun _ _ => rfl) hc.1, r2.dp le (fun _ _ => rfl) hc.2, dep_shaped hc.1, dep_shaped hc.2, fin.pure le rfl⟩
  · cases e'
theorem opR_lt (h : XOk g c X) : OpR X (compareOp .Lt) (fun x y => rs g .lt [x, y]) := by
  refine opR_imp (opR_or op_lt (opR_or (op_ltT (by have := h.un; omega)) op_lt_str)) fun x y H Q q => ?_
  obtain ⟨F, a, b, d, T1, T2, le, r1, r2, e, fin⟩ := rs2 q
  rw [h.K]
  cases a <;> cases b <;> try (cases e; done)
  case int.int i j =>
    cases e
    exact .inl ⟨_, _, r1, r2, fin.pure le rfl⟩
  case str.str i j =>
    cases e
    exact .inr (.inr ⟨_, _, r1, r2, fin.pure le rfl⟩)
  case tup.tup as bs =>
    obtain ⟨xs, e1, e⟩ := Option.bind_eq_some_iff.mp (show ((ints? as).bind fun xs => (ints? bs).bind fun ys => some (D.bl (HT.lexLt xs ys))) = some d from e)
    obtain ⟨ys, e2, e⟩ := Option.bind_eq_some_iff.mp e
    cases e
    obtain ⟨p, vs, rfl, h1, h2⟩ := rep_tup r1 le
    obtain ⟨q, us, rfl, h3, h4⟩ := rep_tup r2 le
    cases h2.ints e1
    cases h4.ints e2
    exact .inr (.inl ⟨_, _, xs, ys, rfl, rfl, h1, h3, fin.pure le rfl⟩)
theorem opR_le (h : XOk g c X) : OpR X (compareOp .LtE) (fun x y => rs g .le [x, y]) := by
  refine opR_imp op_le fun x y H Q q => ?_
  obtain ⟨F, a, b, d, T1, T2, le, r1, r2, e, fin⟩ := rs2 q
  cases a <;> cases b <;> try (cases e; done)
  cases e
  exact ⟨_, _, r1, r2, fin.pure le rfl⟩
theorem opR_gt (h : XOk g c X) : OpR X (compareOp .Gt) (fun x y => rs g .gt [x, y]) := by
  refine opR_imp op_gt fun x y H Q q => ?_
  obtain ⟨F, a, b, d, T1, T2, le, r1, r2, e, fin⟩ := rs2 q
  cases a <;> cases b <;> try (cases e; done)
  cases e
  exact ⟨_, _, r1, r2, fin.pure le rfl⟩
theorem opR_ge (h : XOk g c X) : OpR X (compareOp .GtE) (fun x y => rs g .ge [x, y]) := by
  refine opR_imp op_ge fun x y H Q q => ?_
  obtain ⟨F, a, b, d, T1, T2, le, r1, r2, e, fin⟩ := rs2 q
  cases a <;> cases b <;> try (cases e; done)
  cases e
  exact ⟨_, _, r1, r2, fin.pure le rfl⟩
theorem no_iff {F H : Hp} {a : D} {x : V} {T : Ad} (r : Rep g.K g.CA F H a x T) : isNo a = decide (x = .non) := by
  cases a with
  | non => rw [show x = _ from r]; rfl
  | bl _ => rw [show x = _ from r]; rfl
  | int _ => rw [show x = _ from r]; rfl
  | str _ => rw [show x = _ from r]; rfl
  | tup _ => obtain ⟨a, vs, rfl, _⟩ := r; rfl
  | lst f _ => cases f <;> (obtain ⟨a, vs, r⟩ := r; first | (obtain ⟨T1, rfl, _⟩ := r; rfl) | (obtain ⟨rfl, _⟩ := r; rfl))
  | ins f _ _ _ => cases f <;> (obtain ⟨a, dx, vs, r⟩ := r; first | (obtain ⟨T1, rfl, _⟩ := r; rfl) | (obtain ⟨rfl, _⟩ := r; rfl))

theorem cr_len (h : XOk g c X) : CallR X (.builtin "len") (rs g .len) := by
  refine callR_imp call_len fun vs H Q q => ?_
  obtain ⟨x, rfl⟩ := rsU (f := lenS) (fun _ => rfl) q
  obtain ⟨F, a, d, T1, le, r1, e, fin⟩ := rs1 q
  rw [h.K]
  cases a <;> try (cases e; done)
  case str s =>
    have e' : (if szOk s.length then some (D.int s.length) else none) = some d := e
    split at e'
    · cases e'
      refine ⟨x, s.length, rfl, ?_, fin.pure le rfl⟩
      rw [show x = _ from r1]
      exact ⟨of_decide_eq_true (by assumption), rfl⟩
    · cases e'
  case tup ds =>
    cases e
    obtain ⟨p, vs, rfl, h1, h2⟩ := rep_tup r1 le
    exact ⟨_, ds.length, rfl, .inr ⟨vs, h1, h2.length.symm⟩, fin.pure le rfl⟩
  case lst f ds =>
    cases e
    obtain ⟨p, vs, T1, rfl, h1, h2, h3⟩ := rep_lst r1 le
    exact ⟨_, ds.length, rfl, .inl ⟨vs, h1, h2.length.symm⟩, fin.pure le rfl⟩

theorem cr_int (h : XOk g c X) : CallR X (.type "int") (rs g .int) := by
  refine callR_imp call_int1 fun vs H Q q => ?_
  obtain ⟨x, rfl⟩ := rsU (f := intS) (fun _ => rfl) q
  obtain ⟨F, a, d, T1, le, r1, e, fin⟩ := rs1 q
  cases a <;> try (cases e; done)
  case int i =>
    cases e
    exact .inl ⟨i, by rw [show x = _ from r1], fin.pure le rfl⟩
  case bl b =>
    cases e
    exact .inr ⟨b, by rw [show x = _ from r1], fin.pure le rfl⟩
theorem cr_repr (h : XOk g c X) : CallR X (.builtin "repr") (rs g .repr) := by
  intro pins s σ H xs us Q I r q
  obtain ⟨x, rfl⟩ := rsU (f := reprS) (fun _ => rfl) q
  obtain ⟨F, a, d, T1, le, r1, e, fin⟩ := rs1 q
  have e' : (if (depD 60 a && (toPy a).showable && szOk (toPy a).shown.length) = true then some (D.str (toPy a).shown) else none) = some d := e
  split at e'
  · rename_i hc
    cases e'
    simp only [Bool.and_eq_true] at hc
    obtain ⟨⟨c1, c2⟩, c3⟩ := hc
    obtain ⟨u, rfl, ru⟩ := Vals.one r
    have hz : (toPy a).shown.length ≤ sizeLine := of_decide_eq_true c3
    obtain ⟨hl, hdp⟩ := dep_lay c1
    have dp : Dp X.K H x (toPy a) := by rw [h.K]; exact r1.dp le (fun _ _ => rfl) c1
    obtain ⟨as, rd⟩ := Dp.reads I (toPy a) x u dp ru
    have hdd := PyData.noDict_hsm (as := as) (PyData.hasDict_of_canLay _ hl)
    have hu := h.un
    have fq : Q (.str (toPy a).shown) H := fin.pure le rfl
    clear fin e r1
    generalize toPy a = t at *
    have key : ∀ p, x = .ref p → wpAny (model X.prog X.w) X.A (call (.builtin "repr") [u]) (EP X pins σ Q) X.xe s := fun p hx => by
      subst hx
      obtain rfl : u = Value.ref p := ru
      exact repr_of_reads' rd c2 hdd h.gd (by omega) (fun _ _ e => e) (fun h' u tk hk => ⟨.str _, H, I.kept (t' := tk) hk, ⟨u, rfl⟩, fq⟩) hz
    cases dp with
    | non =>
      obtain rfl : u = Value.none := ru
      exact PySem.P.repr_of_none ⟨.str _, H, I.tok _, ⟨_, rfl⟩, fq⟩
    | bl b =>
      obtain rfl : u = Value.bool b := ru
      refine PySem.P.repr_of_bool ⟨.str _, H, I.tok _, ?_, fq⟩
      show RelV (.str (PyData.shown (.bool b))) _
      unfold PyData.shown
      cases b <;> exact ⟨_, rfl⟩
    | int i =>
      obtain ⟨t, rfl⟩ := ru
      exact PySem.P.repr_of_int (of_decide_eq_true c2) ⟨.str _, H, I.tok _, ⟨_, rfl⟩, fq⟩
    | str z =>
      obtain ⟨t, rfl⟩ := ru
      exact PySem.P.repr_of_str ⟨.str _, H, I.tok _, ⟨_, rfl⟩, fq⟩ hz
    | lst _ _ => exact key _ rfl
    | tup _ _ => exact key _ rfl
  · cases e'
theorem cr_abs (h : XOk g c X) : CallR X (.builtin "abs") (rs g .abs) := by
  refine callR_imp call_abs fun vs H Q q => ?_
  obtain ⟨x, rfl⟩ := rsU (f := int1 fun i => some (.int (if i < 0 then -i else i))) (fun _ => rfl) q
  obtain ⟨F, a, d, T1, le, r1, e, fin⟩ := rs1 q
  cases a <;> try (cases e; done)
  cases e
  exact ⟨_, by rw [show x = _ from r1], fin.pure le rfl⟩
theorem cr_min2 (h : XOk g c X) (hh : c.hot = false) : CallR X (.builtin "min") (rs g .min2) := by
  refine callR_imp (call_min2 (h.calm hh)) fun vs H Q q => ?_
  obtain ⟨x, y, rfl⟩ := rsB (f := int2 fun i j => some (.int (if j < i then j else i))) (fun _ => rfl) q
  obtain ⟨F, a, b, d, T1, T2, le, r1, r2, e, fin⟩ := rs2 q
  cases a <;> cases b <;> try (cases e; done)
  cases e
  exact ⟨_, _, by rw [show x = _ from r1, show y = _ from r2], fin.pure le rfl⟩
theorem cr_max2 (h : XOk g c X) (hh : c.hot = false) : CallR X (.builtin "max") (rs g .max2) := by
  refine callR_imp (call_max2 (h.calm hh)) fun vs H Q q => ?_
  obtain ⟨x, y, rfl⟩ := rsB (f := int2 fun i j => some (.int (if j > i then j else i))) (fun _ => rfl) q
  obtain ⟨F, a, b, d, T1, T2, le, r1, r2, e, fin⟩ := rs2 q
  cases a <;> cases b <;> try (cases e; done)
  cases e
  exact ⟨_, _, by rw [show x = _ from r1, show y = _ from r2], fin.pure le rfl⟩
theorem cr_sum' (h : XOk g c X) (hh : c.hot = false) : CallR X (.builtin "sum") (rs g .sum) := by
  refine callR_imp (cr_sum (h.calm hh)) fun vs H Q q => ?_
  obtain ⟨x, rfl⟩ := rsU (f := sumS) (fun _ => rfl) q
  obtain ⟨F, a, d, T1, le, r1, e, fin⟩ := rs1 q
  rw [h.K]
  cases a <;> try (cases e; done)
  case lst f ds =>
    obtain ⟨ns, e1, rfl⟩ := Option.map_eq_some_iff.mp (show (ints? ds).map (fun ns => D.int ns.sum) = some d from e)
    obtain ⟨p, vs, T1, rfl, h1, h2, h3⟩ := rep_lst r1 le
    cases h2.ints e1
    exact ⟨p, ns, rfl, h1, fin.pure le rfl⟩
theorem cr_list (h : XOk g c X) : CallR X (.type "list") (rs g .list) := by
  refine callR_imp call_list_of fun vs H Q q => ?_
  obtain ⟨x, rfl⟩ := rsU (f := listS) (fun _ => rfl) q
  obtain ⟨F, a, d, T1, le, r1, e, fin⟩ := rs1 q
  rw [h.K]
  cases a <;> try (cases e; done)
  case tup ds =>
    cases e
    obtain ⟨p, vs, rfl, h1, h2⟩ := rep_tup r1 le
    exact ⟨p, vs, rfl, .inr h1, fun l hl => fin.lst le h2 hl⟩
  case lst f ds =>
    have e' : (if pures ds = true then some (D.lst .own ds) else none) = some d := e
    split at e'
    · cases e'
      obtain ⟨p, vs, T1, rfl, h1, h2, h3⟩ := rep_lst r1 le
      exact ⟨p, vs, rfl, .inl h1, fun l hl => fin.lst le (h2.pures (by assumption)) hl⟩
    · cases e'
theorem cr_tuple (h : XOk g c X) : CallR X (.type "tuple") (rs g .tuple) := by
  refine callR_imp call_tuple_of fun vs H Q q => ?_
  obtain ⟨x, rfl⟩ := rsU (f := tupleS) (fun _ => rfl) q
  obtain ⟨F, a, d, T1, le, r1, e, fin⟩ := rs1 q
  rw [h.K]
  cases a <;> try (cases e; done)
  case tup ds =>
    cases e
    obtain ⟨p, vs, rfl, h1, h2⟩ := rep_tup r1 le
    exact ⟨p, vs, rfl, .inr ⟨h1, fin.pure le (r1.pure rfl)⟩⟩
  case lst f ds =>
    have e' : (if pures ds = true then some (D.tup ds) else none) = some d := e
    split at e'
    · cases e'
      obtain ⟨p, vs, T1, rfl, h1, h2, h3⟩ := rep_lst r1 le
      exact ⟨p, vs, rfl, .inl ⟨h1, fun l hl => fin.tup le (h2.pures (by assumption)) hl⟩⟩
    · cases e'
theorem cr_all' (h : XOk g c X) (hh : c.hot = false) : CallR X (.builtin "all") (rs g .all) := by
  refine callR_imp (cr_all (h.calm hh)) fun vs H Q q => ?_
  obtain ⟨x, rfl⟩ := rsU (f := allS) (fun _ => rfl) q
  obtain ⟨F, a, d, T1, le, r1, e, fin⟩ := rs1 q
  rw [h.K]
  cases a <;> try (cases e; done)
  case lst f ds =>
    obtain ⟨ns, e1, rfl⟩ := Option.map_eq_some_iff.mp (show (bools? ds).map (fun bs => D.bl (bs.all id)) = some d from e)
    obtain ⟨p, vs, T1, rfl, h1, h2, h3⟩ := rep_lst r1 le
    cases h2.bools e1
    exact ⟨p, ns, rfl, h1, fin.pure le rfl⟩
theorem cr_any' (h : XOk g c X) (hh : c.hot = false) : CallR X (.builtin "any") (rs g .any) := by
  refine callR_imp (cr_any (h.calm hh)) fun vs H Q q => ?_
  obtain ⟨x, rfl⟩ := rsU (f := anyS) (fun _ => rfl) q
  obtain ⟨F, a, d, T1, le, r1, e, fin⟩ := rs1 q
  rw [h.K]
  cases a <;> try (cases e; done)
  case lst f ds =>
    obtain ⟨ns, e1, rfl⟩ := Option.map_eq_some_iff.mp (show (bools? ds).map (fun bs => D.bl (bs.any id)) = some d from e)
    obtain ⟨p, vs, T1, rfl, h1, h2, h3⟩ := rep_lst r1 le
    cases h2.bools e1
    exact ⟨p, ns, rfl, h1, fin.pure le rfl⟩
theorem ixR_item (h : XOk g c X) : IxR X (fun x y => rs g .item [x, y]) := by
  refine ixR_imp ix_seq fun x y H Q q => ?_
  obtain ⟨F, a, b, d, T1, T2, le, r1, r2, e, fin⟩ := rs2 q
  rw [h.K]
  cases a <;> cases b <;> try (cases e; done)
  case str.int z k =>
    have e' : (if szOk z.length = true then (atI z.cps.toList k).map fun c => D.str ⟨#[c]⟩ else none) = some d := e
    split at e'
    · obtain ⟨c, e1, rfl⟩ := Option.map_eq_some_iff.mp e'
      exact .inr (.inr ⟨z, k, c, r1, r2, of_decide_eq_true (by assumption), e1, fin.pure le rfl⟩)
    · cases e'
  case tup.int ds k =>
    obtain ⟨p, vs, rfl, h1, h2⟩ := rep_tup r1 le
    obtain ⟨j, e1, e2⟩ := Option.bind_eq_some_iff.mp (show (ixN ds.length k).bind (fun j => ds[j]?) = some d from e)
    obtain ⟨u, T3, g1, g2, g3, _⟩ := h2.at e2
    exact .inr (.inl ⟨p, vs, k, u, rfl, r2, h1, by show (ixN vs.length k).bind _ = _; rw [h2.length, e1]; exact g1, fin.pure le (g3.up (Le.refl _) (fun _ _ => rfl) g2)⟩)
  case lst.int f ds k =>
    obtain ⟨p, vs, T4, rfl, h1, h2, h3⟩ := rep_lst r1 le
    obtain ⟨d', e0, e⟩ := Option.bind_eq_some_iff.mp (show (atI ds k).bind (fun d => if pureD d = true then some d else none) = some d from e)
    obtain ⟨j, e1, e2⟩ := Option.bind_eq_some_iff.mp (show (ixN ds.length k).bind (fun j => ds[j]?) = some d' from e0)
    obtain ⟨u, T3, g1, g2, g3, _⟩ := h2.at e2
    split at e
    · cases e
      exact .inl ⟨p, vs, k, u, rfl, r2, h1, by show (ixN vs.length k).bind _ = _; rw [h2.length, e1]; exact g1, fin.pure le (g3.pure (by assumption))⟩
    · cases e

theorem tyX_of {F H : Hp} {a : D} {x : V} {T : Ad} {n : String} (le : Le F H) (r : Rep g.K g.CA F H a x T) (hn : typeD a = some n) : TyX g.K H x (.type n) := by
  cases a with
  | non => cases hn; rw [show x = _ from r]; exact .base .non
  | bl b => cases hn; rw [show x = _ from r]; exact .base (.bl b)
  | int b => cases hn; rw [show x = _ from r]; exact .base (.int b)
  | str b => cases hn; rw [show x = _ from r]; exact .base (.str b)
  | tup ds =>
    cases hn
    obtain ⟨p, vs, rfl, h1, h2⟩ := rep_tup r le
    rcases h1 with (h1 | ⟨o, h1⟩) | ⟨o, its, k, e, c1, _⟩
    · exact .base (.tup h1)
    · exact .fTuple h1
    · exact .kTuple e c1
  | lst f ds =>
    cases hn
    obtain ⟨p, vs, T1, rfl, h1, h2, h3⟩ := rep_lst r le
    rcases h1 with (h1 | ⟨o, h1⟩) | ⟨o, its, k, e, c1, _⟩
    · exact .base (.lst h1)
    · exact .base (.frz h1)
    · exact .kList e c1
  | ins _ _ _ _ => cases hn
/-- isinstance(x, T) -/
theorem cr_isTy (h : XOk g c X) {T : String} : CallR X (.builtin "isinstance") (fun vs H Q => ∃ x, vs = [x, .ty T] ∧ rs g (.isTy T) [x] H Q) := by
  refine callR_imp call_isi fun vs H Q q => ?_
  obtain ⟨x, rfl, q⟩ := q
  obtain ⟨F, a, d, T1, le, r1, e, fin⟩ := rs1 q
  obtain ⟨n, e1, e2⟩ := Option.bind_eq_some_iff.mp (show (typeD a).bind (fun a => (kitB a T).map .bl) = some d from e)
  obtain ⟨b, e3, rfl⟩ := Option.map_eq_some_iff.mp e2
  rw [h.K]
  exact ⟨x, .ty T, .type n, .type T, b, rfl, .ty T, tyX_of le r1 e1, kit_ty e3, fin.pure le rfl⟩
theorem slR_of (h : XOk g c X) : SlR X (fun x l u H Q => ∃ F a d T, Le F H ∧ Rep g.K g.CA F H a x T ∧ sliceS l u a = some d ∧ Fin g.K g.CA F H d Q) := by
  refine slR_imp (SlR.or sl_tupA sl_list) fun x l u H Q q => ?_
  obtain ⟨F, a, d, T, le, r1, e, fin⟩ := q
  rw [h.K]
  have cutR : ∀ {ds : List D} {vs : List V}, RepL g.K g.CA F F ds vs noAd → RepL g.K g.CA F F (cut ds l u) (cutV vs l u) noAd := fun {ds vs} r => by
    unfold cut cutV
    rw [r.length]
    have dr : ∀ (n : Nat) {ds : List D} {vs : List V}, RepL g.K g.CA F F ds vs noAd → RepL g.K g.CA F F (ds.drop n) (vs.drop n) noAd := fun n => by
      induction n with
      | zero => exact fun r => r
      | succ n ih =>
        intro ds vs r
        cases ds with
        | nil => rw [show vs = _ from r]; exact rfl
        | cons d ds =>
          obtain ⟨v, r', T1, T2, rfl, h2, h3, h4, h5, h6⟩ := r
          exact ih (h6.up (Le.refl _) (fun _ _ => rfl) h3)
    have tk : ∀ (n : Nat) {ds : List D} {vs : List V}, RepL g.K g.CA F F ds vs noAd → RepL g.K g.CA F F (ds.take n) (vs.take n) noAd := fun n => by
      induction n with
      | zero => exact fun r => rfl
      | succ n ih =>
        intro ds vs r
        cases ds with
        | nil => rw [show vs = _ from r]; exact rfl
        | cons d ds =>
          obtain ⟨v, r', T1, T2, rfl, h2, h3, h4, h5, h6⟩ := r
          exact ⟨v, r'.take n, noAd, noAd, rfl, fun _ z => z, fun _ z => z, fun _ z _ => z, h5.up (Le.refl _) (fun _ _ => rfl) h2, ih (h6.up (Le.refl _) (fun _ _ => rfl) h3)⟩
    exact tk _ (dr _ r)
  cases a <;> try (cases e; done)
  case tup ds =>
    cases e
    obtain ⟨p, vs, rfl, h1, h2⟩ := rep_tup r1 le
    refine .inl ⟨p, vs, rfl, h1, fun hw => ?_, fun hw p hp => fin.tup le (cutR h2) hp⟩
    have : cut ds l u = ds := by
      unfold cut
      rw [← h2.length, hw.1, hw.2, h2.length]
      simp
    rw [this] at fin
    exact fin.pure le (r1.pure rfl)
  case lst f ds =>
    have e' : (if pures ds = true then some (D.lst .own (cut ds l u)) else none) = some d := e
    split at e'
    · cases e'
      obtain ⟨p, vs, T1, rfl, h1, h2, h3⟩ := rep_lst r1 le
      exact .inr ⟨p, vs, rfl, h1, fun p hp => fin.lst le (cutR (h2.pures (by assumption))) hp⟩
    · cases e'
end
end Z

/-! Z7: the rule of all operations. -/
namespace Z
open PySem L2 PySem.Spec PyProof.Rows
section
variable {g : G} {c : Cxt} {X : Cx}
theorem pes_two {a b : Expr} {ts : List TE} (p : PEs X [a, b] ts) : ∃ ta tb, ts = [ta, tb] ∧ PE X a ta ∧ PE X b tb ∧ Mono ta ∧ Mono tb := by
  cases p with
  | cons h1 m1 p =>
    cases p with
    | cons h2 m2 p =>
      cases p
      exact ⟨_, _, rfl, h1, h2, m1, m2⟩
theorem pes_one {a : Expr} {ts : List TE} (p : PEs X [a] ts) : ∃ ta, ts = [ta] ∧ PE X a ta ∧ Mono ta := by
  cases p with
  | cons h1 m1 p =>
    cases p
    exact ⟨_, rfl, h1, m1⟩
theorem pes_three {a b d : Expr} {ts : List TE} (p : PEs X [a, b, d] ts) : ∃ ta tb td, ts = [ta, tb, td] ∧ PE X a ta ∧ PE X b tb ∧ PE X d td ∧ Mono ta ∧ Mono tb ∧ Mono td := by
  cases p with
  | cons h1 m1 p =>
    cases p with
    | cons h2 m2 p =>
      cases p with
      | cons h3 m3 p =>
        cases p
        exact ⟨_, _, _, rfl, h1, h2, h3, m1, m2, m3⟩
theorem bin_ok {op : Pr} {o : Operator} {a b : Expr} {pos : Pos} {ts : List TE} (h : OpR X (binaryOp o) (fun x y => rs g op [x, y])) (p : PEs X [a, b] ts) : PE X (.BinOp a o b pos) (tCh ts (rs g op)) := by
  obtain ⟨ta, tb, rfl, h1, h2, _, _⟩ := pes_two p
  exact pe_op h h1 h2
theorem cmp_ok {op : Pr} {o : CmpOp} {a b : Expr} {pos : Pos} {ts : List TE} (h : OpR X (compareOp o) (fun x y => rs g op [x, y])) (p : PEs X [a, b] ts) (hm : behindInMarks o b = false) : PE X (.Compare a [o] [b] pos) (tCh ts (rs g op)) := by
  obtain ⟨ta, tb, rfl, h1, h2, _, _⟩ := pes_two p
  exact pe_cmpR h h1 h2 hm
theorem callB_ok {op : Pr} {id : String} {x : Str} {a : Expr} {as : List Expr} {p pos : Pos} {ts : List TE} (h : XOk g c X) (r : CallR X (.builtin id) (rs g op)) (hv : bootBuiltins x = some (.builtin id)) (hg : glB c x = true) (hb : g.blt.contains x = true)
    (q : PEs X (a :: as) ts) (hs : (a :: as).all noStar = true) (hn : x ≠ "__name__") (hd : (x == ("__debug__" : Str)) = false) : PE X (.Call (.Name x p) (a :: as) [] pos) (tCh ts (rs g op)) := by
  rw [List.all_cons, Bool.and_eq_true] at hs
  have k := pe_callB (p := p) (pos := pos) r (h.gl hg) (h.no hb) hv (pa_of q (by rw [List.all_cons, hs.1, hs.2]; rfl)) hn hd (star_cons hs.1) (star_any hs.2)
  exact pe_is k fun σ H Q z => by
    show tArgs ts σ H fun vs H1 => rs g op vs H1 Q
    rw [tArgs_tCh]
    exact z
theorem callT_ok {op : Pr} {T : String} {x : Str} {a : Expr} {as : List Expr} {p pos : Pos} {ts : List TE} (h : XOk g c X) (r : CallR X (.type T) (rs g op)) (hv : bootBuiltins x = some (.type T)) (hg : glB c x = true) (hb : g.blt.contains x = true)
    (q : PEs X (a :: as) ts) (hs : (a :: as).all noStar = true) (hn : x ≠ "__name__") (hd : (x == ("__debug__" : Str)) = false) : PE X (.Call (.Name x p) (a :: as) [] pos) (tCh ts (rs g op)) := by
  rw [List.all_cons, Bool.and_eq_true] at hs
  have k := pe_callTy (p := p) (pos := pos) r (h.gl hg) (h.no hb) hv (pa_of q (by rw [List.all_cons, hs.1, hs.2]; rfl)) hn hd (star_cons hs.1) (star_any hs.2)
  exact pe_is k fun σ H Q z => by
    show tArgs ts σ H fun vs H1 => rs g op vs H1 Q
    rw [tArgs_tCh]
    exact z
theorem blt_ok {op : Pr} {x : Str} {a : Expr} {as : List Expr} {p pos : Pos} {ts : List TE} (h : XOk g c X) (e : bltOf op = some (x, as.length + 1)) (hg : glB c x = true) (hb : g.blt.contains x = true)
    (q : PEs X (a :: as) ts) (hs : (a :: as).all noStar = true) (hh : (calmOp op && c.hot) = false) : PE X (.Call (.Name x p) (a :: as) [] pos) (tCh ts (rs g op)) := by
  cases op <;> try (cases e; done)
  case len => obtain ⟨rfl, -⟩ := Prod.mk.inj (Option.some.inj e); exact callB_ok h (cr_len h) PySem.boot_len hg hb q hs (by decide +kernel) (by decide +kernel)
  case int => obtain ⟨rfl, -⟩ := Prod.mk.inj (Option.some.inj e); exact callT_ok h (cr_int h) PyProof.Rows.boot_int hg hb q hs (by decide +kernel) (by decide +kernel)
  case repr => obtain ⟨rfl, -⟩ := Prod.mk.inj (Option.some.inj e); exact callB_ok h (cr_repr h) PyProof.Rows.boot_repr hg hb q hs (by decide +kernel) (by decide +kernel)
  case abs => obtain ⟨rfl, -⟩ := Prod.mk.inj (Option.some.inj e); exact callB_ok h (cr_abs h) (by decide +kernel) hg hb q hs (by decide +kernel) (by decide +kernel)
  case min2 => obtain ⟨rfl, -⟩ := Prod.mk.inj (Option.some.inj e); exact callB_ok h (cr_min2 h hh) (by decide +kernel) hg hb q hs (by decide +kernel) (by decide +kernel)
  case max2 => obtain ⟨rfl, -⟩ := Prod.mk.inj (Option.some.inj e); exact callB_ok h (cr_max2 h hh) (by decide +kernel) hg hb q hs (by decide +kernel) (by decide +kernel)
  case sum => obtain ⟨rfl, -⟩ := Prod.mk.inj (Option.some.inj e); exact callB_ok h (cr_sum' h hh) (by decide +kernel) hg hb q hs (by decide +kernel) (by decide +kernel)
  case list => obtain ⟨rfl, -⟩ := Prod.mk.inj (Option.some.inj e); exact callT_ok h (cr_list h) PyProof.Rows.boot_list hg hb q hs (by decide +kernel) (by decide +kernel)
  case tuple => obtain ⟨rfl, -⟩ := Prod.mk.inj (Option.some.inj e); exact callT_ok h (cr_tuple h) PyProof.Rows.boot_tuple hg hb q hs (by decide +kernel) (by decide +kernel)
  case all => obtain ⟨rfl, -⟩ := Prod.mk.inj (Option.some.inj e); exact callB_ok h (cr_all' h hh) (by decide +kernel) hg hb q hs (by decide +kernel) (by decide +kernel)
  case any => obtain ⟨rfl, -⟩ := Prod.mk.inj (Option.some.inj e); exact callB_ok h (cr_any' h hh) (by decide +kernel) hg hb q hs (by decide +kernel) (by decide +kernel)
theorem tyNames_boot {T : String} (h : tyNames.contains T = true) : bootBuiltins (Str.ofString T) = some (.type T) ∧ Str.ofString T ≠ "__name__" ∧ (Str.ofString T == ("__debug__" : Str)) = false := by
  have : T ∈ tyNames := by simpa using h
  simp only [tyNames, List.mem_cons, List.not_mem_nil, or_false] at this
  rcases this with rfl | rfl | rfl | rfl | rfl
  all_goals exact ⟨by decide +kernel, by decide +kernel, by decide +kernel⟩
theorem plainIx {b : Expr} (h : isSlice b = false) : PlainIx b := by
  intro o i
  cases b <;> first | rfl | cases h

theorem pe_slice2 {r : V → Option Int → Option Int → Hp → VK → Prop} {e l u : Expr} {te tl tu : TE} {pos p2 : Pos} (hr : SlR X r) (he : PE X e te) (hl : PE X l tl) (hu : PE X u tu) :
    PE X (.Subscript e (.Slice (some l) (some u) none p2) pos) (fun σ H Q => te σ H fun x H1 => tl σ H1 fun y H2 => tu σ H2 fun z H3 => ∃ i j, y = .int i ∧ z = .int j ∧ r x (some i) (some j) H3 Q) := by
  refine ⟨fun pins s σ H Q I h => ?_⟩
  refine Subscript_ (thn (he.run pins s σ H _ I h) fun v s1 ⟨x, H1, I1, r1, q1⟩ => ?_)
  refine wpAny_Slice ?_
  rw [evalPart_some]
  refine thn (hl.run pins s1 σ H1 _ I1 q1) fun vl s2 ⟨y, H2, I2, ry, q2⟩ => ?_
  rw [evalPart_some]
  refine thn (hu.run pins s2 σ H2 _ I2 q2) fun vu s3 ⟨z, H3, I3, rz, q3⟩ => ?_
  obtain ⟨i, j, rfl, rfl, q3⟩ := q3
  obtain ⟨t1, rfl⟩ := ry
  obtain ⟨t2, rfl⟩ := rz
  rw [evalPart_none]
  refine wpAny_pure ?_
  have I4 : Inv X pins σ H3 { s3 with heap := s3.heap.push { cls := .type "slice", data := .fields #[.int i t1, .int j t2, .none] } } := I3.kept (t' := s3.toks) fun b ob q => Heap.get?_push_of_some _ q
  obtain ⟨T, id, hT, ht, hg⟩ := hr pins { s3 with heap := s3.heap.push { cls := .type "slice", data := .fields #[.int i t1, .int j t2, .none] } } σ H3 x v _ _ (some i) (some j) s3.heap.objs.size Q I4 r1 (Heap.IsSliceOf.new ..) (.int i t1) (.int j t2) q3
  show wpAny (model X.prog X.w) X.A (subscriptTail e (.Slice (some l) (some u) none p2) v (.ref s3.heap.objs.size)) (EP X pins σ Q) X.xe { s3 with heap := s3.heap.push { cls := .type "slice", data := .fields #[.int i t1, .int j t2, .none] } }
  exact tail_any (ops := [.ref s3.heap.objs.size, v]) ht hT hg (by with_unfolding_all rfl)
theorem prim_ok {op : Pr} {e : Expr} {es : List Expr} {ts : List TE} (h : XOk g c X) (ck : prCk c g.blt op e = some es) (p : PEs X es ts) : PE X e (tCh ts (rs g op)) := by
  unfold prCk at ck
  split at ck
  · split at ck
    · rename_i hb
      cases ck
      cases op <;> try (cases hb; done)
      case add => cases hb; exact bin_ok (opR_add h) p
      case sub => cases hb; exact bin_ok (opR_sub h) p
      case mul => cases hb; exact bin_ok (opR_mul h) p
      case fdiv => cases hb; exact bin_ok (opR_fdiv h) p
      case mod => cases hb; exact bin_ok (opR_mod h) p
      case pow => cases hb; exact bin_ok (opR_pow h) p
    · cases ck
  · cases ck
    obtain ⟨ta, rfl, h1, m1⟩ := pes_one p
    refine pe_is (pe_un un_neg h1) fun σ H Q z => m1 σ H _ _ (fun v H' q => ?_) z
    obtain ⟨F, a, d, T1, le, r1, e, fin⟩ := rs1 q
    cases a <;> try (cases e; done)
    cases e
    exact ⟨_, r1, fin.pure le rfl⟩
  · cases ck
    obtain ⟨ta, rfl, h1, m1⟩ := pes_one p
    refine pe_is (pe_cmp (pc_isN h1) rfl) fun σ H Q z => m1 σ H _ _ (fun v H' q => ?_) z
    obtain ⟨F, a, d, T1, le, r1, e, fin⟩ := rs1 q
    cases e
    rw [← no_iff r1]
    exact fin.pure le rfl
  · cases ck
    obtain ⟨ta, rfl, h1, m1⟩ := pes_one p
    refine pe_is (pe_cmp (pc_notN h1) rfl) fun σ H Q z => m1 σ H _ _ (fun v H' q => ?_) z
    obtain ⟨F, a, d, T1, le, r1, e, fin⟩ := rs1 q
    cases e
    rw [← no_iff r1]
    exact fin.pure le rfl
  · split at ck
    · rename_i hb
      obtain ⟨hb, hm⟩ := hb
      cases ck
      cases op <;> try (cases hb; done)
      case eq => cases hb; exact cmp_ok (opR_eq h) p hm
      case ne => cases hb; exact cmp_ok (opR_ne h) p hm
      case lt => cases hb; exact cmp_ok (opR_lt h) p hm
      case le => cases hb; exact cmp_ok (opR_le h) p hm
      case gt => cases hb; exact cmp_ok (opR_gt h) p hm
      case ge => cases hb; exact cmp_ok (opR_ge h) p hm
    · cases ck
  · split at ck
    · rename_i hb
      obtain ⟨rfl, rfl, h3, h4, h5, h6, h7, h8⟩ := hb
      cases ck
      obtain ⟨ta, rfl, h1, m1⟩ := pes_one p
      obtain ⟨b1, b2, b3⟩ := tyNames_boot h3
      refine pe_is (pe_callB (cr_isTy h) (h.gl h4) (h.no h6) (by decide +kernel) (pa_cons h1 (pa_cons (pe_bltn (v := .ty _) (h.gl h5) (h.no h7) b1 rfl b2 b3) pa_nil) (star_cons h8)) (by decide +kernel) (by decide +kernel) (star_cons h8) (star_any (by rfl))) fun σ H Q z => m1 σ H _ _ (fun v H' q => ⟨v, rfl, q⟩) z
    · cases ck
  · split at ck
    · rename_i hb
      obtain ⟨h1, h2, h3, h4, h5⟩ := hb
      cases ck
      exact blt_ok h h1 h2 h3 p h4 h5
    · cases ck
  · split at ck
    · rename_i hb
      cases ck
      obtain ⟨ta, tb, rfl, h1, h2, _, _⟩ := pes_two p
      exact pe_ix (ixR_item h) h1 h2 (plainIx hb)
    · cases ck
  · cases ck
    obtain ⟨ta, rfl, h1, m1⟩ := pes_one p
    refine pe_is (pe_slice (slR_of h) h1 po_none po_none) fun σ H Q z => m1 σ H _ _ (fun v H' q => ?_) z
    obtain ⟨F, a, d, T1, le, r1, e, fin⟩ := rs1 q
    exact ⟨F, a, d, T1, le, r1, e, fin⟩
  · cases ck
    obtain ⟨ta, tb, rfl, h1, h2, m1, m2⟩ := pes_two p
    refine pe_is (pe_slice (slR_of h) h1 (po_some h2) po_none) fun σ H Q z => m1 σ H _ _ (fun v H' q => m2 σ H' _ _ (fun u H2 q => ?_) q) z
    obtain ⟨F, a, b, d, T1, T2, le, r1, r2, e, fin⟩ := rs2 q
    cases b <;> try (cases e; done)
    case int i => exact ⟨i, r2, F, a, d, T1, le, r1, e, fin⟩
  · cases ck
    obtain ⟨ta, tb, rfl, h1, h2, m1, m2⟩ := pes_two p
    refine pe_is (pe_slice (slR_of h) h1 po_none (po_some h2)) fun σ H Q z => m1 σ H _ _ (fun v H' q => m2 σ H' _ _ (fun u H2 q => ?_) q) z
    obtain ⟨F, a, b, d, T1, T2, le, r1, r2, e, fin⟩ := rs2 q
    cases b <;> try (cases e; done)
    case int i => exact ⟨i, r2, F, a, d, T1, le, r1, e, fin⟩
  · cases ck
    obtain ⟨ta, tb, td, rfl, h1, h2, h3, m1, m2, m3⟩ := pes_three p
    refine pe_is (pe_slice2 (slR_of h) h1 h2 h3) fun σ H Q z => m1 σ H _ _ (fun v H' q => m2 σ H' _ _ (fun u H2 q => m3 σ H2 _ _ (fun w H3 q => ?_) q) q) z
    obtain ⟨F, a, b, e1, d, T1, T2, T3, le, r1, r2, r3, e, fin⟩ := rs3 q
    cases b <;> cases e1 <;> try (cases e; done)
    case int.int k j => exact ⟨k, j, r2, r3, F, a, d, T1, le, r1, e, fin⟩
  · cases ck
    obtain ⟨ta, rfl, h1, m1⟩ := pes_one p
    refine pe_is (pe_revL h1) fun σ H Q z => m1 σ H _ _ (fun v H' q => ?_) z
    obtain ⟨F, a, d, T1, le, r1, e, fin⟩ := rs1 q
    rw [h.K]
    cases a <;> try (cases e; done)
    case lst f ds =>
      have e' : (if pures ds = true then some (D.lst .own ds.reverse) else none) = some d := e
      split at e'
      · rename_i hp
        cases e'
        obtain ⟨p, vs, T1, rfl, h1, h2, h3⟩ := rep_lst r1 le
        refine ⟨p, vs, rfl, h1, fun l hl => fin.lst le ?_ hl⟩
        have h4 := h2.pures hp
        clear hp fin r1 m1 h1 h2 h3 e
        induction ds generalizing vs with
        | nil => rw [show vs = _ from h4]; exact rfl
        | cons d ds ih =>
          obtain ⟨v, r', T1, T2, rfl, h2, h3, _, h5, h6⟩ := h4
          rw [List.reverse_cons, List.reverse_cons]
          exact (ih _ (h6.up (Le.refl _) (fun _ _ => rfl) h3)).append ⟨v, [], noAd, noAd, rfl, fun _ z => z, fun _ z => z, fun _ z _ => z, h5.up (Le.refl _) (fun _ _ => rfl) h2, rfl⟩
      · cases e'
  · cases ck
end
end Z

/-! Z8: the evaluator. -/
namespace Z
open PySem L2

def tmps : List Itm → Option (List D)
  | [] => some []
  | .tmp d :: r => (tmps r).map (d :: ·)
  | .ref _ _ :: _ => none
def roots : List Itm → List Nat
  | [] => []
  | .tmp _ :: r => roots r
  | .ref i _ :: r => i :: roots r
def nodupB : List Nat → Bool
  | [] => true
  | a :: r => !r.contains a && nodupB r
def R.ne {α : Type} : R α → R α
  | .exc _ _ _ _ => .stuck
  | r => r
def writeBack : Env → List Itm → List D → Option Env
  | env, [], [] => some env
  | env, .tmp _ :: is, _ :: os => writeBack env is os
  | env, .ref i as :: is, o :: os => match look env (.ref i as) with
    | some d => if pureD d then writeBack env is os else (setE env i as o).bind fun env => writeBack env is os
    | none => none
  | _, _, _ => none
def doCall (cf : Nat → List D → CR) (f : Nat) (its : List Itm) (env : Env) : R Itm :=
  if nodupB (roots its) then
    match looks env its with
    | none => .stuck
    | some ds => match cf f ds with
      | .stuck => .stuck
      | .ok d outs => match writeBack env its outs with
        | some env' => .ok (.tmp d) env'
        | none => .stuck
      | .exc c ks fs outs => match writeBack env its outs with
        | some env' => .exc c ks fs env'
        | none => .stuck
  else .stuck
/-- an object is made: its first argument is the new one -/
def doNew (cf : Nat → List D → CR) (c f : Nat) (its : List Itm) (env : Env) : R Itm :=
  if nodupB (roots its) then
    match looks env its with
    | none => .stuck
    | some ds => match cf f (.ins .own c [] [] :: ds) with
      | .stuck => .stuck
      | .ok d (o :: outs) => match writeBack env its outs with
        | some env' => if isNo d then .ok (.tmp o) env' else .stuck
        | none => .stuck
      | .ok _ [] => .stuck
      | .exc c ks fs (o :: outs) => match writeBack env its outs with
        | some env' => .exc c ks fs env'
        | none => .stuck
      | .exc _ _ _ [] => .stuck
  else .stuck
def setS (env : Env) (i : Nat) (d : D) : Option Env := if i < env.length then some (env.set i (some d)) else none
mutual
def bindT : Tg → D → Env → Option Env
  | .nm i, d, env => setS env i d
  | .tup ts, .tup ds, env => bindTs ts ds env
  | .tup _, _, _ => none
def bindTs : TgL → List D → Env → Option Env
  | .nil, [], env => some env
  | .cons t r, d :: ds, env => (bindT t d env).bind fun env => bindTs r ds env
  | _, _, _ => none
end
def clr : List Nat → Env → Env
  | [], env => env
  | i :: r, env => (clr r env).set i none
/-- the slots of own as they were in env0 -/
def rest : List Nat → Env → Env → Env
  | [], _, env => env
  | i :: r, env0, env => (rest r env0 env).set i (slot env0 i)
def isLst : Option D → Bool
  | some (.lst _ _) => true
  | _ => false
def isInsOf (c : Nat) (m : Str) : Option D → Bool
  | some (.ins _ c' ks _) => decide (c' = c) && !ks.contains m
  | _ => false
def mtS : Mt → D → List D → Option (D × D)
  | .append, .lst .own ds, [d] => if szLt ds.length then some (.non, .lst .own (ds ++ [d])) else none
  | .pop, .lst .own ds, [] => (ds[ds.length - 1]?).map fun d => (d, .lst .own ds.dropLast)
  | .popAt, .lst .own ds, [.int k] => if k.natAbs < 2 ^ 63 then (ixN ds.length k).bind fun j => (ds[j]?).map fun d => (d, .lst .own (ds.eraseIdx j)) else none
  | .reverse, .lst .own ds, [] => some (.non, .lst .own ds.reverse)
  | .clear, .lst .own ds, [] => some (.non, .lst .own [])
  | _, _, _ => none
def enumD : Nat → List D → List D
  | _, [] => []
  | i, d :: ds => .tup [.int i, d] :: enumD (i + 1) ds
def zipD : List D → List D → List D
  | a :: as, b :: bs => .tup [a, b] :: zipD as bs
  | _, _ => []
/-- a list that is walked: its items -/
def srcL (env : Env) : Itm → Option (List D)
  | .tmp (.lst .own ds) => some (frzDs ds)
  | .tmp (.lst _ ds) => some ds
  | .tmp _ => none
  | .ref i as => (look env (.ref i as)).bind fun d => match d with
    | .lst _ ds => if pures ds then some ds else none
    | _ => none
def srcT : Itm → Option (List D)
  | .tmp (.tup ds) => some ds
  | _ => none
def rangeD (lo : Int) (n : Nat) (c : Int) : List D := (List.range n).map fun i => .int (lo + (i : Nat) * c)
def rngN (i j c : Int) : Nat := if 0 < c then ((j - i + c - 1) / c).toNat else ((i - j + (-c) - 1) / (-c)).toNat
def bd (i : Int) : Bool := decide (i.natAbs < 2 ^ 62)

def lcGo (el : Env → R Itm) (ts : Env → R Bool) (tg : Tg) (own : List Nat) : List D → List D → Env → R (List D)
  | [], acc, env => .ok acc env
  | x :: xs, acc, env => match bindT tg x (clr own env) with
    | none => .stuck
    | some env1 => match ts env1 with
      | .ok true env2 => match el env2 with
        | .ok (.tmp d) env3 => if szLt acc.length then lcGo el ts tg own xs (acc ++ [d]) env3 else .stuck
        | _ => .stuck
      | .ok false env2 => lcGo el ts tg own xs acc env2
      | _ => .stuck

/-- what a suite may ask of its exception -/
def xN : Nat := 1000000
def cfx (cf : Nat → List D → CR) (c : Nat) (ks : List Str) (fs : List D) : Nat → List D → CR := fun n ds =>
  if n = xN then match ds with
    | [.str f] => match (fdIx ks f).bind fun j => fs[j]? with
      | some d => .ok d []
      | none => .stuck
    | [] => .ok (.int (c : Nat)) []
    | _ => .stuck
  else cf n ds
def rootP : P → Nat
  | .v i => i
  | .fd p _ _ => rootP p
  | .ix p _ => rootP p
mutual
def evP (cf : Nat → List D → CR) : P → Env → R (List Acc)
  | .v i, env => match slot env i with
    | some _ => .ok [] env
    | none => .stuck
  | .fd p c f, env => (evP cf p env).bind fun ia env => match look env (.ref (rootP p) ia) with
    | some (.ins _ c' ks ds) => if c' = c ∧ ((fdIx ks f).bind fun j => ds[j]?).isSome = true then .ok (ia ++ [.fd f]) env else .stuck
    | _ => .stuck
  | .ix p e, env => (evP cf p env).bind fun ia env => (evE cf e env).bind fun it env => match look env (.ref (rootP p) ia), it with
    | some (.lst _ ds), .tmp (.int k) => match ixN ds.length k with
      | some j => .ok (ia ++ [.ix j]) env
      | none => .stuck
    | some (.tup ds), .tmp (.int k) => match ixN ds.length k with
      | some j => .ok (ia ++ [.ix j]) env
      | none => .stuck
    | _, _ => .stuck
def evE (cf : Nat → List D → CR) : E → Env → R Itm
  | .c d, env => .ok (.tmp d) env
  | .g _ d, env => .ok (.tmp d) env
  | .rd p, env => (evP cf p env).bind fun ia env => match look env (.ref (rootP p) ia) with
    | some d => if pureD d then .ok (.tmp d) env else .stuck
    | none => .stuck
  | .fz p, env => (evP cf p env).bind fun ia env => match look env (.ref (rootP p) ia) with
    | some d => if pureD d then .ok (.tmp d) env else match setE env (rootP p) ia (frzD d) with
      | some env' => .ok (.tmp (frzD d)) env'
      | none => .stuck
    | none => .stuck
  | .mv i, env => match slot env i with
    | some d => .ok (.tmp d) (env.set i none)
    | none => .stuck
  | .pk p, env => (evP cf p env).bind fun ia env => .ok (.ref (rootP p) ia) env
  | .pr op as, env => (evA cf as env).bind fun its env => match (looks env its).bind (prS op) with
    | some d => .ok (.tmp d) env
    | none => .stuck
  | .lst as, env => (evA cf as env).bind fun its env => match tmps its with
    | some ds => if szOk ds.length then .ok (.tmp (.lst .own ds)) env else .stuck
    | none => .stuck
  | .tup as, env => (evA cf as env).bind fun its env => match tmps its with
    | some ds => if szOk ds.length then .ok (.tmp (.tup (frzDs ds))) env else .stuck
    | none => .stuck
  | .cond t a b, env => (evT cf t env).bind fun c env => (if c then evE cf a env else evE cf b env).bind fun it env => match it with
    | .tmp d => .ok (.tmp d) env
    | _ => .stuck
  | .andV a b, env => (evE cf a env).bind fun it env => match it with
    | .tmp (.bl true) => (evE cf b env).bind fun it env => match it with
      | .tmp (.bl b) => .ok (.tmp (.bl b)) env
      | _ => .stuck
    | .tmp (.bl false) => .ok (.tmp (.bl false)) env
    | _ => .stuck
  | .orV a b, env => (evE cf a env).bind fun it env => match it with
    | .tmp (.bl false) => (evE cf b env).bind fun it env => match it with
      | .tmp (.bl b) => .ok (.tmp (.bl b)) env
      | _ => .stuck
    | .tmp (.bl true) => .ok (.tmp (.bl true)) env
    | _ => .stuck
  | .notV a, env => (evE cf a env).bind fun it env => match it with
    | .tmp (.bl b) => .ok (.tmp (.bl (!b))) env
    | _ => .stuck
  | .chn op op2 a b c, env => (evE cf a env).bind fun ia env => (evE cf b env).bind fun ib env => match ia, ib with
    | .tmp da, .tmp db => match prS op [da, db] with
      | some (.bl true) => (evE cf c env).bind fun ic env => match ic with
        | .tmp dc => match prS op2 [db, dc] with
          | some (.bl k) => .ok (.tmp (.bl k)) env
          | _ => .stuck
        | _ => .stuck
      | some (.bl false) => .ok (.tmp (.bl false)) env
      | _ => .stuck
    | _, _ => .stuck
  | .mt op p as, env => (evP cf p env).bind fun ia env => if isLst (look env (.ref (rootP p) ia)) = false then .stuck else (evA cf as env).bind fun its env => match (look env (.ref (rootP p) ia)).bind fun d => (tmps its).bind fun ds => mtS op d ds with
    | some (r, d') => match setE env (rootP p) ia d' with
      | some env' => .ok (.tmp r) env'
      | none => .stuck
    | none => .stuck
  | .call f as, env => (evA cf as env).bind fun its env => doCall cf f its env
  | .meth c f m r as, env => (evE cf r env).bind fun it env => if isInsOf c m (look env it) = false then .stuck else (evA cf as env).bind fun its env => doCall cf f (it :: its) env
  | .new c f as, env => (evA cf as env).bind fun its env => doNew cf c f its env
  | .lc own elt tg it t, env => match (evI cf it env).ne with
    | .ok xs env1 => match lcGo (fun env => evE cf elt env) (fun env => evT cf t env) tg own xs [] env1 with
      | .ok acc env2 => .ok (.tmp (.lst .own acc)) (rest own env1 env2)
      | _ => .stuck
    | _ => .stuck
  | .xf _ f, env => match cf xN [.str f] with
    | .ok d _ => .ok (.tmp d) env
    | _ => .stuck
  | .xis _ _ yes no, env => match cf xN [] with
    | .ok (.int c) _ => if yes.contains c.toNat then .ok (.tmp (.bl true)) env else if no.contains c.toNat then .ok (.tmp (.bl false)) env else .stuck
    | _ => .stuck
  | .ded, env => .stuck
  | .frz e, env => (evE cf e env).bind fun it env => match it with
    | .tmp d => .ok (.tmp (frzD d)) env
    | _ => .stuck
def evA (cf : Nat → List D → CR) : A → Env → R (List Itm)
  | .nil, env => .ok [] env
  | .cons e r, env => (evE cf e env).bind fun it env => (evA cf r env).bind fun its env => .ok (it :: its) env
def evT (cf : Nat → List D → CR) : T → Env → R Bool
  | .yes, env => .ok true env
  | .val e, env => (evE cf e env).bind fun it env => match it with
    | .tmp (.bl b) => .ok b env
    | _ => .stuck
  | .and a b, env => (evT cf a env).bind fun c env => if c then evT cf b env else .ok false env
  | .or a b, env => (evT cf a env).bind fun c env => if c then .ok true env else evT cf b env
  | .not a, env => (evT cf a env).bind fun c env => .ok (!c) env
def evI (cf : Nat → List D → CR) : I → Env → R (List D)
  | .lst e, env => (evE cf e env).bind fun it env => match srcL env it with
    | some xs => .ok xs env
    | none => .stuck
  | .tup e, env => (evE cf e env).bind fun it env => match srcT it with
    | some xs => .ok xs env
    | none => .stuck
  | .str e, env => (evE cf e env).bind fun it env => match it with
    | .tmp (.str s) => .ok (s.cps.toList.map fun c => .str ⟨#[c]⟩) env
    | _ => .stuck
  | .rng1 a, env => (evE cf a env).bind fun it env => match it with
    | .tmp (.int n) => if bd n then .ok (rangeD 0 n.toNat 1) env else .stuck
    | _ => .stuck
  | .rng2 a b, env => (evE cf a env).bind fun it env => (evE cf b env).bind fun it2 env => match it, it2 with
    | .tmp (.int i), .tmp (.int j) => if bd i && bd j then .ok (rangeD i (j - i).toNat 1) env else .stuck
    | _, _ => .stuck
  | .rngD a b d, env => (evE cf a env).bind fun it env => (evE cf b env).bind fun it2 env => (evE cf d env).bind fun it3 env => match it, it2, it3 with
    | .tmp (.int i), .tmp (.int j), .tmp (.int c) => if bd i && bd j && decide (c = -1) then .ok (rangeD i (i - j).toNat (-1)) env else .stuck
    | _, _, _ => .stuck
  | .enm e, env => (evE cf e env).bind fun it env => match srcL env it with
    | some xs => .ok (enumD 0 xs) env
    | none => .stuck
  | .zip a b, env => (evE cf a env).bind fun it env => (evE cf b env).bind fun it2 env => match srcL env it, srcL env it2 with
    | some xs, some ys => .ok (zipD xs ys) env
    | _, _ => .stuck
  | .zipT a b, env => (evE cf a env).bind fun it env => (evE cf b env).bind fun it2 env => match srcT it, srcT it2 with
    | some xs, some ys => .ok (zipD xs ys) env
    | _, _ => .stuck
end

/-- how a statement ends -/
inductive Fw where
  | nx | bk | ct | rt (d : D)
/-- the most turns of a while -/
def wMost : Nat := 1000000000000
def whlGo (t : Env → R Bool) (b : Env → R Fw) : Nat → Env → R Fw
  | 0, _ => .stuck
  | n + 1, env => (t env).bind fun c env => if c then (b env).bind fun f env => match f with
      | .nx => whlGo t b n env
      | .ct => whlGo t b n env
      | .bk => .ok .nx env
      | .rt d => .ok (.rt d) env
    else .ok .nx env
def forGo (tg : Tg) (b : Env → R Fw) : List D → Env → R Fw
  | [], env => .ok .nx env
  | x :: xs, env => match bindT tg x env with
    | none => .stuck
    | some env1 => (b env1).bind fun f env => match f with
      | .nx => forGo tg b xs env
      | .ct => forGo tg b xs env
      | .bk => .ok .nx env
      | .rt d => .ok (.rt d) env
/-- a field's store -/
def putF' (c0 : Nat) (d : D) (f : Str) (x : D) : Option D := match d with
  | .ins .own c ks ds => if c ≠ c0 ∨ ¬ ks.length < 1000 then none else match fdIx ks f with
    | some j => some (.ins .own c ks (ds.set j x))
    | none => some (.ins .own c (ks ++ [f]) (ds ++ [x]))
  | _ => none
/-- an in-place operation upon ints -/
def augS : Pr → D → D → Option D
  | .add, .int i, .int j => some (.int (i + j))
  | .sub, .int i, .int j => some (.int (i - j))
  | _, _, _ => none
/-- what a store at a path makes: the container's path, the container as it is then -/
def stoS (d : D) (k : D) (x : D) : Option D := match d, k with
  | .lst .own ds, .int k => (ixN ds.length k).map fun j => .lst .own (ds.set j x)
  | _, _ => none

mutual
def evS (cf : Nat → List D → CR) : S → Env → R Fw
  | .asg tg e, env => (evE cf e env).bind fun it env => match it with
    | .tmp d => match bindT tg d env with
      | some env' => .ok .nx env'
      | none => .stuck
    | _ => .stuck
  | .par i j a b, env => (evE cf a env).bind fun it env => (evE cf b env).bind fun it2 env => match it, it2 with
    | .tmp d, .tmp e => match (setS env i d).bind fun env => setS env j e with
      | some env' => .ok .nx env'
      | none => .stuck
    | _, _ => .stuck
  | .stoI p k e, env => (evE cf e env).bind fun it env => (evP cf p env).bind fun ia env => (evE cf k env).bind fun ik env => match it, ik with
    | .tmp x, .tmp kd => match (look env (.ref (rootP p) ia)).bind fun d => stoS d kd x with
      | some d' => match setE env (rootP p) ia d' with
        | some env' => .ok .nx env'
        | none => .stuck
      | none => .stuck
    | _, _ => .stuck
  | .stoF p c f e, env => (evE cf e env).bind fun it env => (evP cf p env).bind fun ia env => match it with
    | .tmp x => match (look env (.ref (rootP p) ia)).bind fun d => putF' c d f x with
      | some d' => match setE env (rootP p) ia d' with
        | some env' => .ok .nx env'
        | none => .stuck
      | none => .stuck
    | _ => .stuck
  | .aug i op e, env => match slot env i with
    | some d0 => (evE cf e env).bind fun it env => match it with
      | .tmp d1 => match (augS op d0 d1).bind fun d => setS env i d with
        | some env' => .ok .nx env'
        | none => .stuck
      | _ => .stuck
    | none => .stuck
  | .augI p k op e, env => (evP cf p env).bind fun ia env => (evE cf k env).bind fun ik env => match look env (.ref (rootP p) ia), ik with
    | some (.lst .own ds), .tmp (.int k) => match (ixN ds.length k).bind fun j => ds[j]? with
      | some d0 => (evE cf e env).bind fun it env => match it with
        | .tmp d1 => match augS op d0 d1 with
          | some d => match (stoS (.lst .own ds) (.int k) d).bind fun d' => setE env (rootP p) ia d' with
            | some env' => .ok .nx env'
            | none => .stuck
          | none => .stuck
        | _ => .stuck
      | none => .stuck
    | _, _ => .stuck
  | .augF p c f op e, env => (evP cf p env).bind fun ia env => match look env (.ref (rootP p) ia) with
    | some (.ins .own c' ks ds) => if c' ≠ c then .stuck else match (fdIx ks f).bind fun j => ds[j]? with
      | some d0 => (evE cf e env).bind fun it env => match it with
        | .tmp d1 => match augS op d0 d1 with
          | some d => match (putF' c (.ins .own c' ks ds) f d).bind fun d' => setE env (rootP p) ia d' with
            | some env' => .ok .nx env'
            | none => .stuck
          | none => .stuck
        | _ => .stuck
      | none => .stuck
    | _ => .stuck
  | .exp e, env => (evE cf e env).bind fun _ env => .ok .nx env
  | .iff t a b, env => (evT cf t env).bind fun c env => if c then evB cf a env else evB cf b env
  | .for tg it b, env => (evI cf it env).bind fun xs env => forGo tg (fun env => evB cf b env) xs env
  | .whl t b, env => whlGo (fun env => evT cf t env) (fun env => evB cf b env) wMost env
  | .ret e, env => (evE cf e env).bind fun it env => match it with
    | .tmp d => .ok (.rt d) env
    | _ => .stuck
  | .retN, env => .ok (.rt .non) env
  | .rse _ c ks as, env => (evA cf as env).bind fun its env => match tmps its with
    | some ds => if ks.length = ds.length then .exc c ks.reverse (frzDs ds).reverse env else .stuck
    | none => .stuck
  | .brk, env => .ok .bk env
  | .cnt, env => .ok .ct env
  | .pas, env => .ok .nx env
  | .try_ b h, env => match evB cf b env with
    | .exc c ks fs env' => evH cf h c ks fs env'
    | r => r
  | .ded, env => .stuck
def evB (cf : Nat → List D → CR) : B → Env → R Fw
  | .nil, env => .ok .nx env
  | .cons s r, env => (evS cf s env).bind fun f env => match f with
    | .nx => evB cf r env
    | f => .ok f env
def evH (cf : Nat → List D → CR) : HL → Nat → List Str → List D → Env → R Fw
  | .nil, c, ks, fs, env => .exc c ks fs env
  | .cons _ yes no i b r, c, ks, fs, env => if yes.contains c && i.toList.all (fun j => decide (j < env.length)) then match evB (cfx cf c ks fs) b (clr i.toList env) with
      | .ok f env' => .ok f (clr i.toList env')
      | _ => .stuck
    else if no.contains c then evH cf r c ks fs env else .stuck
end

/-- a def: its parameters, its slots, its body; the parameters that it never stores to -/
structure Fn where
  np : Nat
  ns : Nat
  keep : List Bool
  body : B
def outS : List Bool → List D → Env → Option (List D)
  | [], [], _ => some []
  | k :: ks, d :: ds, env => match env with
    | [] => none
    | x :: env => (if k then x else if pureD d then some d else none).bind fun o => (outS ks ds env).map (o :: ·)
  | _, _, _ => none
def run (ft : Nat → Option Fn) : Nat → Nat → List D → CR
  | 0, _, _ => .stuck
  | n + 1, f, ds => match ft f with
    | none => .stuck
    | some fn => if ds.length = fn.np then
        match evB (run ft n) fn.body (ds.map some ++ List.replicate (fn.ns - fn.np) none) with
        | .ok (.rt d) env => match outS fn.keep ds env with
          | some os => .ok d os
          | none => .stuck
        | .ok .nx env => match outS fn.keep ds env with
          | some os => .ok .non os
          | none => .stuck
        | .exc c ks fs env => match outS fn.keep ds env with
          | some os => .exc c ks fs os
          | none => .stuck
        | _ => .stuck
      else .stuck
end Z

/-! Z9: worlds: the frozen part, the heap, who owns what, the slots' values. -/
namespace Z
open PySem L2

structure Wd where
  F : Hp
  H : Hp
  S : Nat → Ad
  env : Env
/-- the exception in hand stands in its slot, its fields in its dict -/
def XAt (K : PySem.W.Frag) (CA : Cls) (σ : L2.St) (F : Hp) (x : Exn) : Prop :=
  (∀ i, x.i = some i → σ[i]? = some (some (.ref x.a))) ∧ ((x.ks = [] ∧ x.fs = [] ∧ x.d = none) ∨ ∃ dd vs, x.d = some dd ∧ F dd = some (.xd (x.ks.zip vs)) ∧ RepL K CA F F x.fs vs noAd ∧ x.ks.length = x.fs.length)
theorem XAt.up {K : PySem.W.Frag} {CA : Cls} {σ σ' : L2.St} {F F' : Hp} {x : Exn} (h : XAt K CA σ F x) (le : Le F F') (k : ∀ i, x.i = some i → σ'[i]? = σ[i]?) : XAt K CA σ' F' x :=
  ⟨fun i e => (k i e).trans (h.1 i e), h.2.imp id fun ⟨dd, vs, h1, h2, h3, h4⟩ => ⟨dd, vs, h1, le _ _ h2, h3.up le (fun _ z => z.elim) (fun _ z => z), h4⟩⟩
def Xs (K : PySem.W.Frag) (CA : Cls) (σ : L2.St) (F : Hp) : Prop := ∀ x, CA.ex = some x → XAt K CA σ F x
theorem Xs.up {K : PySem.W.Frag} {CA : Cls} {σ : L2.St} {F F' : Hp} (h : Xs K CA σ F) (le : Le F F') : Xs K CA σ F' := fun x e => (h x e).up le fun _ _ => rfl
/-- the slot is not the exception's name -/
def Nx (CA : Cls) (i : Nat) : Prop := ∀ x, CA.ex = some x → x.i ≠ some i
theorem Xs.set {K : PySem.W.Frag} {CA : Cls} {σ : L2.St} {F : Hp} {i : Nat} {o : Option V} (h : Xs K CA σ F) (n : Nx CA i) : Xs K CA (σ.set i o) F := fun x e =>
  (h x e).up (Le.refl F) fun j hj => List.getElem?_set_ne fun z => n x e (by rw [hj, z])
theorem nx_cold {CA : Cls} (h : CA.ex = none) (i : Nat) : Nx CA i := fun x e => by rw [h] at e; cases e
theorem Xs.cold {K : PySem.W.Frag} {CA : Cls} {σ : L2.St} {F : Hp} (h : CA.ex = none) : Xs K CA σ F := fun x e => by rw [h] at e; cases e
structure Own (K : PySem.W.Frag) (CA : Cls) (σ : L2.St) (w : Wd) : Prop where
  le : Le w.F w.H
  rep : ∀ i d, slot w.env i = some d → ∃ v, σ[i]? = some (some v) ∧ Rep K CA w.F w.H d v (w.S i)
  trk : ∀ i a, w.S i a → w.H a ≠ none ∧ w.F a = none
  dis : ∀ i j a, i ≠ j → w.S i a → w.S j a → False
  len : w.env.length = σ.length
  xs : Xs K CA σ w.F
def Zone (mu : List Nat) (w : Wd) : Ad := fun a => (∃ j, j ∈ mu ∧ w.S j a) ∨ w.H a = none
structure Grow (mu : List Nat) (w w' : Wd) : Prop where
  fle : Le w.F w'.F
  keep : ∀ a, w.H a ≠ none → (∀ i, i ∈ mu → ¬ w.S i a) → w'.H a = w.H a
  oth : ∀ i, i ∉ mu → w'.S i = w.S i
  env : ∀ i, i ∉ mu → slot w'.env i = slot w.env i
  len : w'.env.length = w.env.length
  new : ∀ i a, w'.S i a → w.S i a ∨ Zone mu w a
  newF : ∀ a, w'.F a ≠ none → w.F a ≠ none ∨ Zone mu w a

theorem Grow.refl (mu : List Nat) (w : Wd) : Grow mu w w :=
  ⟨Le.refl _, fun _ _ _ => rfl, fun _ _ => rfl, fun _ _ => rfl, rfl, fun _ _ z => .inl z, fun _ z => .inl z⟩
theorem Grow.mono {mu mu' : List Nat} {w w' : Wd} (h : Grow mu w w') (m : ∀ i, i ∈ mu → i ∈ mu') : Grow mu' w w' where
  fle := h.fle
  keep := fun a n k => h.keep a n fun i hi => k i (m i hi)
  oth := fun i n => h.oth i fun z => n (m i z)
  env := fun i n => h.env i fun z => n (m i z)
  len := h.len
  new := fun i a z => (h.new i a z).imp id fun q => q.imp (fun ⟨j, h1, h2⟩ => ⟨j, m j h1, h2⟩) id
  newF := fun a z => (h.newF a z).imp id fun q => q.imp (fun ⟨j, h1, h2⟩ => ⟨j, m j h1, h2⟩) id
theorem Grow.zone {mu : List Nat} {w w' : Wd} (h : Grow mu w w') {a : Addr} (z : Zone mu w' a) : Zone mu w a := by
  rcases z with ⟨j, h1, h2⟩ | z
  · rcases h.new j a h2 with q | q
    · exact .inl ⟨j, h1, q⟩
    · exact q
  · by_cases hn : w.H a = none
    · exact .inr hn
    · by_cases hx : ∃ i, i ∈ mu ∧ w.S i a
      · exact .inl hx
      · exact absurd ((h.keep a hn fun i hi hs => hx ⟨i, hi, hs⟩).symm.trans z) hn
theorem Grow.trans {mu : List Nat} {w w1 w2 : Wd} (a : Grow mu w w1) (b : Grow mu w1 w2) : Grow mu w w2 where
  fle := a.fle.trans b.fle
  keep := fun x n k => by
    have h1 := a.keep x n k
    refine (b.keep x (by rw [h1]; exact n) fun i hi hs => ?_).trans h1
    rcases a.new i x hs with q | ⟨j, h1, h2⟩ | q
    · exact k i hi q
    · exact k j h1 h2
    · exact n q
  oth := fun i n => (b.oth i n).trans (a.oth i n)
  env := fun i n => (b.env i n).trans (a.env i n)
  len := b.len.trans a.len
  new := fun i x z => by
    rcases b.new i x z with q | q
    · exact a.new i x q
    · exact .inr (a.zone q)
  newF := fun x z => by
    rcases b.newF x z with q | q
    · exact a.newF x q
    · exact .inr (a.zone q)
/-- the end of a first part, a second part's -/
theorem Grow.seq {mu mu1 mu2 : List Nat} {w w1 w2 : Wd} (a : Grow mu1 w w1) (b : Grow mu2 w1 w2) (m1 : ∀ i, i ∈ mu1 → i ∈ mu) (m2 : ∀ i, i ∈ mu2 → i ∈ mu) : Grow mu w w2 :=
  (a.mono m1).trans (b.mono m2)
theorem Zone.mono {mu mu' : List Nat} {w : Wd} {a : Addr} (z : Zone mu w a) (m : ∀ i, i ∈ mu → i ∈ mu') : Zone mu' w a :=
  z.imp (fun ⟨j, h1, h2⟩ => ⟨j, m j h1, h2⟩) id
theorem Grow.zone2 {mu mu1 mu2 : List Nat} {w w' : Wd} (h : Grow mu1 w w') {a : Addr} (z : Zone mu2 w' a) (m1 : ∀ i, i ∈ mu1 → i ∈ mu) (m2 : ∀ i, i ∈ mu2 → i ∈ mu) : Zone mu w a :=
  (h.mono m1).zone (z.mono m2)

/-- a cell that is nobody's: it stays as it is -/
def Tmp (w : Wd) (T : Ad) : Prop := ∀ a, T a → w.H a ≠ none ∧ w.F a = none ∧ ∀ i, ¬ w.S i a
theorem Tmp.keep {mu : List Nat} {w w' : Wd} {T : Ad} (t : Tmp w T) (g : Grow mu w w') : (∀ a, T a → w'.H a = w.H a) ∧ Tmp w' T := by
  have k : ∀ a, T a → w'.H a = w.H a := fun a ha => g.keep a (t a ha).1 fun i _ => (t a ha).2.2 i
  have nz : ∀ a, T a → ¬ Zone mu w a := fun a ha z => by
    rcases z with ⟨j, _, h2⟩ | z
    · exact (t a ha).2.2 j h2
    · exact (t a ha).1 z
  refine ⟨k, fun a ha => ⟨by rw [k a ha]; exact (t a ha).1, ?_, fun i hs => ?_⟩⟩
  · by_cases q : w'.F a = none
    · exact q
    · rcases g.newF a q with q | q
      · exact absurd (t a ha).2.1 q
      · exact absurd q (nz a ha)
  · rcases g.new i a hs with q | q
    · exact (t a ha).2.2 i q
    · exact nz a ha q
theorem Tmp.none {w : Wd} : Tmp w noAd := fun _ z => z.elim

section
variable {K : PySem.W.Frag} {CA : Cls}
/-- an item's value -/
def ItR (K : PySem.W.Frag) (CA : Cls) (σ : L2.St) (w : Wd) (it : Itm) (v : V) (T : Ad) : Prop := match it with
  | .tmp d => Rep K CA w.F w.H d v T ∧ Tmp w T
  | .ref i [] => σ[i]? = some (some v) ∧ T = noAd
  | .ref i as => T = noAd ∧ ∃ x u d T', slot w.env i = some x ∧ σ[i]? = some (some u) ∧ Plc K CA w.F w.H x u (w.S i) as d v T'
/-- a place as it stands -/
theorem Plc.up {F F' H H' : Hp} {x : D} {v : V} {T : Ad} {as : List Acc} {d : D} {u : V} {T' : Ad} (p : Plc K CA F H x v T as d u T') (e : Le F F') (k : ∀ a, T a → H' a = H a) : Plc K CA F' H' x v T as d u T' where
  get := p.get
  sub := p.sub
  rep := p.rep.up e (fun a z => k a (p.sub a z)) fun _ z => z
  put := fun F2 H2 d' T2 x' e2 k2 m r s => p.put F2 H2 d' T2 x' (e.trans e2) (fun a z1 z2 => (k2 a z1 z2).trans (k a z1)) m r s
/-- an item, behind a further step -/
theorem ItR.step {σ : L2.St} {mu : List Nat} {w w' : Wd} {it : Itm} {v : V} {T : Ad} (h : ItR K CA σ w it v T) (o : Own K CA σ w) (g : Grow mu w w') (hr : ∀ i a as, it = .ref i (a :: as) → i ∉ mu) : ItR K CA σ w' it v T := by
  match it, h, hr with
  | .tmp d, h, _ =>
    obtain ⟨h1, h2⟩ := h
    obtain ⟨k, t⟩ := h2.keep g
    exact ⟨h1.up g.fle k fun _ z => z, t⟩
  | .ref i [], h, _ => exact h
  | .ref i (a :: as), h, hr =>
    obtain ⟨h1, x, u, d, T', h2, h3, h4⟩ := h
    have hi := hr i a as rfl
    refine ⟨h1, x, u, d, T', (g.env i hi).trans h2, h3, ?_⟩
    rw [g.oth i hi]
    exact h4.up g.fle fun b hb => g.keep b (o.trk i b hb).1 fun j hj hs => o.dis i j b (fun e => hi (e ▸ hj)) hb hs
/-- the place of a reference -/
theorem ItR.plc {σ : L2.St} {w : Wd} {i : Nat} {as : List Acc} {v : V} {T : Ad} {d : D} (h : ItR K CA σ w (.ref i as) v T) (o : Own K CA σ w) (hl : look w.env (.ref i as) = some d) :
    ∃ x u T', slot w.env i = some x ∧ σ[i]? = some (some u) ∧ Plc K CA w.F w.H x u (w.S i) as d v T' := by
  obtain ⟨x, hx, hg⟩ := Option.bind_eq_some_iff.mp (show (slot w.env i).bind (fun x => getP x as) = some d from hl)
  cases as with
  | nil =>
    cases hg
    obtain ⟨u, h1, h2⟩ := o.rep i d hx
    have e : σ[i]? = some (some v) := h.1
    rw [h1] at e
    cases e
    exact ⟨d, _, w.S i, hx, h1, Plc.nil h2⟩
  | cons a as =>
    obtain ⟨h1, x', u, d', T', h2, h3, h4⟩ := h
    rw [hx] at h2
    cases h2
    have := h4.get
    rw [hg] at this
    cases this
    exact ⟨x, u, T', hx, h3, h4⟩
/-- a looked-up item's value -/
theorem ItR.rep {σ : L2.St} {w : Wd} {it : Itm} {v : V} {T : Ad} {d : D} (h : ItR K CA σ w it v T) (o : Own K CA σ w) (hl : look w.env it = some d) : ∃ T', Rep K CA w.F w.H d v T' := by
  cases it with
  | tmp e =>
    cases hl
    exact ⟨T, h.1⟩
  | ref i as =>
    obtain ⟨x, u, T', h1, h2, h3⟩ := h.plc o hl
    exact ⟨T', h3.rep⟩

/-- the answer of a step -/
def ExcAt (K : PySem.W.Frag) (CA : Cls) (Z : Ad) (w : Wd) (ks : List Str) (fs : List D) (dx : Option Addr) : Prop :=
  (ks = [] ∧ fs = [] ∧ dx = none) ∨ ∃ a vs, dx = some a ∧ w.H a = some (.xd (ks.zip vs)) ∧ RepL K CA w.F w.F fs vs noAd ∧ ks.length = fs.length ∧ Tmp w (fun b => b = a) ∧ Z a
theorem ExcAt.mono {Z Z' : Ad} {w : Wd} {ks : List Str} {fs : List D} {dx : Option Addr} (h : ExcAt K CA Z w ks fs dx) (m : ∀ a, Z a → Z' a) : ExcAt K CA Z' w ks fs dx :=
  h.imp id fun ⟨a, vs, h1, h2, h3, h4, h5, h6⟩ => ⟨a, vs, h1, h2, h3, h4, h5, m a h6⟩
def Res {α : Type} (K : PySem.W.Frag) (CA : Cls) (W : WX) (σ : L2.St) (mu : List Nat) (w : Wd) (r : R α) (Q : α → Wd → Prop) : Prop := match r with
  | .ok a env' => ∀ w', w'.env = env' → Own K CA σ w' → Grow mu w w' → Q a w'
  | .exc c ks fs env' => ∀ w' dx, w'.env = env' → Own K CA σ w' → Grow mu w w' → ExcAt K CA (Zone mu w) w' ks fs dx → W (.ref (CA c)) dx σ w'.H
  | .stuck => False
theorem Res.mono {α : Type} {W : WX} {σ : L2.St} {mu mu' : List Nat} {w : Wd} {r : R α} {Q Q' : α → Wd → Prop} (h : Res K CA W σ mu w r Q) (k : ∀ a w', r = .ok a w'.env → Own K CA σ w' → Grow mu' w w' → Q a w' → Q' a w') (m : ∀ i, i ∈ mu' → i ∈ mu) : Res K CA W σ mu' w r Q' := by
  cases r with
  | ok a env => exact fun w' e o g => k a w' (by rw [e]) o g (h w' e o (g.mono m))
  | exc c ks fs env => exact fun w' dx e o g x => h w' dx e o (g.mono m) (x.mono fun _ z => z.mono m)
  | stuck => exact h
theorem Res.bind {α β : Type} {W : WX} {σ : L2.St} {mu mu1 mu2 : List Nat} {w : Wd} {r : R α} {k : α → Env → R β} {Q : β → Wd → Prop} (h : Res K CA W σ mu w (r.bind k) Q) (m1 : ∀ i, i ∈ mu1 → i ∈ mu) (m2 : ∀ i, i ∈ mu2 → i ∈ mu) :
    Res K CA W σ mu1 w r fun a w1 => Res K CA W σ mu2 w1 (k a w1.env) fun b w2 => Q b w2 := by
  cases r with
  | ok a env =>
    intro w1 e o1 g1
    have h' : Res K CA W σ mu w (k a env) Q := h
    subst e
    cases hk : k a w1.env with
    | ok b env2 =>
      rw [hk] at h'
      exact fun w2 e o2 g2 => h' w2 e o2 (g1.seq g2 m1 m2)
    | exc c ks fs env2 =>
      rw [hk] at h'
      exact fun w2 dx e o2 g2 x => h' w2 dx e o2 (g1.seq g2 m1 m2) (x.mono fun _ z => g1.zone2 z m1 m2)
    | stuck =>
      rw [hk] at h'
      exact h'
  | exc c ks fs env => exact fun w' dx e o g x => h w' dx e o (g.mono m1) (x.mono fun _ z => z.mono m1)
  | stuck => exact h
/-- the same, from where it began -/
theorem Res.bind' {α β : Type} {W : WX} {σ : L2.St} {mu mu1 : List Nat} {w : Wd} {r : R α} {k : α → Env → R β} {Q : β → Wd → Prop} (h : Res K CA W σ mu w (r.bind k) Q) (m1 : ∀ i, i ∈ mu1 → i ∈ mu) :
    Res K CA W σ mu1 w r fun a w1 => Res K CA W σ mu w (k a w1.env) Q := by
  cases r with
  | ok a env =>
    intro w1 e o1 g1
    have h' : Res K CA W σ mu w (k a env) Q := h
    subst e
    exact h'
  | exc c ks fs env => exact fun w' dx e o g x => h w' dx e o (g.mono m1) (x.mono fun _ z => z.mono m1)
  | stuck => exact h
/-- an answer that is there -/
theorem Res.ok {α : Type} {W : WX} {σ : L2.St} {mu : List Nat} {w : Wd} {a : α} {Q : α → Wd → Prop} (h : Res K CA W σ mu w (.ok a w.env) Q) (o : Own K CA σ w) : Q a w := h w rfl o (Grow.refl mu w)

/-- the reading of an expression by its evaluator -/
def tI (K : PySem.W.Frag) (CA : Cls) (W : WX) (mu : List Nat) (f : Env → R Itm) : TE := fun σ H Q =>
  ∃ w, w.H = H ∧ Own K CA σ w ∧ Res K CA W σ mu w (f w.env) fun it w' => ∀ v T, ItR K CA σ w' it v T → (∀ a, T a → Zone mu w a) → Q v w'.H
theorem tI_mono {W : WX} {mu : List Nat} {f : Env → R Itm} : Mono (tI K CA W mu f) := fun σ H Q Q' k h => by
  obtain ⟨w, h1, h2, h3⟩ := h
  exact ⟨w, h1, h2, h3.mono (fun a w' _ _ _ q v T x y => k v w'.H (q v T x y)) fun _ z => z⟩
end
end Z

/-! Z10: what one does to a world. -/
namespace Z
open PySem L2

theorem slot_set_ne {env : Env} {i j : Nat} {x : Option D} (h : i ≠ j) : slot (env.set j x) i = slot env i := by
  unfold slot
  rw [List.getElem?_set_ne (Ne.symm h)]
theorem slot_set_same {env : Env} {j : Nat} {x : Option D} (h : j < env.length) : slot (env.set j x) j = x := by
  unfold slot
  rw [List.getElem?_set_self h]
  rfl
theorem slot_lt {env : Env} {j : Nat} {x : D} (h : slot env j = some x) : j < env.length := by
  unfold slot at h
  cases e : env[j]? with
  | none => rw [e] at h; cases h
  | some y => exact (List.getElem?_eq_some_iff.mp e).1

section
variable {K : PySem.W.Frag} {CA : Cls} {σ : L2.St}
open Classical in
/-- the cells of T are frozen -/
noncomputable def frzF (F H : Hp) (T : Ad) : Hp := fun a => if T a then H a else F a
theorem frzF_le {F H : Hp} {T : Ad} (le : Le F H) (hT : ∀ a, T a → F a = none) : Le F (frzF F H T) := fun a o e => by
  unfold frzF
  by_cases h : T a
  · rw [hT a h] at e; cases e
  · rw [if_neg h]; exact e
theorem frzF_le2 {F H : Hp} {T : Ad} (le : Le F H) : Le (frzF F H T) H := fun a o e => by
  unfold frzF at e
  by_cases h : T a
  · rw [if_pos h] at e; exact e
  · rw [if_neg h] at e; exact le a o e
theorem frzF_in {F H : Hp} {T : Ad} {a : Addr} (h : T a) : frzF F H T a = H a := if_pos h
theorem frzF_out {F H : Hp} {T : Ad} {a : Addr} (h : ¬ T a) : frzF F H T a = F a := if_neg h

/-- the slot's tree is put anew -/
def putW (w : Wd) (i : Nat) (T' T2 : Ad) (F' H' : Hp) (env' : Env) : Wd := ⟨F', H', fun j => if j = i then (fun a => (w.S i a ∧ ¬ T' a) ∨ T2 a) else w.S j, env'⟩
theorem putW_same {w : Wd} {i : Nat} {T' T2 : Ad} {F' H' : Hp} {env' : Env} : (putW w i T' T2 F' H' env').S i = fun a => (w.S i a ∧ ¬ T' a) ∨ T2 a := if_pos rfl
theorem putW_ne {w : Wd} {i j : Nat} {T' T2 : Ad} {F' H' : Hp} {env' : Env} (h : j ≠ i) : (putW w i T' T2 F' H' env').S j = w.S j := if_neg h
theorem Own.put {w : Wd} (o : Own K CA σ w) {i : Nat} {x : D} {u : V} {as : List Acc} {d d' : D} {v : V} {T' : Ad} (hx : slot w.env i = some x) (hu : σ[i]? = some (some u)) (p : Plc K CA w.F w.H x u (w.S i) as d v T')
    {F' H' : Hp} {T2 : Ad} {env' : Env} (hs : setE w.env i as d' = some env') (fle : Le w.F F') (le : Le F' H') (keep : ∀ a, w.H a ≠ none → ¬ T' a → H' a = w.H a)
    (hT : ∀ a, T2 a → (T' a ∨ ∀ i, ¬ w.S i a) ∧ H' a ≠ none ∧ F' a = none) (newF : ∀ a, F' a ≠ none → w.F a ≠ none ∨ T' a ∨ ∀ i, ¬ w.S i a) (r : Rep K CA F' H' d' v T2) :
    Own K CA σ (putW w i T' T2 F' H' env') := by
  have hs' : ((slot w.env i).bind fun x => (setP x as d').bind fun x' => some (w.env.set i (some x'))) = some env' := hs
  rw [hx] at hs'
  obtain ⟨x', h1, h2⟩ := Option.bind_eq_some_iff.mp (show ((setP x as d').bind fun x' => some (w.env.set i (some x'))) = some env' from hs')
  cases h2
  have hi := slot_lt hx
  have nT2 : ∀ a, T2 a → ∀ j, j ≠ i → ¬ w.S j a := fun a z j hj hs => by
    rcases (hT a z).1 with q | q
    · exact o.dis j i a hj hs (p.sub a q)
    · exact q j hs
  have rep : Rep K CA F' H' x' u (fun a => (w.S i a ∧ ¬ T' a) ∨ T2 a) :=
    p.put F' H' d' T2 x' fle (fun a z1 z2 => keep a (o.trk i a z1).1 z2) (fun a z => (hT a z).1.imp id fun q => q i) r h1
  refine ⟨le, fun j e he => ?_, fun j a ha => ?_, fun j k a hjk h1 h2 => ?_, ?_, ?_⟩
  · by_cases hj : j = i
    · subst hj
      rw [show slot (putW w j T' T2 F' H' _).env j = some x' from slot_set_same hi] at he
      cases he
      refine ⟨u, hu, ?_⟩
      rw [putW_same]
      exact rep
    · rw [show slot (putW w i T' T2 F' H' (w.env.set i (some x'))).env j = slot w.env j from slot_set_ne hj] at he
      obtain ⟨v', g1, g2⟩ := o.rep j e he
      refine ⟨v', g1, ?_⟩
      rw [putW_ne hj]
      exact g2.up fle (fun a ha => keep a (o.trk j a ha).1 fun z => o.dis j i a hj ha (p.sub a z)) fun _ z => z
  · have old : w.S j a → ¬ T' a → H' a ≠ none ∧ F' a = none := fun z1 z2 => by
      refine ⟨by rw [keep a (o.trk j a z1).1 z2]; exact (o.trk j a z1).1, ?_⟩
      by_cases q : F' a = none
      · exact q
      · rcases newF a q with q | q | q
        · exact absurd (o.trk j a z1).2 q
        · exact absurd q z2
        · exact absurd z1 (q j)
    by_cases hj : j = i
    · subst hj
      rw [putW_same] at ha
      rcases ha with ⟨z1, z2⟩ | z
      · exact old z1 z2
      · exact (hT a z).2
    · rw [putW_ne hj] at ha
      exact old ha fun z => o.dis j i a hj ha (p.sub a z)
  · by_cases hj : j = i
    · subst hj
      have hk : k ≠ j := fun e => hjk e.symm
      rw [putW_same] at h1
      rw [putW_ne hk] at h2
      rcases h1 with ⟨z, _⟩ | z
      · exact o.dis j k a hjk z h2
      · exact nT2 a z k hk h2
    · rw [putW_ne hj] at h1
      by_cases hk : k = i
      · subst hk
        rw [putW_same] at h2
        rcases h2 with ⟨z, _⟩ | z
        · exact o.dis j k a hjk h1 z
        · exact nT2 a z j hj h1
      · rw [putW_ne hk] at h2
        exact o.dis j k a hjk h1 h2
  · show (w.env.set i (some x')).length = _
    rw [List.length_set]
    exact o.len
  · exact o.xs.up fle
/-- .. and how the world has grown -/
theorem Grow.put {w0 w : Wd} {m0 mu : List Nat} (g : Grow m0 w0 w) {i : Nat} {as : List Acc} {d' : D} {T' T2 : Ad} {F' H' : Hp} {env' : Env} (hs : setE w.env i as d' = some env') (s0 : ∀ j, j ∈ m0 → j ∈ mu) (hi : i ∈ mu) (sub : ∀ a, T' a → w.S i a)
    (fle : Le w.F F') (keep : ∀ a, w.H a ≠ none → ¬ T' a → H' a = w.H a) (hT : ∀ a, T2 a → T' a ∨ Zone mu w0 a) (newF : ∀ a, F' a ≠ none → w.F a ≠ none ∨ T' a ∨ Zone mu w0 a) : Grow mu w0 (putW w i T' T2 F' H' env') := by
  obtain ⟨x, h1, h⟩ := Option.bind_eq_some_iff.mp (show ((slot w.env i).bind fun x => (setP x as d').bind fun x' => some (w.env.set i (some x'))) = some env' from hs)
  obtain ⟨x', h2, h⟩ := Option.bind_eq_some_iff.mp h
  cases h
  have zT : ∀ a, T' a → Zone mu w0 a := fun a z => by
    rcases g.new i a (sub a z) with q | q
    · exact .inl ⟨i, hi, q⟩
    · exact q.mono s0
  refine ⟨g.fle.trans fle, fun a hn k => ?_, fun j hj => ?_, fun j hj => ?_, ?_, fun j a ha => ?_, fun a ha => ?_⟩
  · have e1 := g.keep a hn fun j hj => k j (s0 j hj)
    refine (keep a (by rw [e1]; exact hn) fun z => ?_).trans e1
    rcases zT a z with ⟨j, z1, z2⟩ | z
    · exact k j z1 z2
    · exact hn z
  · exact (putW_ne fun e => hj (by rw [e]; exact hi)).trans (g.oth j fun z => hj (s0 j z))
  · exact (slot_set_ne fun e => hj (by rw [e]; exact hi)).trans (g.env j fun z => hj (s0 j z))
  · exact List.length_set.trans g.len
  · by_cases hj : j = i
    · subst hj
      rw [putW_same] at ha
      rcases ha with ⟨z, _⟩ | z
      · exact (g.new j a z).imp id fun z => z.mono s0
      · exact .inr ((hT a z).elim (zT a) id)
    · rw [putW_ne hj] at ha
      exact (g.new j a ha).imp id fun z => z.mono s0
  · rcases newF a ha with z | z | z
    · exact (g.newF a z).imp id fun z => z.mono s0
    · exact .inr (zT a z)
    · exact .inr z

/-- the slots as they are, the heap grown -/
theorem Own.grow {w : Wd} (o : Own K CA σ w) {F' H' : Hp} (fle : Le w.F F') (le : Le F' H') (keep : ∀ a, w.H a ≠ none → (∃ i, w.S i a) → H' a = w.H a) (newF : ∀ a, F' a ≠ none → w.F a ≠ none ∨ ∀ i, ¬ w.S i a) : Own K CA σ ⟨F', H', w.S, w.env⟩ where
  le := le
  rep := fun i d hd => by
    obtain ⟨v, h1, h2⟩ := o.rep i d hd
    exact ⟨v, h1, h2.up fle (fun a ha => keep a (o.trk i a ha).1 ⟨i, ha⟩) fun _ z => z⟩
  trk := fun i a ha => ⟨by show H' a ≠ none; rw [keep a (o.trk i a ha).1 ⟨i, ha⟩]; exact (o.trk i a ha).1, by
    by_cases q : F' a = none
    · exact q
    · rcases newF a q with q | q
      · exact absurd (o.trk i a ha).2 q
      · exact absurd ha (q i)⟩
  dis := o.dis
  len := o.len
  xs := o.xs.up fle
/-- a slot is emptied -/
theorem Own.drop {w : Wd} (o : Own K CA σ w) (i : Nat) : Own K CA σ ⟨w.F, w.H, fun j => if j = i then noAd else w.S j, w.env.set i none⟩ ∧ Grow [i] w ⟨w.F, w.H, fun j => if j = i then noAd else w.S j, w.env.set i none⟩ := by
  have sub : ∀ j a, (if j = i then noAd else w.S j : Ad) a → j ≠ i ∧ w.S j a := fun j a ha => by
    by_cases hj : j = i
    · rw [if_pos hj] at ha; exact ha.elim
    · rw [if_neg hj] at ha; exact ⟨hj, ha⟩
  refine ⟨⟨o.le, fun j d hd => ?_, fun j a ha => o.trk j a (sub j a ha).2, fun j k a hjk h1 h2 => o.dis j k a hjk (sub j a h1).2 (sub k a h2).2, by rw [List.length_set]; exact o.len, o.xs⟩, ⟨Le.refl _, fun _ _ _ => rfl, fun j hj => if_neg fun e => hj (by rw [e]; exact List.mem_cons_self), fun j hj => slot_set_ne fun e => hj (by rw [e]; exact List.mem_cons_self), List.length_set, fun j a ha => .inl (sub j a ha).2, fun a ha => .inl ha⟩⟩
  by_cases hj : j = i
  · subst hj
    by_cases hl : j < w.env.length
    · rw [show slot (w.env.set j none) j = none from slot_set_same hl] at hd; cases hd
    · have : slot (w.env.set j none) j = none := by
        unfold slot
        rw [List.getElem?_eq_none (by rw [List.length_set]; omega)]
        rfl
      rw [this] at hd
      cases hd
  · rw [show slot (w.env.set i none) j = slot w.env j from slot_set_ne hj] at hd
    obtain ⟨v, h1, h2⟩ := o.rep j d hd
    refine ⟨v, h1, ?_⟩
    show Rep K CA w.F w.H d v (if j = i then noAd else w.S j)
    rw [if_neg hj]
    exact h2
/-- a value comes into a slot -/
theorem Own.store {w : Wd} (o : Own K CA σ w) {i : Nat} {d : D} {v : V} {T : Ad} {env' : Env} (hs : setS w.env i d = some env') (r : Rep K CA w.F w.H d v T) (t : Tmp w T) (nx : Nx CA i) :
    Own K CA (σ.set i (some v)) ⟨w.F, w.H, fun j => if j = i then T else w.S j, env'⟩ := by
  unfold setS at hs
  split at hs
  · rename_i hl
    cases hs
    refine ⟨o.le, fun j e he => ?_, fun j a ha => ?_, fun j k a hjk h1 h2 => ?_, by rw [List.length_set, List.length_set]; exact o.len, o.xs.set nx⟩
    · by_cases hj : j = i
      · subst hj
        rw [show slot (w.env.set j (some d)) j = some d from slot_set_same hl] at he
        cases he
        refine ⟨v, List.getElem?_set_self (by rw [← o.len]; exact hl), ?_⟩
        show Rep K CA w.F w.H d v (if j = j then T else w.S j)
        rw [if_pos rfl]
        exact r
      · rw [show slot (w.env.set i (some d)) j = slot w.env j from slot_set_ne hj] at he
        obtain ⟨u, h1, h2⟩ := o.rep j e he
        refine ⟨u, by rw [List.getElem?_set_ne (Ne.symm hj)]; exact h1, ?_⟩
        show Rep K CA w.F w.H e u (if j = i then T else w.S j)
        rw [if_neg hj]
        exact h2
    · by_cases hj : j = i
      · have : T a := by simpa [hj] using ha
        exact ⟨(t a this).1, (t a this).2.1⟩
      · exact o.trk j a (by simpa [hj] using ha)
    · by_cases hj : j = i
      · have hk : ¬ k = i := fun e => hjk (hj.trans e.symm)
        exact (t a (by simpa [hj] using h1)).2.2 k (by simpa [hk] using h2)
      · by_cases hk : k = i
        · exact (t a (by simpa [hk] using h2)).2.2 j (by simpa [hj] using h1)
        · exact o.dis j k a hjk (by simpa [hj] using h1) (by simpa [hk] using h2)
  · cases hs
end
end Z

/-! Z11: the rule of each expression, from its parts'. -/
namespace Z
open PySem L2 PySem.Spec PyProof.Rows

section
variable {g : G} {c : Cxt} {X : Cx} {W : WX} {cf : Nat → List D → CR}
/-- the reading of a path -/
def tP (K : PySem.W.Frag) (CA : Cls) (W : WX) (i : Nat) (f : Env → R (List Acc)) : TE := fun σ H Q =>
  ∃ w, w.H = H ∧ Own K CA σ w ∧ Res K CA W σ [] w (f w.env) fun ia w' => ∀ v, ItR K CA σ w' (.ref i ia) v noAd → Q v w'.H
theorem tP_mono {K : PySem.W.Frag} {CA : Cls} {i : Nat} {f : Env → R (List Acc)} : Mono (tP K CA W i f) := fun σ H Q Q' k h => by
  obtain ⟨w, h1, h2, h3⟩ := h
  exact ⟨w, h1, h2, h3.mono (fun a w' _ _ _ q v x => k v w'.H (q v x)) fun _ z => z⟩
abbrev tE (g : G) (W : WX) (mu : List Nat) (f : Env → R Itm) := tI g.K g.CA W mu f
abbrev tPg (g : G) (W : WX) (cf : Nat → List D → CR) (p : P) := tP g.K g.CA W (rootP p) (evP cf p)
theorem nil_sub {mu : List Nat} : ∀ i, i ∈ ([] : List Nat) → i ∈ mu := fun _ z => by cases z

/-- from the reading of a whole to that of its first part -/
theorem open1 {mu mu1 mu2 : List Nat} {f : Env → R Itm} {r1 : Env → R Itm} {k : Itm → Env → R Itm} {σ : L2.St} {H : Hp} {Q : VK} {R1 : V → Hp → Prop} (hf : ∀ env, f env = (r1 env).bind k) (m1 : ∀ i, i ∈ mu1 → i ∈ mu) (m2 : ∀ i, i ∈ mu2 → i ∈ mu)
    (q : tE g W mu f σ H Q)
    (h : ∀ w w1 it v T, r1 w.env = .ok it w1.env → Own g.K g.CA σ w → Own g.K g.CA σ w1 → Grow mu1 w w1 → ItR g.K g.CA σ w1 it v T → (∀ a, T a → Zone mu1 w a) →
      Res g.K g.CA W σ mu2 w1 (k it w1.env) (fun it w2 => ∀ v T, ItR g.K g.CA σ w2 it v T → (∀ a, T a → Zone mu2 w1 a ∨ Zone mu1 w a) → Q v w2.H) → R1 v w1.H) : tE g W mu1 r1 σ H R1 := by
  obtain ⟨w, h1, o, r⟩ := q
  refine ⟨w, h1, o, ?_⟩
  rw [hf] at r
  have r' := r.bind m1 m2
  refine r'.mono (fun it w1 ev o1 g1 q1 v T i z => ?_) fun _ z => z
  refine h w w1 it v T ev o o1 g1 i z (q1.mono (fun it2 w2 _ o2 g2 q2 v2 T2 i2 z2 => q2 v2 T2 i2 fun a ha => ?_) fun _ z => z)
  rcases z2 a ha with q | q
  · exact g1.zone2 q m1 m2
  · exact q.mono m1

/-! ### constants and names -/
theorem c_const {x : Expr} {d : D} {v : V} {mu : List Nat} (h : PE X x (tC v)) (hr : ∀ F H, Rep g.K g.CA F H d v noAd) : PE X x (tE g W mu (fun env => .ok (.tmp d) env)) :=
  pe_is h fun σ H Q q => by
    obtain ⟨w, rfl, o, r⟩ := q
    exact r.ok o v noAd ⟨hr _ _, Tmp.none⟩ fun _ z => z.elim
theorem c_pv {i : Nat} {x : Str} {pos : Pos} (hx : XOk g c X) (hN : c.N[i]? = some x) (hv : visB c x = true) (hd : (x == ("__debug__" : Str)) = false) (hcd : (x == ("__classdict__" : Str)) = false) :
    PE X (.Name x pos) (tPg g W cf (.v i)) :=
  pe_is (pe_var (by rw [hx.N]; exact hN) (hx.vis hv) hd hcd) fun σ H Q q => by
    obtain ⟨w, rfl, o, r⟩ := q
    unfold evP at r
    cases e : slot w.env i with
    | none =>
      rw [e] at r
      exact r.elim
    | some d =>
      rw [e] at r
      obtain ⟨v, h1, h2⟩ := o.rep i d e
      exact ⟨v, h1, r.ok o v ⟨h1, rfl⟩⟩
theorem c_rd {x : Expr} {p : P} (h : PE X x (tPg g W cf p)) : PE X x (tE g W [] (evE cf (.rd p))) :=
  pe_is h fun σ H Q q => by
    obtain ⟨w, rfl, o, r⟩ := q
    refine ⟨w, rfl, o, ?_⟩
    unfold evE at r
    refine (r.bind nil_sub nil_sub).mono (fun ia w1 ev1 o1 g1 q1 v i => ?_) fun _ z => z
    cases e : look w1.env (.ref (rootP p) ia) with
    | none =>
      rw [e] at q1
      exact q1.elim
    | some d =>
      rw [e] at q1
      obtain ⟨x, u, T', h1, h2, h3⟩ := i.plc o1 e
      cases e2 : pureD d with
      | false =>
        have q2 : Res g.K g.CA W σ [] w1 (if pureD d = true then R.ok (Itm.tmp d) w1.env else R.stuck) _ := q1
        rw [e2, if_neg (by decide)] at q2
        exact q2.elim
      | true =>
        have q2 : Res g.K g.CA W σ [] w1 (if pureD d = true then R.ok (Itm.tmp d) w1.env else R.stuck) _ := q1
        rw [e2, if_pos rfl] at q2
        exact q2.ok o1 v noAd ⟨(h3.rep.pure e2).pureH, Tmp.none⟩ fun _ z => z.elim
theorem c_pk {x : Expr} {p : P} (h : PE X x (tPg g W cf p)) : PE X x (tE g W [] (evE cf (.pk p))) :=
  pe_is h fun σ H Q q => by
    obtain ⟨w, rfl, o, r⟩ := q
    refine ⟨w, rfl, o, ?_⟩
    unfold evE at r
    refine (r.bind nil_sub nil_sub).mono (fun ia w1 ev1 o1 g1 q1 v i => ?_) fun _ z => z
    exact q1.ok o1 v noAd i fun _ z => z.elim
theorem c_fz {x : Expr} {p : P} (h : PE X x (tPg g W cf p)) : PE X x (tE g W [rootP p] (evE cf (.fz p))) :=
  pe_is h fun σ H Q q => by
    obtain ⟨w, rfl, o, r⟩ := q
    refine ⟨w, rfl, o, ?_⟩
    unfold evE at r
    refine (r.bind (mu1 := []) (mu2 := [rootP p]) nil_sub fun _ z => z).mono (fun ia w1 ev1 o1 g1 q1 v it => ?_) fun _ z => z
    cases e : look w1.env (.ref (rootP p) ia) with
    | none =>
      rw [e] at q1
      exact q1.elim
    | some d =>
      rw [e] at q1
      obtain ⟨x, u, T', h1, h2, h3⟩ := it.plc o1 e
      have q2 : Res g.K g.CA W σ [rootP p] w1 (if pureD d = true then R.ok (Itm.tmp d) w1.env else match setE w1.env (rootP p) ia (frzD d) with | some env' => .ok (.tmp (frzD d)) env' | none => .stuck) _ := q1
      cases e2 : pureD d with
      | true =>
        rw [e2, if_pos rfl] at q2
        exact q2.ok o1 v noAd ⟨(h3.rep.pure e2).pureH, Tmp.none⟩ fun _ z => z.elim
      | false =>
        rw [e2, if_neg (by decide)] at q2
        cases e3 : setE w1.env (rootP p) ia (frzD d) with
        | none => rw [e3] at q2; exact q2.elim
        | some env' =>
          rw [e3] at q2
          have hT : ∀ a, T' a → w1.F a = none := fun a ha => (o1.trk _ a (h3.sub a ha)).2
          have fr : Rep g.K g.CA (frzF w1.F w1.H T') (frzF w1.F w1.H T') (frzD d) v noAd := h3.rep.freeze (frzF_le o1.le hT) fun a ha => frzF_in ha
          have nF : ∀ a, frzF w1.F w1.H T' a ≠ none → w1.F a ≠ none ∨ T' a := fun a ha => by
            by_cases ht : T' a
            · exact .inr ht
            · rw [frzF_out ht] at ha; exact .inl ha
          have o2 := o1.put h1 h2 h3 (F' := frzF w1.F w1.H T') (H' := w1.H) (T2 := noAd) e3 (frzF_le o1.le hT) (frzF_le2 o1.le) (fun _ _ _ => rfl) (fun _ z => z.elim) (fun a ha => (nF a ha).imp id .inl) fr.pureH
          have g2 := (Grow.refl [] w1).put (mu := [rootP p]) (F' := frzF w1.F w1.H T') (H' := w1.H) (T2 := noAd) e3 nil_sub List.mem_cons_self h3.sub (frzF_le o1.le hT) (fun _ _ _ => rfl) (fun _ z => z.elim) (fun a ha => (nF a ha).imp id .inl)
          exact q2 _ rfl o2 g2 v noAd ⟨fr.pureH, Tmp.none⟩ fun _ z => z.elim
theorem c_mv {i : Nat} {x : Str} {pos : Pos} (hx : XOk g c X) (hN : c.N[i]? = some x) (hv : visB c x = true) (hd : (x == ("__debug__" : Str)) = false) (hcd : (x == ("__classdict__" : Str)) = false) :
    PE X (.Name x pos) (tE g W [i] (evE cf (.mv i))) :=
  pe_is (pe_var (by rw [hx.N]; exact hN) (hx.vis hv) hd hcd) fun σ H Q q => by
    obtain ⟨w, rfl, o, r⟩ := q
    unfold evE at r
    cases e : slot w.env i with
    | none =>
      rw [e] at r
      exact r.elim
    | some d =>
      rw [e] at r
      obtain ⟨v, h1, h2⟩ := o.rep i d e
      obtain ⟨o2, g2⟩ := o.drop i
      refine ⟨v, h1, r _ rfl o2 g2 v (w.S i) ⟨h2, fun a ha => ⟨(o.trk i a ha).1, (o.trk i a ha).2, fun j => ?_⟩⟩ fun a ha => .inl ⟨i, List.mem_cons_self, ha⟩⟩
      show ¬ (if j = i then noAd else w.S j : Ad) a
      by_cases hj : j = i
      · rw [if_pos hj]; exact fun z => z
      · rw [if_neg hj]; exact fun z => o.dis j i a hj z ha

/-! ### paths -/
theorem c_pfd {x : Expr} {p : P} {cl : Nat} {f : Str} {pos : Pos} (hx : XOk g c X) (h : PE X x (tPg g W cf p)) (hc : L2.Cls g.K (g.CA cl)) (hn : NoAttr g.K (g.CA cl) f) (hb : attributeBase x f X.env (eval x X.env) = eval x X.env) :
    PE X (.Attribute x f pos) (tPg g W cf (.fd p cl f)) :=
  pe_is (pe_fld h hb) fun σ H Q q => by
    obtain ⟨w, rfl, o, r⟩ := q
    refine ⟨w, rfl, o, ?_⟩
    unfold evP at r
    refine (r.bind nil_sub nil_sub).mono (fun ia w1 ev1 o1 g1 q1 v it => ?_) fun _ z => z
    split at q1
    · rename_i fl c' ks ds e
      split at q1
      · rename_i hh
        obtain ⟨rfl, hh⟩ := hh
        obtain ⟨x0, u, T', h1, h2, h3⟩ := it.plc o1 e
        obtain ⟨d, hd⟩ := Option.isSome_iff_exists.mp hh
        obtain ⟨j, hj, hjd⟩ := Option.bind_eq_some_iff.mp hd
        obtain ⟨a, dx, vs, y, T2, e1, e2, e3, e4, e5⟩ := Plc.ins o1.le h3.rep hj hjd
        refine ⟨a, g.CA c', dx, ks.zip vs, y, e1, e2, by rw [hx.K]; exact hc, by rw [hx.K]; exact hn, e4, ?_⟩
        refine q1.ok o1 y ?_
        have := h3.app e5
        cases ia with
        | nil => exact ⟨rfl, x0, u, d, T2, h1, h2, this⟩
        | cons b bs => exact ⟨rfl, x0, u, d, T2, h1, h2, this⟩
      · exact q1.elim
    · exact q1.elim
theorem c_pix {x y : Expr} {p : P} {e : E} {pos : Pos} (hx : XOk g c X) (h : PE X x (tPg g W cf p)) (he : PE X y (tE g W [] (evE cf e))) (hs : isSlice y = false) :
    PE X (.Subscript x y pos) (tPg g W cf (.ix p e)) :=
  pe_is (pe_ix (IxR.or ix_list ix_tup) h he (plainIx hs)) fun σ H Q q => by
    obtain ⟨w, rfl, o, r⟩ := q
    refine ⟨w, rfl, o, ?_⟩
    unfold evP at r
    refine (r.bind nil_sub nil_sub).mono (fun ia w1 ev1 o1 g1 q1 v it => ?_) fun _ z => z
    refine ⟨w1, rfl, o1, ?_⟩
    refine (q1.bind nil_sub nil_sub).mono (fun ik w2 ev2 o2 g2 q2 vk Tk itk zk => ?_) fun _ z => z
    have it2 := it.step o1 g2 fun _ _ _ _ z => by cases z
    rw [hx.K]
    split at q2
    · rename_i fl ds k e1
      split at q2
      · rename_i j hj
        obtain ⟨x0, u, T', h1, h2, h3⟩ := it2.plc o2 e1
        obtain ⟨d, hd⟩ : ∃ d, ds[j]? = some d := ⟨ds[j]'(ixN_seq hj).2.1, List.getElem?_eq_getElem _⟩
        obtain ⟨a, vs, y, T2, f1, f2, f3, f4, f5⟩ := Plc.lst o2.le h3.rep hd
        refine .inl ⟨a, vs, k, y, f1, itk.1, f2, by show (ixN vs.length k).bind _ = _; rw [f3, hj]; exact f4, ?_⟩
        refine q2.ok o2 y ?_
        have := h3.app f5
        cases ia with
        | nil => exact ⟨rfl, x0, u, d, T2, h1, h2, this⟩
        | cons b bs => exact ⟨rfl, x0, u, d, T2, h1, h2, this⟩
      · exact q2.elim
    · rename_i ds k e1
      split at q2
      · rename_i j hj
        obtain ⟨x0, u, T', h1, h2, h3⟩ := it2.plc o2 e1
        obtain ⟨d, hd⟩ : ∃ d, ds[j]? = some d := ⟨ds[j]'(ixN_seq hj).2.1, List.getElem?_eq_getElem _⟩
        obtain ⟨a, vs, y, f1, f2, f3, f4, f5⟩ := Plc.tup o2.le h3.rep hd
        refine .inr ⟨a, vs, k, y, f1, itk.1, f2, by show (ixN vs.length k).bind _ = _; rw [f3, hj]; exact f4, ?_⟩
        refine q2.ok o2 y ?_
        have := h3.app f5
        cases ia with
        | nil => exact ⟨rfl, x0, u, d, noAd, h1, h2, this⟩
        | cons b bs => exact ⟨rfl, x0, u, d, noAd, h1, h2, this⟩
      · exact q2.elim
    · exact q2.elim
end
end Z

/-! Z12: arguments; displays; conditions. -/
namespace Z
open PySem L2 PySem.Spec PyProof.Rows

def refE : E → List Nat
  | .pk p => [rootP p]
  | _ => []
def refA : A → List Nat
  | .nil => []
  | .cons e r => refE e ++ refA r
/-- a path that has steps -/
def deepE : E → List Nat
  | .pk (.v _) => []
  | .pk p => [rootP p]
  | _ => []

section
variable {cf : Nat → List D → CR}
theorem R.bind_ok {α β : Type} {r : R α} {k : α → Env → R β} {b : β} {env : Env} (h : r.bind k = .ok b env) : ∃ a env1, r = .ok a env1 ∧ k a env1 = .ok b env := by
  cases r with
  | ok a e => exact ⟨a, e, rfl, h⟩
  | exc _ _ _ _ => cases h
  | stuck => cases h
theorem doCall_tmp {f : Nat} {its : List Itm} {env env' : Env} {it : Itm} (h : doCall cf f its env = .ok it env') : ∃ d, it = .tmp d := by
  unfold doCall at h
  split at h
  · split at h
    · cases h
    · split at h
      · cases h
      · split at h
        · cases h; exact ⟨_, rfl⟩
        · cases h
      · split at h <;> cases h
  · cases h
theorem doNew_tmp {c f : Nat} {its : List Itm} {env env' : Env} {it : Itm} (h : doNew cf c f its env = .ok it env') : ∃ d, it = .tmp d := by
  unfold doNew at h
  split at h
  · split at h
    · cases h
    · split at h
      · cases h
      · split at h
        · split at h
          · cases h; exact ⟨_, rfl⟩
          · cases h
        · cases h
      · cases h
      · split at h <;> cases h
      · cases h
  · cases h
/-- what is not a reference gives a value -/
theorem evE_ref {e : E} {env env' : Env} {i : Nat} {as : List Acc} (h : evE cf e env = .ok (.ref i as) env') : i ∈ refE e ∧ (as ≠ [] → i ∈ deepE e) := by
  cases e with
  | pk p =>
    rw [evE] at h
    obtain ⟨ia, env1, h1, h2⟩ := R.bind_ok h
    cases h2
    refine ⟨List.mem_cons_self (l := []), fun hn => ?_⟩
    cases p with
    | v j =>
      rw [evP] at h1
      split at h1
      · cases h1; exact absurd rfl hn
      · cases h1
    | fd _ _ _ => exact List.mem_cons_self (l := [])
    | ix _ _ => exact List.mem_cons_self (l := [])
  | c d => unfold evE at h; cases h
  | g _ d => unfold evE at h; cases h
  | rd p =>
    rw [evE] at h
    obtain ⟨ia, env1, h1, h2⟩ := R.bind_ok h
    split at h2
    · split at h2 <;> cases h2
    · cases h2
  | fz p =>
    rw [evE] at h
    obtain ⟨ia, env1, h1, h2⟩ := R.bind_ok h
    split at h2
    · split at h2
      · cases h2
      · split at h2 <;> cases h2
    · cases h2
  | mv j =>
    rw [evE] at h
    split at h <;> cases h
  | pr op as =>
    rw [evE] at h
    obtain ⟨ia, env1, h1, h2⟩ := R.bind_ok h
    split at h2 <;> cases h2
  | lst as =>
    rw [evE] at h
    obtain ⟨ia, env1, h1, h2⟩ := R.bind_ok h
    split at h2
    · split at h2 <;> cases h2
    · cases h2
  | tup as =>
    rw [evE] at h
    obtain ⟨ia, env1, h1, h2⟩ := R.bind_ok h
    split at h2
    · split at h2 <;> cases h2
    · cases h2
  | cond t a b =>
    rw [evE] at h
    obtain ⟨ia, env1, h1, h2⟩ := R.bind_ok h
    obtain ⟨ib, env2, h3, h4⟩ := R.bind_ok h2
    split at h4 <;> cases h4
  | andV a b =>
    rw [evE] at h
    obtain ⟨ia, env1, h1, h2⟩ := R.bind_ok h
    split at h2
    · obtain ⟨ib, env2, h3, h4⟩ := R.bind_ok h2
      split at h4 <;> cases h4
    · cases h2
    · cases h2
  | orV a b =>
    rw [evE] at h
    obtain ⟨ia, env1, h1, h2⟩ := R.bind_ok h
    split at h2
    · obtain ⟨ib, env2, h3, h4⟩ := R.bind_ok h2
      split at h4 <;> cases h4
    · cases h2
    · cases h2
  | notV a =>
    rw [evE] at h
    obtain ⟨ia, env1, h1, h2⟩ := R.bind_ok h
    split at h2 <;> cases h2
  | chn op op2 a b c =>
    rw [evE] at h
    obtain ⟨ia, env1, h1, h2⟩ := R.bind_ok h
    obtain ⟨ib, env2, h3, h4⟩ := R.bind_ok h2
    split at h4
    · split at h4
      · obtain ⟨ic, env3, h5, h6⟩ := R.bind_ok h4
        split at h6
        · split at h6 <;> cases h6
        · cases h6
      · cases h4
      · cases h4
    · cases h4
  | mt op p as =>
    rw [evE] at h
    obtain ⟨ia, env1, h1, h2⟩ := R.bind_ok h
    split at h2
    · cases h2
    obtain ⟨ib, env2, h3, h4⟩ := R.bind_ok h2
    split at h4
    · split at h4 <;> cases h4
    · cases h4
  | call f as =>
    rw [evE] at h
    obtain ⟨ia, env1, h1, h2⟩ := R.bind_ok h
    obtain ⟨d, hd⟩ := doCall_tmp h2
    cases hd
  | meth _ f _ r as =>
    rw [evE] at h
    obtain ⟨ia, env1, h1, h2⟩ := R.bind_ok h
    split at h2
    · cases h2
    obtain ⟨ib, env2, h3, h4⟩ := R.bind_ok h2
    obtain ⟨d, hd⟩ := doCall_tmp h4
    cases hd
  | new _ f as =>
    rw [evE] at h
    obtain ⟨ia, env1, h1, h2⟩ := R.bind_ok h
    obtain ⟨d, hd⟩ := doNew_tmp h2
    cases hd
  | lc own elt tg it t =>
    rw [evE] at h
    split at h
    · split at h <;> cases h
    · cases h
  | xf _ f =>
    rw [evE] at h
    split at h <;> cases h
  | xis _ _ yes no =>
    rw [evE] at h
    split at h
    · split at h
      · cases h
      · split at h <;> cases h
    · cases h
  | ded => rw [evE] at h; cases h
  | frz e =>
    rw [evE] at h
    obtain ⟨ia, env1, h1, h2⟩ := R.bind_ok h
    split at h2 <;> cases h2
end

section
variable {g : G} {c : Cxt} {X : Cx} {W : WX} {cf : Nat → List D → CR}
inductive ItsR (K : PySem.W.Frag) (CA : Cls) (σ : L2.St) (w : Wd) : List Itm → List V → List Ad → Prop where
  | nil : ItsR K CA σ w [] [] []
  | cons {it : Itm} {its : List Itm} {v : V} {vs : List V} {T : Ad} {Ts : List Ad} : ItR K CA σ w it v T → (∀ T2, T2 ∈ Ts → ∀ a, T a → T2 a → False) → ItsR K CA σ w its vs Ts → ItsR K CA σ w (it :: its) (v :: vs) (T :: Ts)
def ArgsRd (g : G) (X : Cx) (W : WX) (mu : List Nat) (f : Env → R (List Itm)) (es : List Expr) : Prop :=
  ∃ ts, PEs X es ts ∧ ∀ (σ : L2.St) (r : List V → Hp → VK → Prop) (Q : VK) (w : Wd), Own g.K g.CA σ w →
    Res g.K g.CA W σ mu w (f w.env) (fun its w' => ∀ vs Ts, ItsR g.K g.CA σ w' its vs Ts → (∀ T, T ∈ Ts → ∀ a, T a → Zone mu w a) → r vs w'.H Q) → tCh ts r σ w.H Q
theorem args_nil {mu : List Nat} : ArgsRd g X W mu (evA cf .nil) [] := ⟨[], .nil, fun σ r Q w o q => by
  unfold evA at q
  exact q.ok o [] [] .nil fun _ z => by cases z⟩
theorem ItR.tmpOk {σ : L2.St} {w : Wd} {it : Itm} {v : V} {T : Ad} (h : ItR g.K g.CA σ w it v T) : Tmp w T := by
  match it, h with
  | .tmp d, h => exact h.2
  | .ref i [], h => rw [h.2]; exact Tmp.none
  | .ref i (a :: as), h => rw [h.1]; exact Tmp.none
theorem Tmp.notZone {mu : List Nat} {w : Wd} {T : Ad} (t : Tmp w T) {a : Addr} (h : T a) : ¬ Zone mu w a := fun z => by
  rcases z with ⟨j, _, h2⟩ | z
  · exact (t a h).2.2 j h2
  · exact (t a h).1 z
theorem args_cons {e : E} {r : A} {x : Expr} {xs : List Expr} {m1 m2 mu : List Nat} (he : PE X x (tE g W m1 (evE cf e))) (hr : ArgsRd g X W m2 (evA cf r) xs) (hd : ∀ i, i ∈ deepE e → i ∉ m2) (s1 : ∀ i, i ∈ m1 → i ∈ mu) (s2 : ∀ i, i ∈ m2 → i ∈ mu) :
    ArgsRd g X W mu (evA cf (.cons e r)) (x :: xs) := by
  obtain ⟨ts, ps, k⟩ := hr
  refine ⟨_ :: ts, .cons he tI_mono ps, fun σ rd Q w o q => ?_⟩
  unfold evA at q
  refine ⟨w, rfl, o, (q.bind (mu1 := m1) (mu2 := mu) s1 fun _ z => z).mono (fun it w1 ev o1 g1 q1 v T i z => ?_) fun _ z => z⟩
  refine k σ (fun vs => rd (v :: vs)) Q w1 o1 ((q1.bind (mu1 := m2) (mu2 := mu) s2 fun _ z => z).mono (fun its w2 ev2 o2 g2 q2 vs Ts is zs => ?_) fun _ z => z)
  have i2 := i.step o1 g2 fun j a as e1 hj => by
    subst e1
    exact hd j ((evE_ref ev).2 (fun z => by cases z)) hj
  refine q2.ok o2 (v :: vs) (T :: Ts) (.cons i2 (fun T2 h2 a ha h2a => ?_) is) fun T2 h2 a ha => ?_
  · exact i.tmpOk.notZone ha (zs T2 h2 a h2a)
  · rcases List.mem_cons.mp h2 with rfl | h2
    · exact (z a ha).mono s1
    · exact g1.zone2 (zs T2 h2 a ha) s1 s2

/-- looked-up arguments -/
theorem ItsR.args {σ : L2.St} {w : Wd} (o : Own g.K g.CA σ w) : ∀ {its : List Itm} {vs : List V} {Ts : List Ad} {ds : List D}, ItsR g.K g.CA σ w its vs Ts → looks w.env its = some ds → Args g.K g.CA w.F w.H ds vs
  | [], _, _, _, .nil, e => by cases e; exact .nil
  | it :: its, _, _, ds, .cons h _ r, e => by
    obtain ⟨d, h1, e⟩ := Option.bind_eq_some_iff.mp (show ((look w.env it).bind fun d => (looks w.env its).bind fun ds => some (d :: ds)) = some ds from e)
    obtain ⟨ds', h2, e⟩ := Option.bind_eq_some_iff.mp e
    cases e
    obtain ⟨T', hr⟩ := h.rep o h1
    exact .cons hr (ItsR.args o r h2)
/-- a value that an operation gives -/
theorem fin_of {σ : L2.St} {w : Wd} (o : Own g.K g.CA σ w) {mu : List Nat} {d : D} {Q : VK} (q : Res g.K g.CA W σ mu w (.ok (.tmp d) w.env) fun it w' => ∀ v T, ItR g.K g.CA σ w' it v T → (∀ a, T a → Zone mu w a) → Q v w'.H) : Fin g.K g.CA w.F w.H d Q := by
  intro v F' H' T f1 f2 f3 f4 f5 r
  have kp : ∀ a, w.H a ≠ none → H' a = w.H a := fun a hn => by
    cases e : w.H a with
    | none => exact absurd e hn
    | some u => exact f3 a u e
  have o2 : Own g.K g.CA σ ⟨F', H', w.S, w.env⟩ := o.grow f1 f2 (fun a hn _ => kp a hn) fun a ha => (f4 a ha).imp id fun z i hs => (o.trk i a hs).1 z
  refine q ⟨F', H', w.S, w.env⟩ rfl o2 ⟨f1, fun a hn _ => kp a hn, fun _ _ => rfl, fun _ _ => rfl, rfl, fun _ _ z => .inl z, fun a ha => (f4 a ha).imp id .inr⟩ v T ⟨r, fun a ha => ⟨(f5 a ha).2.2, (f5 a ha).2.1, fun i hs => (o.trk i a hs).1 (f5 a ha).1⟩⟩ fun a ha => .inr (f5 a ha).1
theorem c_pr {op : Pr} {as : A} {x : Expr} {es : List Expr} {mu : List Nat} (hx : XOk g c X) (ck : prCk c g.blt op x = some es) (ha : ArgsRd g X W mu (evA cf as) es) : PE X x (tE g W mu (evE cf (.pr op as))) := by
  obtain ⟨ts, ps, k⟩ := ha
  refine pe_is (prim_ok hx ck ps) fun σ H Q q => ?_
  obtain ⟨w, rfl, o, r⟩ := q
  refine k σ (rs g op) Q w o ?_
  unfold evE at r
  refine (r.bind (mu1 := mu) (mu2 := mu) (fun _ z => z) fun _ z => z).mono (fun its w1 ev o1 g1 q1 vs Ts is zs => ?_) fun _ z => z
  split at q1
  · rename_i d hd
    obtain ⟨ds, h1, h2⟩ := Option.bind_eq_some_iff.mp hd
    exact ⟨w1.F, ds, d, o1.le, is.args o1 h1, h2, fin_of (W := W) (σ := σ) (mu := mu) o1 (q1.mono (fun it w2 _ _ _ q2 v T i z => q2 v T i fun a ha => g1.zone2 (z a ha) (fun _ z => z) fun _ z => z) fun _ z => z)⟩
  · exact q1.elim
end
end Z

/-! Z13: displays, conditions, tests. -/
namespace Z
open PySem L2 PySem.Spec PyProof.Rows
section
variable {g : G} {c : Cxt} {X : Cx} {W : WX} {cf : Nat → List D → CR}
abbrev Uni (Ts : List Ad) : Ad := fun a => ∃ T, T ∈ Ts ∧ T a
theorem ItsR.repL {σ : L2.St} {w : Wd} : ∀ {its : List Itm} {vs : List V} {Ts : List Ad} {ds : List D}, ItsR g.K g.CA σ w its vs Ts → tmps its = some ds → RepL g.K g.CA w.F w.H ds vs (Uni Ts) ∧ Tmp w (Uni Ts)
  | [], _, _, _, .nil, e => by cases e; exact ⟨rfl, fun _ z => by obtain ⟨_, z, _⟩ := z; cases z⟩
  | .tmp d :: its, _, _, ds, .cons (T := T) (Ts := Ts) h dj r, e => by
    obtain ⟨ds', h2, e⟩ := Option.map_eq_some_iff.mp (show (tmps its).map (d :: ·) = some ds from e)
    cases e
    obtain ⟨r1, r2⟩ := ItsR.repL r h2
    refine ⟨⟨_, _, T, Uni Ts, rfl, fun a z => ⟨T, List.mem_cons_self, z⟩, fun a ⟨T2, z1, z2⟩ => ⟨T2, List.mem_cons_of_mem _ z1, z2⟩, fun a z1 ⟨T2, z2, z3⟩ => dj T2 z2 a z1 z3, h.1, r1⟩, fun a ⟨T2, z1, z2⟩ => ?_⟩
    rcases List.mem_cons.mp z1 with rfl | z1
    · exact h.2 a z2
    · exact r2 a ⟨T2, z1, z2⟩
  | .ref _ _ :: its, _, _, ds, _, e => by cases e
/-- a new object is laid -/
theorem Own.lay {σ : L2.St} {w : Wd} (o : Own g.K g.CA σ w) {F' : Hp} {p : Addr} {x : HO} (hp : w.H p = none) (fle : Le w.F F') (le : Le F' (upd w.H p x)) (newF : ∀ a, F' a ≠ none → w.F a ≠ none ∨ ∀ i, ¬ w.S i a) : Own g.K g.CA σ ⟨F', upd w.H p x, w.S, w.env⟩ :=
  o.grow fle le (fun a hn _ => upd_ne fun e => hn (e ▸ hp)) newF
theorem c_lst {as : A} {es : List Expr} {mu : List Nat} {pos : Pos} (ha : ArgsRd g X W mu (evA cf as) es) (hs : es.all noStar = true) : PE X (.List es pos) (tE g W mu (evE cf (.lst as))) := by
  obtain ⟨ts, ps, k⟩ := ha
  refine pe_is (pe_lst (pa_of ps hs)) fun σ H Q q => ?_
  obtain ⟨w, rfl, o, r⟩ := q
  show tArgs ts σ w.H fun xs H1 => _
  rw [tArgs_tCh (r := fun xs H1 Q => xs.length ≤ sizeLine ∧ ∀ p, H1 p = none → Q (.ref p) (upd H1 p (.lst xs)))]
  refine k σ _ Q w o ?_
  rw [evE] at r
  refine (r.bind (mu1 := mu) (mu2 := mu) (fun _ z => z) fun _ z => z).mono (fun its w1 ev o1 g1 q1 vs Ts is zs => ?_) fun _ z => z
  split at q1
  · rename_i ds hd
    split at q1
    · rename_i hz
      obtain ⟨r1, t1⟩ := is.repL hd
      refine ⟨by rw [r1.length]; exact of_decide_eq_true hz, fun p hp => ?_⟩
      have hF := le_none o1.le hp
      have np : ∀ a, w1.H a ≠ none → a ≠ p := fun a ha e => ha (e ▸ hp)
      have o2 := o1.lay (x := .lst vs) hp (Le.refl _) (le_upd o1.le hF) fun a z => .inl z
      refine q1 ⟨w1.F, upd w1.H p (.lst vs), w1.S, w1.env⟩ rfl o2 ⟨Le.refl _, fun a ha _ => upd_ne (np a ha), fun _ _ => rfl, fun _ _ => rfl, rfl, fun _ _ z => .inl z, fun a z => .inl z⟩ (.ref p) (fun a => a = p ∨ Uni Ts a) ⟨?_, ?_⟩ ?_
      · exact ⟨p, vs, Uni Ts, rfl, upd_same, .inl rfl, fun z => (t1 p z).1 hp, fun b z => .inr z, r1.up (Le.refl _) (fun a z => upd_ne (np a (t1 a z).1)) fun _ z => z⟩
      · rintro a (rfl | z)
        · exact ⟨by show upd w1.H a _ a ≠ none; rw [upd_same]; exact (fun q => nomatch q), hF, fun i hs => (o1.trk i a hs).1 hp⟩
        · exact ⟨by show upd w1.H p _ a ≠ none; rw [upd_ne (np a (t1 a z).1)]; exact (t1 a z).1, (t1 a z).2⟩
      · rintro a (rfl | ⟨T, z1, z2⟩)
        · exact g1.zone (.inr hp)
        · exact zs T z1 a z2
    · exact q1.elim
  · exact q1.elim
theorem c_tup {as : A} {es : List Expr} {mu : List Nat} {k0 : Nat} {pos : Pos} (ha : ArgsRd g X W mu (evA cf as) es) (hs : es.all noStar = true) : PE X (.Tuple es k0 pos) (tE g W mu (evE cf (.tup as))) := by
  obtain ⟨ts, ps, k⟩ := ha
  refine pe_is (pe_tup (pa_of ps hs)) fun σ H Q q => ?_
  obtain ⟨w, rfl, o, r⟩ := q
  show tArgs ts σ w.H fun xs H1 => _
  rw [tArgs_tCh (r := fun xs H1 Q => xs.length ≤ sizeLine ∧ ∀ p, H1 p = none → Q (.ref p) (upd H1 p (.tup xs)))]
  refine k σ _ Q w o ?_
  rw [evE] at r
  refine (r.bind' (mu1 := mu) fun _ z => z).mono (fun its w1 ev o1 g1 q1 vs Ts is zs => ?_) fun _ z => z
  split at q1
  · rename_i ds hd
    split at q1
    · rename_i hz
      obtain ⟨r1, t1⟩ := is.repL hd
      refine ⟨by rw [r1.length]; exact of_decide_eq_true hz, fun p hp => ?_⟩
      have hF := le_none o1.le hp
      have np : ∀ a, w1.H a ≠ none → a ≠ p := fun a ha e => ha (e ▸ hp)
      have hT : ∀ a, Uni Ts a → w1.F a = none := fun a z => (t1 a z).2.1
      have fr := r1.freeze (frzF_le o1.le hT) fun a ha => frzF_in ha
      have hF2 : frzF w1.F w1.H (Uni Ts) p = none := le_none (frzF_le2 o1.le) hp
      have f1 : Le w1.F (upd (frzF w1.F w1.H (Uni Ts)) p (.tup vs)) := le_upd (frzF_le o1.le hT) hF
      have f2 : Le (upd (frzF w1.F w1.H (Uni Ts)) p (.tup vs)) (upd w1.H p (.tup vs)) := le_upd2 (frzF_le2 o1.le)
      have nF : ∀ a, upd (frzF w1.F w1.H (Uni Ts)) p (.tup vs) a ≠ none → w1.F a ≠ none ∨ a = p ∨ Uni Ts a := fun a ha => by
        by_cases e : a = p
        · exact .inr (.inl e)
        · rw [upd_ne e] at ha
          by_cases ht : Uni Ts a
          · exact .inr (.inr ht)
          · rw [frzF_out ht] at ha; exact .inl ha
      have o2 := o1.lay (x := .tup vs) hp f1 f2 fun a z => (nF a z).imp id fun z i hs => by
        rcases z with rfl | z
        · exact (o1.trk i a hs).1 hp
        · exact (t1 a z).2.2 i hs
      refine q1 ⟨upd (frzF w1.F w1.H (Uni Ts)) p (.tup vs), upd w1.H p (.tup vs), w1.S, w1.env⟩ rfl o2 ⟨g1.fle.trans f1, fun a hn hk => (upd_ne (np a (by rw [g1.keep a hn hk]; exact hn))).trans (g1.keep a hn hk), g1.oth, g1.env, g1.len, g1.new, fun a ha => ?_⟩ (.ref p) noAd ⟨?_, Tmp.none⟩ fun _ z => z.elim
      · rcases nF a ha with z | rfl | ⟨T, z1, z2⟩
        · exact g1.newF a z
        · exact .inr (g1.zone (.inr hp))
        · exact .inr (zs T z1 a z2)
      · exact ⟨p, vs, rfl, SqT.of upd_same, fr.up (le_new hF2) (fun _ z => z.elim) fun _ z => z⟩
    · exact q1.elim
  · exact q1.elim

/-! ### tests -/
def tTs (g : G) (W : WX) (mu : List Nat) (f : Env → R Bool) : TT := fun σ H Q => ∃ w, w.H = H ∧ Own g.K g.CA σ w ∧ Res g.K g.CA W σ mu w (f w.env) fun b w' => Q b w'.H
theorem tTs_mono {mu : List Nat} {f : Env → R Bool} {σ : L2.St} {H : Hp} {Q Q' : Bool → Hp → Prop} (k : ∀ b H', Q b H' → Q' b H') (h : tTs g W mu f σ H Q) : tTs g W mu f σ H Q' := by
  obtain ⟨w, h1, h2, h3⟩ := h
  exact ⟨w, h1, h2, h3.mono (fun a w' _ _ _ q => k a w'.H q) fun _ z => z⟩
def plainT : Expr → Bool
  | .UnaryOp .Not _ _ => false
  | .BoolOp _ _ _ => false
  | .IfExp _ _ _ _ => false
  | .Compare _ _ _ _ => false
  | _ => true
theorem t_val {x : Expr} {t : TE} {e : E} {mu : List Nat} (h : PT X x (tTest t)) (k : ∀ σ H Q, tE g W mu (evE cf e) σ H Q → t σ H Q) : PT X x (tTs g W mu (evT cf (.val e))) :=
  pt_is h fun σ H Q q => k σ H _ (by
    obtain ⟨w, rfl, o, r⟩ := q
    refine ⟨w, rfl, o, ?_⟩
    rw [evT] at r
    refine (r.bind (mu1 := mu) (mu2 := []) (fun _ z => z) nil_sub).mono (fun it w1 ev o1 g1 q1 v T i z => ?_) fun _ z => z
    split at q1
    · exact ⟨_, i.1, q1.ok o1⟩
    · exact q1.elim)
theorem t_plain {x : Expr} {e : E} {mu : List Nat} (h : PE X x (tE g W mu (evE cf e))) (hp : plainT x = true) : PT X x (tTs g W mu (evT cf (.val e))) :=
  t_val (pt_val h (by intro wh; cases x <;> first | rfl | (cases hp; done) | skip; rename_i op _ _; cases op <;> first | rfl | cases hp)) fun _ _ _ q => q
theorem cmpT_ok {op : Pr} {o : CmpOp} {a b : Expr} {pos : Pos} {ts : List TE} (h : OpR X (compareOp o) (fun x y => rs g op [x, y])) (p : PEs X [a, b] ts) (hm : behindInMarks o b = false) : PT X (.Compare a [o] [b] pos) (tTest (tCh ts (rs g op))) := by
  obtain ⟨ta, tb, rfl, h1, h2, _, _⟩ := pes_two p
  exact pt_cmpR h h1 h2 hm
theorem cmpT_all {op : Pr} {o : CmpOp} {a b : Expr} {pos : Pos} {ts : List TE} (h : XOk g c X) (hb : copOf op = some o) (p : PEs X [a, b] ts) (hm : behindInMarks o b = false) : PT X (.Compare a [o] [b] pos) (tTest (tCh ts (rs g op))) := by
  cases op <;> try (cases hb; done)
  case eq => cases hb; exact cmpT_ok (opR_eq h) p hm
  case ne => cases hb; exact cmpT_ok (opR_ne h) p hm
  case lt => cases hb; exact cmpT_ok (opR_lt h) p hm
  case le => cases hb; exact cmpT_ok (opR_le h) p hm
  case gt => cases hb; exact cmpT_ok (opR_gt h) p hm
  case ge => cases hb; exact cmpT_ok (opR_ge h) p hm
theorem primT_ok {op : Pr} {a : Expr} {os : List CmpOp} {bs : List Expr} {pos : Pos} {es : List Expr} {ts : List TE} (h : XOk g c X) (ck : prCk c g.blt op (.Compare a os bs pos) = some es) (p : PEs X es ts) : PT X (.Compare a os bs pos) (tTest (tCh ts (rs g op))) := by
  unfold prCk at ck
  split at ck
  case h_1 e => cases e
  case h_2 e => cases e
  case h_3 e =>
    cases e
    cases ck
    obtain ⟨ta, rfl, h1, m1⟩ := pes_one p
    refine pt_is (pt_cmp (pc_isN h1) rfl) fun σ H Q z => m1 σ H _ _ (fun v H' q => ?_) z
    obtain ⟨F, a, d, T1, le, r1, e, fin⟩ := rs1 q
    cases e
    rw [← no_iff r1]
    exact fin.pure le rfl
  case h_4 e =>
    cases e
    cases ck
    obtain ⟨ta, rfl, h1, m1⟩ := pes_one p
    refine pt_is (pt_cmp (pc_notN h1) rfl) fun σ H Q z => m1 σ H _ _ (fun v H' q => ?_) z
    obtain ⟨F, a, d, T1, le, r1, e, fin⟩ := rs1 q
    cases e
    rw [← no_iff r1]
    exact fin.pure le rfl
  case h_5 e =>
    cases e
    split at ck
    · rename_i hb
      obtain ⟨hb, hm⟩ := hb
      cases ck
      exact cmpT_all h hb p hm
    · cases ck
  all_goals first | (rename_i e; cases e; done) | cases ck
theorem t_cmp {op : Pr} {as : A} {a : Expr} {os : List CmpOp} {bs : List Expr} {pos : Pos} {es : List Expr} {mu : List Nat} (hx : XOk g c X) (ck : prCk c g.blt op (.Compare a os bs pos) = some es) (ha : ArgsRd g X W mu (evA cf as) es) :
    PT X (.Compare a os bs pos) (tTs g W mu (evT cf (.val (.pr op as)))) := by
  obtain ⟨ts, ps, k⟩ := ha
  refine t_val (primT_ok hx ck ps) fun σ H Q q => ?_
  obtain ⟨w, rfl, o, r⟩ := q
  refine k σ (rs g op) Q w o ?_
  rw [evE] at r
  refine (r.bind (mu1 := mu) (mu2 := mu) (fun _ z => z) fun _ z => z).mono (fun its w1 ev o1 g1 q1 vs Ts is zs => ?_) fun _ z => z
  split at q1
  · rename_i d hd
    obtain ⟨ds, h1, h2⟩ := Option.bind_eq_some_iff.mp hd
    exact ⟨w1.F, ds, d, o1.le, is.args o1 h1, h2, fin_of (W := W) (σ := σ) (mu := mu) o1 (q1.mono (fun it w2 _ _ _ q2 v T i z => q2 v T i fun a ha => g1.zone2 (z a ha) (fun _ z => z) fun _ z => z) fun _ z => z)⟩
  · exact q1.elim
theorem pw_of {op : BoolOp} {vs : List Expr} {pos : Pos} {t : TT} (h : PT X (.BoolOp op vs pos) t) : PW X (.BoolOp op vs pos) t :=
  ⟨fun wh pins s σ H Q I q => h.run pins s σ H Q I q⟩
theorem t_and {a b : T} {x y : Expr} {r : List Expr} {pos : Pos} {m1 m2 mu : List Nat} (ha : PT X x (tTs g W m1 (evT cf a))) (hb : PW X (.BoolOp .And (y :: r) pos) (tTs g W m2 (evT cf b))) (s1 : ∀ i, i ∈ m1 → i ∈ mu) (s2 : ∀ i, i ∈ m2 → i ∈ mu) :
    PT X (.BoolOp .And (x :: y :: r) pos) (tTs g W mu (evT cf (.and a b))) :=
  pt_is (pw_and ha hb).pt fun σ H Q q => by
    obtain ⟨w, rfl, o, r⟩ := q
    refine ⟨w, rfl, o, ?_⟩
    rw [evT] at r
    refine (r.bind (mu1 := m1) (mu2 := m2) s1 s2).mono (fun k w1 ev o1 g1 q1 => ?_) fun _ z => z
    cases k with
    | true => exact ⟨w1, rfl, o1, q1⟩
    | false => exact Res.ok q1 o1
theorem t_or {a b : T} {x y : Expr} {r : List Expr} {pos : Pos} {m1 m2 mu : List Nat} (ha : PT X x (tTs g W m1 (evT cf a))) (hb : PW X (.BoolOp .Or (y :: r) pos) (tTs g W m2 (evT cf b))) (s1 : ∀ i, i ∈ m1 → i ∈ mu) (s2 : ∀ i, i ∈ m2 → i ∈ mu) :
    PT X (.BoolOp .Or (x :: y :: r) pos) (tTs g W mu (evT cf (.or a b))) :=
  pt_is (pw_or ha hb).pt fun σ H Q q => by
    obtain ⟨w, rfl, o, r⟩ := q
    refine ⟨w, rfl, o, ?_⟩
    rw [evT] at r
    refine (r.bind (mu1 := m1) (mu2 := m2) s1 s2).mono (fun k w1 ev o1 g1 q1 => ?_) fun _ z => z
    cases k with
    | false => exact ⟨w1, rfl, o1, q1⟩
    | true => exact Res.ok q1 o1
theorem t_not {a : T} {x : Expr} {pos : Pos} {mu : List Nat} (ha : PT X x (tTs g W mu (evT cf a))) : PT X (.UnaryOp .Not x pos) (tTs g W mu (evT cf (.not a))) :=
  pt_is (pt_not ha) fun σ H Q q => by
    obtain ⟨w, rfl, o, r⟩ := q
    refine ⟨w, rfl, o, ?_⟩
    rw [evT] at r
    exact (r.bind (mu1 := mu) (mu2 := []) (fun _ z => z) nil_sub).mono (fun k w1 ev o1 g1 q1 => Res.ok q1 o1) fun _ z => z

/-! ### conditions as values -/
theorem c_cond {t : T} {a b : E} {x y z : Expr} {pos : Pos} {m1 m2 m3 mu : List Nat} (ht : PT X x (tTs g W m1 (evT cf t))) (ha : PE X y (tE g W m2 (evE cf a))) (hb : PE X z (tE g W m3 (evE cf b)))
    (s1 : ∀ i, i ∈ m1 → i ∈ mu) (s2 : ∀ i, i ∈ m2 → i ∈ mu) (s3 : ∀ i, i ∈ m3 → i ∈ mu) : PE X (.IfExp x y z pos) (tE g W mu (evE cf (.cond t a b))) :=
  pe_is (pe_ifExp ht ha hb) fun σ H Q q => by
    obtain ⟨w, rfl, o, r⟩ := q
    refine ⟨w, rfl, o, ?_⟩
    rw [evE] at r
    refine (r.bind (mu1 := m1) (mu2 := mu) s1 fun _ z => z).mono (fun k w1 ev o1 g1 q1 => ?_) fun _ z => z
    cases k with
    | true =>
      refine ⟨w1, rfl, o1, (q1.bind (mu1 := m2) (mu2 := mu) s2 fun _ z => z).mono (fun it w2 ev o2 g2 q2 v T i zz => ?_) fun _ z => z⟩
      split at q2
      · exact q2.ok o2 v T i fun a ha => g1.zone2 (zz a ha) s1 s2
      · exact q2.elim
    | false =>
      refine ⟨w1, rfl, o1, (q1.bind (mu1 := m3) (mu2 := mu) s3 fun _ z => z).mono (fun it w2 ev o2 g2 q2 v T i zz => ?_) fun _ z => z⟩
      split at q2
      · exact q2.ok o2 v T i fun a ha => g1.zone2 (zz a ha) s1 s3
      · exact q2.elim
theorem c_and {a b : E} {x y : Expr} {r : List Expr} {pos : Pos} {m1 m2 mu : List Nat} (ha : PE X x (tE g W m1 (evE cf a))) (hb : PE X (.BoolOp .And (y :: r) pos) (tE g W m2 (evE cf b))) (s1 : ∀ i, i ∈ m1 → i ∈ mu) (s2 : ∀ i, i ∈ m2 → i ∈ mu) :
    PE X (.BoolOp .And (x :: y :: r) pos) (tE g W mu (evE cf (.andV a b))) :=
  pe_is (pe_and ha hb) fun σ H Q q => by
    obtain ⟨w, rfl, o, r⟩ := q
    refine ⟨w, rfl, o, ?_⟩
    rw [evE] at r
    refine (r.bind (mu1 := m1) (mu2 := mu) s1 fun _ z => z).mono (fun it w1 ev o1 g1 q1 v T i z => ?_) fun _ z => z
    split at q1
    · refine ⟨true, i.1, ?_⟩
      rw [if_pos rfl]
      refine ⟨w1, rfl, o1, (q1.bind (mu1 := m2) (mu2 := mu) s2 fun _ z => z).mono (fun it w2 ev o2 g2 q2 v T i zz => ?_) fun _ z => z⟩
      split at q2
      · exact q2.ok o2 v T i fun a ha => g1.zone2 (zz a ha) s1 s2
      · exact q2.elim
    · refine ⟨false, i.1, ?_⟩
      rw [if_neg (by decide)]
      exact q1.ok o1 (.bl false) noAd ⟨rfl, Tmp.none⟩ fun _ z => z.elim
    · exact q1.elim
theorem c_or {a b : E} {x y : Expr} {r : List Expr} {pos : Pos} {m1 m2 mu : List Nat} (ha : PE X x (tE g W m1 (evE cf a))) (hb : PE X (.BoolOp .Or (y :: r) pos) (tE g W m2 (evE cf b))) (s1 : ∀ i, i ∈ m1 → i ∈ mu) (s2 : ∀ i, i ∈ m2 → i ∈ mu) :
    PE X (.BoolOp .Or (x :: y :: r) pos) (tE g W mu (evE cf (.orV a b))) :=
  pe_is (pe_or ha hb) fun σ H Q q => by
    obtain ⟨w, rfl, o, r⟩ := q
    refine ⟨w, rfl, o, ?_⟩
    rw [evE] at r
    refine (r.bind (mu1 := m1) (mu2 := mu) s1 fun _ z => z).mono (fun it w1 ev o1 g1 q1 v T i z => ?_) fun _ z => z
    split at q1
    · refine ⟨false, i.1, ?_⟩
      rw [if_neg (by decide)]
      refine ⟨w1, rfl, o1, (q1.bind (mu1 := m2) (mu2 := mu) s2 fun _ z => z).mono (fun it w2 ev o2 g2 q2 v T i zz => ?_) fun _ z => z⟩
      split at q2
      · exact q2.ok o2 v T i fun a ha => g1.zone2 (zz a ha) s1 s2
      · exact q2.elim
    · refine ⟨true, i.1, ?_⟩
      rw [if_pos rfl]
      exact q1.ok o1 (.bl true) noAd ⟨rfl, Tmp.none⟩ fun _ z => z.elim
    · exact q1.elim
theorem c_not {a : E} {x : Expr} {pos : Pos} {mu : List Nat} (ha : PE X x (tE g W mu (evE cf a))) : PE X (.UnaryOp .Not x pos) (tE g W mu (evE cf (.notV a))) :=
  pe_is (pe_not ha) fun σ H Q q => by
    obtain ⟨w, rfl, o, r⟩ := q
    refine ⟨w, rfl, o, ?_⟩
    rw [evE] at r
    refine (r.bind (mu1 := mu) (mu2 := mu) (fun _ z => z) fun _ z => z).mono (fun it w1 ev o1 g1 q1 v T i z => ?_) fun _ z => z
    split at q1
    · exact ⟨_, i.1, q1.ok o1 (.bl _) noAd ⟨rfl, Tmp.none⟩ fun _ z => z.elim⟩
    · exact q1.elim
end
end Z

/-! Z14: calls: what goes in, what comes back. -/
namespace Z
open PySem L2 PySem.Spec PyProof.Rows

/-! ### writing back -/
theorem roots_ix : ∀ {its : List Itm} {j i : Nat} {as : List Acc}, its[j]? = some (.ref i as) → i ∈ roots its
  | [], _, _, _, h => by simp at h
  | .tmp _ :: its, 0, i, as, h => by cases h
  | .tmp _ :: its, j + 1, i, as, h => roots_ix (its := its) (j := j) (by simpa using h)
  | .ref k bs :: its, 0, i, as, h => by cases h; exact List.mem_cons_self
  | .ref k bs :: its, j + 1, i, as, h => List.mem_cons_of_mem _ (roots_ix (its := its) (j := j) (by simpa using h))
theorem roots_uniq : ∀ {its : List Itm} {j k i : Nat} {as bs : List Acc}, nodupB (roots its) = true → its[j]? = some (.ref i as) → its[k]? = some (.ref i bs) → j = k
  | [], _, _, _, _, _, _, h, _ => by simp at h
  | .tmp _ :: its, 0, _, _, _, _, _, h, _ => by cases h
  | .tmp _ :: its, _ + 1, 0, _, _, _, _, _, h => by cases h
  | .tmp _ :: its, j + 1, k + 1, i, as, bs, n, h1, h2 => by rw [roots_uniq (its := its) (j := j) (k := k) n (by simpa using h1) (by simpa using h2)]
  | .ref r cs :: its, 0, 0, _, _, _, _, _, _ => rfl
  | .ref r cs :: its, 0, k + 1, i, as, bs, n, h1, h2 => by
    cases h1
    have h3 : nodupB (_ :: roots its) = true := n
    simp only [nodupB, Bool.and_eq_true, Bool.not_eq_true', List.contains_eq_mem, decide_eq_false_iff_not] at h3
    exact absurd (roots_ix (its := its) (j := k) (by simpa using h2)) h3.1
  | .ref r cs :: its, j + 1, 0, i, as, bs, n, h1, h2 => by
    cases h2
    have h3 : nodupB (_ :: roots its) = true := n
    simp only [nodupB, Bool.and_eq_true, Bool.not_eq_true', List.contains_eq_mem, decide_eq_false_iff_not] at h3
    exact absurd (roots_ix (its := its) (j := j) (by simpa using h1)) h3.1
  | .ref r cs :: its, j + 1, k + 1, i, as, bs, n, h1, h2 => by
    have h3 : nodupB (r :: roots its) = true := n
    simp only [nodupB, Bool.and_eq_true] at h3
    rw [roots_uniq (its := its) (j := j) (k := k) h3.2 (by simpa using h1) (by simpa using h2)]
theorem setE_slot {env env' : Env} {i : Nat} {as : List Acc} {d : D} (h : setE env i as d = some env') :
    (∃ x x', slot env i = some x ∧ setP x as d = some x' ∧ slot env' i = some x') ∧ (∀ k, k ≠ i → slot env' k = slot env k) ∧ env'.length = env.length := by
  obtain ⟨x, h1, h⟩ := Option.bind_eq_some_iff.mp (show ((slot env i).bind fun x => (setP x as d).bind fun x' => some (env.set i (some x'))) = some env' from h)
  obtain ⟨x', h2, h⟩ := Option.bind_eq_some_iff.mp h
  cases h
  exact ⟨⟨x, x', h1, h2, slot_set_same (slot_lt h1)⟩, fun k hk => slot_set_ne hk, List.length_set⟩
theorem writeBack_spec : ∀ {its : List Itm} {outs : List D} {env env' : Env}, writeBack env its outs = some env' → nodupB (roots its) = true →
    (∀ i, i ∉ roots its → slot env' i = slot env i) ∧ env'.length = env.length ∧ outs.length = its.length ∧
    ∀ (j i : Nat) (as : List Acc), its[j]? = some (.ref i as) → ∃ d o, look env (.ref i as) = some d ∧ outs[j]? = some o ∧ (pureD d = true → slot env' i = slot env i) ∧
      (pureD d = false → ∃ x x', slot env i = some x ∧ setP x as o = some x' ∧ slot env' i = some x')
  | [], [], env, env', h, _ => by cases h; exact ⟨fun _ _ => rfl, rfl, rfl, fun j i as h => by simp at h⟩
  | [], _ :: _, _, _, h, _ => by cases h
  | .tmp _ :: _, [], _, _, h, _ => by cases h
  | .ref _ _ :: _, [], _, _, h, _ => by cases h
  | .tmp d :: its, o :: outs, env, env', h, n => by
    obtain ⟨h1, h2, h3, h4⟩ := writeBack_spec (its := its) (outs := outs) (env := env) (env' := env') h n
    refine ⟨h1, h2, congrArg (· + 1) h3, fun j i as hj => ?_⟩
    cases j with
    | zero => cases hj
    | succ j => simpa using h4 j i as (by simpa using hj)
  | .ref i as :: its, o :: outs, env, env', h, n => by
    have h3 : nodupB (i :: roots its) = true := n
    simp only [nodupB, Bool.and_eq_true, Bool.not_eq_true', List.contains_eq_mem, decide_eq_false_iff_not] at h3
    have h' : (match look env (.ref i as) with
      | some d => if pureD d = true then writeBack env its outs else (setE env i as o).bind fun env => writeBack env its outs
      | none => none) = some env' := h
    cases hl : look env (.ref i as) with
    | none => rw [hl] at h'; cases h'
    | some d =>
      rw [hl] at h'
      cases hp : pureD d with
      | true =>
        have h2 : (if pureD d = true then writeBack env its outs else (setE env i as o).bind fun env => writeBack env its outs) = some env' := h'
        rw [hp, if_pos rfl] at h2
        obtain ⟨g1, g2, g3, g4⟩ := writeBack_spec (its := its) h2 h3.2
        refine ⟨fun k hk => g1 k fun z => hk (List.mem_cons_of_mem _ z), g2, congrArg (· + 1) g3, fun j k bs hj => ?_⟩
        cases j with
        | zero =>
          cases hj
          exact ⟨d, o, hl, rfl, fun _ => g1 i h3.1, fun q => by rw [hp] at q; cases q⟩
        | succ j => simpa using g4 j k bs (by simpa using hj)
      | false =>
        have h2 : (if pureD d = true then writeBack env its outs else (setE env i as o).bind fun env => writeBack env its outs) = some env' := h'
        rw [hp, if_neg (by decide)] at h2
        obtain ⟨env1, e1, h2⟩ := Option.bind_eq_some_iff.mp h2
        obtain ⟨⟨x, x', f1, f2, f3⟩, f4, f5⟩ := setE_slot e1
        obtain ⟨g1, g2, g3, g4⟩ := writeBack_spec (its := its) h2 h3.2
        refine ⟨fun k hk => (g1 k fun z => hk (List.mem_cons_of_mem _ z)).trans (f4 k fun e => hk (e ▸ List.mem_cons_self)), g2.trans f5, congrArg (· + 1) g3, fun j k bs hj => ?_⟩
        cases j with
        | zero =>
          cases hj
          exact ⟨d, o, hl, rfl, fun q => (by rw [hp] at q; cases q), fun _ => ⟨x, x', f1, f2, (g1 i h3.1).trans f3⟩⟩
        | succ j =>
          have hj' : its[j]? = some (.ref k bs) := by simpa using hj
          have hk : k ≠ i := fun e => h3.1 (e ▸ roots_ix hj')
          obtain ⟨d2, o2, q1, q2, q3, q4⟩ := g4 j k bs hj'
          have lk : look env1 (.ref k bs) = look env (.ref k bs) := by
            show (slot env1 k).bind _ = (slot env k).bind _
            rw [f4 k hk]
          exact ⟨d2, o2, lk ▸ q1, by simpa using q2, fun z => (q3 z).trans (f4 k hk), fun z => by
            obtain ⟨y, y', r1, r2, r3⟩ := q4 z
            exact ⟨y, y', (f4 k hk).symm.trans r1, r2, r3⟩⟩

section
variable {K : PySem.W.Frag} {CA : Cls} {σ : L2.St}
/-- the arguments as the callee owns them -/
inductive Cal (K : PySem.W.Frag) (CA : Cls) (σ : L2.St) (w : Wd) : List Itm → List V → List D → List Ad → Prop where
  | nil : Cal K CA σ w [] [] [] []
  | tmp {d : D} {v : V} {T : Ad} {its : List Itm} {vs : List V} {ds : List D} {Cs : List Ad} : Rep K CA w.F w.H d v T → Tmp w T → (∀ C, C ∈ Cs → ∀ a, T a → C a → False) → Cal K CA σ w its vs ds Cs → Cal K CA σ w (.tmp d :: its) (v :: vs) (d :: ds) (T :: Cs)
  | pur {i : Nat} {as : List Acc} {d : D} {v : V} {its : List Itm} {vs : List V} {ds : List D} {Cs : List Ad} : look w.env (.ref i as) = some d → pureD d = true → Rep K CA w.F w.H d v noAd → Cal K CA σ w its vs ds Cs → Cal K CA σ w (.ref i as :: its) (v :: vs) (d :: ds) (noAd :: Cs)
  | ref {i : Nat} {as : List Acc} {x d : D} {u v : V} {T : Ad} {its : List Itm} {vs : List V} {ds : List D} {Cs : List Ad} : look w.env (.ref i as) = some d → pureD d = false → slot w.env i = some x → σ[i]? = some (some u) → Plc K CA w.F w.H x u (w.S i) as d v T → (∀ C, C ∈ Cs → ∀ a, T a → C a → False) → Cal K CA σ w its vs ds Cs →
      Cal K CA σ w (.ref i as :: its) (v :: vs) (d :: ds) (T :: Cs)
/-- what belongs to an argument's cells -/
theorem Cal.cell {w : Wd} : ∀ {its : List Itm} {vs : List V} {ds : List D} {Cs : List Ad}, Cal K CA σ w its vs ds Cs → ∀ C, C ∈ Cs → ∀ a, C a → (∀ i, ¬ w.S i a) ∨ ∃ i, i ∈ roots its ∧ w.S i a
  | _, _, _, _, .nil, C, h, _, _ => by cases h
  | _, _, _, _, .tmp r t dj k, C, h, a, ha => by
    rcases List.mem_cons.mp h with rfl | h
    · exact .inl (t a ha).2.2
    · exact k.cell C h a ha
  | _, _, _, _, .pur _ _ _ k, C, h, a, ha => by
    rcases List.mem_cons.mp h with rfl | h
    · exact ha.elim
    · exact (k.cell C h a ha).imp id fun ⟨i, h1, h2⟩ => ⟨i, List.mem_cons_of_mem _ h1, h2⟩
  | _, _, _, _, .ref (i := i) _ _ _ _ p _ k, C, h, a, ha => by
    rcases List.mem_cons.mp h with rfl | h
    · exact .inr ⟨i, List.mem_cons_self, p.sub a ha⟩
    · exact (k.cell C h a ha).imp id fun ⟨i, h1, h2⟩ => ⟨i, List.mem_cons_of_mem _ h1, h2⟩
theorem Cal.of {w : Wd} (o : Own K CA σ w) : ∀ {its : List Itm} {vs : List V} {Ts : List Ad} {ds : List D}, ItsR K CA σ w its vs Ts → looks w.env its = some ds → nodupB (roots its) = true → ∃ Cs, Cal K CA σ w its vs ds Cs ∧ ∀ C, C ∈ Cs → ∀ a, C a → Uni Ts a ∨ ∃ i, i ∈ roots its ∧ w.S i a
  | [], _, _, ds, .nil, e, _ => by cases e; exact ⟨[], .nil, fun C h => by cases h⟩
  | it :: its, _, _, ds, .cons (T := T) (Ts := Ts) h dj r, e, n => by
    obtain ⟨d, h1, e⟩ := Option.bind_eq_some_iff.mp (show ((look w.env it).bind fun d => (looks w.env its).bind fun ds => some (d :: ds)) = some ds from e)
    obtain ⟨ds', h2, e⟩ := Option.bind_eq_some_iff.mp e
    cases e
    have upT : ∀ {a}, Uni Ts a → Uni (T :: Ts) a := fun ⟨T2, z1, z2⟩ => ⟨T2, List.mem_cons_of_mem _ z1, z2⟩
    cases it with
    | tmp d0 =>
      cases h1
      obtain ⟨Cs, k, kz⟩ := Cal.of o r h2 n
      refine ⟨T :: Cs, .tmp h.1 h.2 (fun C hC a ha hc => ?_) k, fun C hC a ha => ?_⟩
      · rcases kz C hC a hc with ⟨T2, z1, z2⟩ | ⟨i, _, z⟩
        · exact dj T2 z1 a ha z2
        · exact (h.2 a ha).2.2 i z
      · rcases List.mem_cons.mp hC with rfl | hC
        · exact .inl ⟨_, List.mem_cons_self, ha⟩
        · exact (kz C hC a ha).imp upT id
    | ref i as =>
      have n' : nodupB (i :: roots its) = true := n
      simp only [nodupB, Bool.and_eq_true, Bool.not_eq_true', List.contains_eq_mem, decide_eq_false_iff_not] at n'
      obtain ⟨Cs, k, kz⟩ := Cal.of o r h2 n'.2
      obtain ⟨x, u, T', g1, g2, g3⟩ := h.plc o h1
      cases hp : pureD d with
      | true =>
        refine ⟨noAd :: Cs, .pur h1 hp (g3.rep.pure hp).pureH k, fun C hC a ha => ?_⟩
        rcases List.mem_cons.mp hC with rfl | hC
        · exact ha.elim
        · exact (kz C hC a ha).imp upT fun ⟨i, h1, h2⟩ => ⟨i, List.mem_cons_of_mem _ h1, h2⟩
      | false =>
        refine ⟨T' :: Cs, .ref h1 hp g1 g2 g3 (fun C hC a ha hc => ?_) k, fun C hC a ha => ?_⟩
        · rcases k.cell C hC a hc with z | ⟨j, z1, z2⟩
          · exact z i (g3.sub a ha)
          · exact o.dis i j a (fun e => n'.1 (e ▸ z1)) (g3.sub a ha) z2
        · rcases List.mem_cons.mp hC with rfl | hC
          · exact .inr ⟨i, List.mem_cons_self, g3.sub a ha⟩
          · exact (kz C hC a ha).imp upT fun ⟨i, h1, h2⟩ => ⟨i, List.mem_cons_of_mem _ h1, h2⟩
theorem Cal.rep {w : Wd} : ∀ {its : List Itm} {vs : List V} {ds : List D} {Cs : List Ad}, Cal K CA σ w its vs ds Cs → ∀ {j : Nat} {d : D}, ds[j]? = some d → ∃ v C, vs[j]? = some v ∧ Cs[j]? = some C ∧ Rep K CA w.F w.H d v C
  | _, _, _, _, .nil, j, d, h => by simp at h
  | _, _, _, _, .tmp r t dj k, 0, d, h => by cases h; exact ⟨_, _, rfl, rfl, r⟩
  | _, _, _, _, .tmp r t dj k, j + 1, d, h => by simpa using k.rep (j := j) (by simpa using h)
  | _, _, _, _, .pur _ _ r k, 0, d, h => by cases h; exact ⟨_, _, rfl, rfl, r⟩
  | _, _, _, _, .pur _ _ r k, j + 1, d, h => by simpa using k.rep (j := j) (by simpa using h)
  | _, _, _, _, .ref _ _ _ _ p _ k, 0, d, h => by cases h; exact ⟨_, _, rfl, rfl, p.rep⟩
  | _, _, _, _, .ref _ _ _ _ p _ k, j + 1, d, h => by simpa using k.rep (j := j) (by simpa using h)
theorem Cal.trk {w : Wd} (o : Own K CA σ w) : ∀ {its : List Itm} {vs : List V} {ds : List D} {Cs : List Ad}, Cal K CA σ w its vs ds Cs → ∀ {j : Nat} {C : Ad} {a : Addr}, Cs[j]? = some C → C a → w.H a ≠ none ∧ w.F a = none
  | _, _, _, _, .nil, j, C, a, h, _ => by simp at h
  | _, _, _, _, .tmp r t dj k, 0, C, a, h, ha => by cases h; exact ⟨(t a ha).1, (t a ha).2.1⟩
  | _, _, _, _, .tmp r t dj k, j + 1, C, a, h, ha => k.trk o (j := j) (by simpa using h) ha
  | _, _, _, _, .pur _ _ r k, 0, C, a, h, ha => by cases h; exact ha.elim
  | _, _, _, _, .pur _ _ r k, j + 1, C, a, h, ha => k.trk o (j := j) (by simpa using h) ha
  | _, _, _, _, .ref _ _ _ _ p _ k, 0, C, a, h, ha => by cases h; exact o.trk _ a (p.sub a ha)
  | _, _, _, _, .ref _ _ _ _ p _ k, j + 1, C, a, h, ha => k.trk o (j := j) (by simpa using h) ha
theorem Cal.dis {w : Wd} : ∀ {its : List Itm} {vs : List V} {ds : List D} {Cs : List Ad}, Cal K CA σ w its vs ds Cs → ∀ {i j : Nat} {C E : Ad} {a : Addr}, i < j → Cs[i]? = some C → Cs[j]? = some E → C a → E a → False
  | _, _, _, _, .nil, i, j, C, E, a, _, h, _, _, _ => by simp at h
  | _, _, _, _, .tmp r t dj k, 0, j + 1, C, E, a, _, h1, h2, h3, h4 => by cases h1; exact dj E (List.mem_of_getElem? (by simpa using h2)) a h3 h4
  | _, _, _, _, .tmp r t dj k, i + 1, j + 1, C, E, a, hij, h1, h2, h3, h4 => k.dis (i := i) (j := j) (by omega) (by simpa using h1) (by simpa using h2) h3 h4
  | _, _, _, _, .pur _ _ r k, 0, j + 1, C, E, a, _, h1, h2, h3, h4 => by cases h1; exact h3
  | _, _, _, _, .pur _ _ r k, i + 1, j + 1, C, E, a, hij, h1, h2, h3, h4 => k.dis (i := i) (j := j) (by omega) (by simpa using h1) (by simpa using h2) h3 h4
  | _, _, _, _, .ref _ _ _ _ p dj k, 0, j + 1, C, E, a, _, h1, h2, h3, h4 => by cases h1; exact dj E (List.mem_of_getElem? (by simpa using h2)) a h3 h4
  | _, _, _, _, .ref _ _ _ _ p _ k, i + 1, j + 1, C, E, a, hij, h1, h2, h3, h4 => k.dis (i := i) (j := j) (by omega) (by simpa using h1) (by simpa using h2) h3 h4
  | _, _, _, _, .tmp r t dj k, 0, 0, C, E, a, hij, h1, h2, h3, h4 => absurd hij (Nat.lt_irrefl _)
  | _, _, _, _, .tmp r t dj k, i + 1, 0, C, E, a, hij, h1, h2, h3, h4 => absurd hij (Nat.not_lt_zero _)
  | _, _, _, _, .pur _ _ _ k, 0, 0, C, E, a, hij, h1, h2, h3, h4 => absurd hij (Nat.lt_irrefl _)
  | _, _, _, _, .pur _ _ _ k, i + 1, 0, C, E, a, hij, h1, h2, h3, h4 => absurd hij (Nat.not_lt_zero _)
  | _, _, _, _, .ref _ _ _ _ _ _ k, 0, 0, C, E, a, hij, h1, h2, h3, h4 => absurd hij (Nat.lt_irrefl _)
  | _, _, _, _, .ref _ _ _ _ _ _ k, i + 1, 0, C, E, a, hij, h1, h2, h3, h4 => absurd hij (Nat.not_lt_zero _)
theorem Cal.lens {w : Wd} : ∀ {its : List Itm} {vs : List V} {ds : List D} {Cs : List Ad}, Cal K CA σ w its vs ds Cs → vs.length = its.length ∧ ds.length = its.length ∧ Cs.length = its.length
  | _, _, _, _, .nil => ⟨rfl, rfl, rfl⟩
  | _, _, _, _, .tmp _ _ _ k => ⟨congrArg (· + 1) k.lens.1, congrArg (· + 1) k.lens.2.1, congrArg (· + 1) k.lens.2.2⟩
  | _, _, _, _, .pur _ _ _ k => ⟨congrArg (· + 1) k.lens.1, congrArg (· + 1) k.lens.2.1, congrArg (· + 1) k.lens.2.2⟩
  | _, _, _, _, .ref _ _ _ _ _ _ k => ⟨congrArg (· + 1) k.lens.1, congrArg (· + 1) k.lens.2.1, congrArg (· + 1) k.lens.2.2⟩
/-- a reference among the arguments -/
theorem Cal.atRef {w : Wd} : ∀ {its : List Itm} {vs : List V} {ds : List D} {Cs : List Ad}, Cal K CA σ w its vs ds Cs → ∀ {j i : Nat} {as : List Acc}, its[j]? = some (.ref i as) →
    ∃ d v C, ds[j]? = some d ∧ vs[j]? = some v ∧ Cs[j]? = some C ∧ look w.env (.ref i as) = some d ∧ ((pureD d = true ∧ C = noAd) ∨ (pureD d = false ∧ ∃ x u, slot w.env i = some x ∧ σ[i]? = some (some u) ∧ Plc K CA w.F w.H x u (w.S i) as d v C))
  | _, _, _, _, .nil, j, i, as, h => by simp at h
  | _, _, _, _, .tmp r t dj k, 0, i, as, h => by cases h
  | _, _, _, _, .tmp r t dj k, j + 1, i, as, h => by simpa using k.atRef (j := j) (by simpa using h)
  | _, _, _, _, .pur h1 h2 r k, 0, i, as, h => by cases h; exact ⟨_, _, _, rfl, rfl, rfl, h1, .inl ⟨h2, rfl⟩⟩
  | _, _, _, _, .pur _ _ r k, j + 1, i, as, h => by simpa using k.atRef (j := j) (by simpa using h)
  | _, _, _, _, .ref h1 h2 h3 h4 p _ k, 0, i, as, h => by cases h; exact ⟨_, _, _, rfl, rfl, rfl, h1, .inr ⟨h2, _, _, h3, h4, p⟩⟩
  | _, _, _, _, .ref _ _ _ _ p _ k, j + 1, i, as, h => by simpa using k.atRef (j := j) (by simpa using h)
/-- whose cells -/
theorem Cal.who {w : Wd} : ∀ {its : List Itm} {vs : List V} {ds : List D} {Cs : List Ad}, Cal K CA σ w its vs ds Cs → ∀ {j : Nat} {C : Ad} {a : Addr}, Cs[j]? = some C → C a → (∀ i, ¬ w.S i a) ∨ ∃ i as, its[j]? = some (.ref i as) ∧ w.S i a
  | _, _, _, _, .nil, j, C, a, h, _ => by simp at h
  | _, _, _, _, .tmp r t dj k, 0, C, a, h, ha => by cases h; exact .inl (t a ha).2.2
  | _, _, _, _, .tmp r t dj k, j + 1, C, a, h, ha => by simpa using k.who (j := j) (by simpa using h) ha
  | _, _, _, _, .pur _ _ r k, 0, C, a, h, ha => by cases h; exact ha.elim
  | _, _, _, _, .pur _ _ r k, j + 1, C, a, h, ha => by simpa using k.who (j := j) (by simpa using h) ha
  | _, _, _, _, .ref _ _ _ _ p _ k, 0, C, a, h, ha => by cases h; exact .inr ⟨_, _, rfl, p.sub a ha⟩
  | _, _, _, _, .ref _ _ _ _ p _ k, j + 1, C, a, h, ha => by simpa using k.who (j := j) (by simpa using h) ha
end
end Z

/-! Z15: the rule of a call. -/
namespace Z
open PySem L2 PySem.Spec PyProof.Rows
section
variable {K : PySem.W.Frag} {CA : Cls} {σ : L2.St}
/-- the callee's world -/
def calW (w : Wd) (ds : List D) (Cs : List Ad) : Wd := ⟨w.F, w.H, fun j => (Cs[j]?).getD noAd, ds.map some⟩
theorem getD_some {Cs : List Ad} {j : Nat} {a : Addr} (h : (Cs[j]?).getD noAd a) : ∃ C, Cs[j]? = some C ∧ C a := by
  cases e : Cs[j]? with
  | none => rw [e] at h; exact h.elim
  | some C => rw [e] at h; exact ⟨C, rfl, h⟩
theorem slot_map {ds : List D} {i : Nat} {d : D} (h : slot (ds.map some) i = some d) : ds[i]? = some d := by
  unfold slot at h
  rw [List.getElem?_map] at h
  cases e : ds[i]? with
  | none => rw [e] at h; cases h
  | some x => rw [e] at h; cases h; rfl
theorem map_slot {ds : List D} {i : Nat} {d : D} (h : ds[i]? = some d) : slot (ds.map some) i = some d := by
  unfold slot
  rw [List.getElem?_map, h]
  rfl
theorem Cal.own {w : Wd} (h0 : CA.ex = none) (o : Own K CA σ w) {its : List Itm} {vs : List V} {ds : List D} {Cs : List Ad} (k : Cal K CA σ w its vs ds Cs) : Own K CA (vs.map some) (calW w ds Cs) where
  le := o.le
  rep := fun i d hd => by
    obtain ⟨v, C, h1, h2, h3⟩ := k.rep (slot_map hd)
    refine ⟨v, by rw [List.getElem?_map, h1]; rfl, ?_⟩
    show Rep K CA w.F w.H d v ((Cs[i]?).getD noAd)
    rw [h2]
    exact h3
  trk := fun i a ha => by
    obtain ⟨C, h1, h2⟩ := getD_some ha
    exact k.trk o h1 h2
  dis := fun i j a hij h1 h2 => by
    obtain ⟨C, g1, g2⟩ := getD_some h1
    obtain ⟨E, f1, f2⟩ := getD_some h2
    rcases Nat.lt_or_gt_of_ne hij with q | q
    · exact k.dis q g1 f1 g2 f2
    · exact k.dis q f1 g1 f2 g2
  len := by
    show (ds.map some).length = (vs.map some).length
    rw [List.length_map, List.length_map, k.lens.2.1, k.lens.1]
  xs := Xs.cold h0

theorem roots_at : ∀ {its : List Itm} {i : Nat}, i ∈ roots its → ∃ (j : Nat) (as : List Acc), its[j]? = some (.ref i as)
  | .tmp _ :: its, i, h => by
    obtain ⟨j, as, h⟩ := roots_at (its := its) h
    exact ⟨j + 1, as, by simpa using h⟩
  | .ref k bs :: its, i, h => by
    rcases List.mem_cons.mp h with rfl | h
    · exact ⟨0, bs, rfl⟩
    · obtain ⟨j, as, h⟩ := roots_at (its := its) h
      exact ⟨j + 1, as, by simpa using h⟩
/-- whose cells, behind the call -/
def backS (w : Wd) (its : List Itm) (ds : List D) (Cs : List Ad) (S' : Nat → Ad) : Nat → Ad := fun i a =>
  (w.S i a ∧ ∀ (j : Nat) (as : List Acc) (C : Ad), its[j]? = some (.ref i as) → Cs[j]? = some C → ¬ C a) ∨ ∃ (j : Nat) (as : List Acc) (d : D), its[j]? = some (.ref i as) ∧ ds[j]? = some d ∧ pureD d = false ∧ S' j a

/-- behind a call: the caller's world -/
theorem call_back {w0 w w' : Wd} {mu m0 : List Nat} {its : List Itm} {vs : List V} {Ts : List Ad} {ds : List D} {Cs : List Ad} {outs : List D} {env' : Env} {np : Nat}
    (o : Own K CA σ w) (g0 : Grow m0 w0 w) (k : Cal K CA σ w its vs ds Cs) (kz : ∀ C, C ∈ Cs → ∀ a, C a → Uni Ts a ∨ ∃ i, i ∈ roots its ∧ w.S i a) (hz : ∀ T, T ∈ Ts → ∀ a, T a → Zone m0 w0 a) (n : nodupB (roots its) = true)
    (hnp : np = its.length) (e' : w'.env = outs.map some) (o' : Own K CA (vs.map some) w') (g : Grow (List.range np) (calW w ds Cs) w') (hw : writeBack w.env its outs = some env') (s0 : ∀ i, i ∈ m0 → i ∈ mu) (s1 : ∀ i, i ∈ roots its → i ∈ mu) :
    Own K CA σ ⟨w'.F, w'.H, backS w its ds Cs w'.S, env'⟩ ∧ Grow mu w0 ⟨w'.F, w'.H, backS w its ds Cs w'.S, env'⟩ ∧
      (∀ T, Tmp w' T → (∀ a, T a → Zone (List.range np) (calW w ds Cs) a) → Tmp ⟨w'.F, w'.H, backS w its ds Cs w'.S, env'⟩ T ∧ ∀ a, T a → Zone mu w0 a) ∧
      ∀ (j : Nat) (d : D), its[j]? = some (.tmp d) → Tmp ⟨w'.F, w'.H, backS w its ds Cs w'.S, env'⟩ (w'.S j) ∧ ∀ a, w'.S j a → Zone mu w0 a := by
  obtain ⟨wb1, wb2, wb3, wb4⟩ := writeBack_spec hw n
  obtain ⟨l1, l2, l3⟩ := k.lens
  -- a cell of an argument, told by its place
  have cel : ∀ {a : Addr}, (∃ j, j ∈ List.range np ∧ (calW w ds Cs).S j a) ↔ ∃ (j : Nat) (C : Ad), Cs[j]? = some C ∧ C a := fun {a} => by
    constructor
    · rintro ⟨j, _, h⟩
      obtain ⟨C, h1, h2⟩ := getD_some h
      exact ⟨j, C, h1, h2⟩
    · rintro ⟨j, C, h1, h2⟩
      refine ⟨j, List.mem_range.mpr ?_, ?_⟩
      · have := (List.getElem?_eq_some_iff.mp h1).1
        omega
      · show (Cs[j]?).getD noAd a
        rw [h1]
        exact h2
  have keep : ∀ a, w.H a ≠ none → (∀ (j : Nat) (C : Ad), Cs[j]? = some C → ¬ C a) → w'.H a = w.H a := fun a hn hc => g.keep a hn fun j _ hs => by
    obtain ⟨C, h1, h2⟩ := getD_some hs
    exact hc j C h1 h2
  have newS : ∀ j a, w'.S j a → (∃ (j : Nat) (C : Ad), Cs[j]? = some C ∧ C a) ∨ w.H a = none := fun j a hs => by
    rcases g.new j a hs with z | z | z
    · obtain ⟨C, h1, h2⟩ := getD_some z
      exact .inl ⟨j, C, h1, h2⟩
    · exact .inl (cel.mp z)
    · exact .inr z
  have newF : ∀ a, w'.F a ≠ none → w.F a ≠ none ∨ (∃ (j : Nat) (C : Ad), Cs[j]? = some C ∧ C a) ∨ w.H a = none := fun a ha => (g.newF a ha).imp id fun z => z.imp cel.mp id
  -- a slot's cell in an argument: the slot is that argument's root
  have own1 : ∀ {i j : Nat} {C : Ad} {a : Addr}, Cs[j]? = some C → C a → w.S i a → ∃ as : List Acc, its[j]? = some (.ref i as) := fun {i j C a} h1 h2 h3 => by
    rcases k.who h1 h2 with z | ⟨i', as, z1, z2⟩
    · exact absurd h3 (z i)
    · have e : i' = i := Classical.byContradiction fun ne => o.dis i' i a ne z2 h3
      subst e
      exact ⟨as, z1⟩
  -- into the beginning's zone
  have zn : ∀ {a : Addr}, (∃ (j : Nat) (C : Ad), Cs[j]? = some C ∧ C a) → Zone mu w0 a := fun {a} ⟨j, C, h1, h2⟩ => by
    rcases kz C (List.mem_of_getElem? h1) a h2 with ⟨T, z1, z2⟩ | ⟨i, z1, z2⟩
    · exact (hz T z1 a z2).mono s0
    · rcases g0.new i a z2 with q | q
      · exact .inl ⟨i, s1 i z1, q⟩
      · exact q.mono s0
  have zf : ∀ {a : Addr}, w.H a = none → Zone mu w0 a := fun {a} h => (g0.zone (.inr h)).mono s0
  refine ⟨⟨o'.le, fun i d hd => ?_, fun i a ha => ?_, fun i i2 a hne h1 h2 => ?_, ?_, o.xs.up g.fle⟩, ⟨g0.fle.trans g.fle, fun a hn hk => ?_, fun i hi => ?_, fun i hi => ?_, wb2.trans g0.len, fun i a ha => ?_, fun a ha => ?_⟩, fun T t tz => ⟨fun a ha => ?_, fun a ha => ?_⟩, fun j d hj => ⟨fun a ha => ⟨(o'.trk j a ha).1, (o'.trk j a ha).2, fun i hs => ?_⟩, fun a ha => ?_⟩⟩
  · -- the slots' values
    have hd' : slot env' i = some d := hd
    by_cases hr : i ∈ roots its
    · obtain ⟨j, as, hj⟩ := roots_at hr
      obtain ⟨d0, out, q1, q2, q3, q4⟩ := wb4 j i as hj
      obtain ⟨d1, v, C, r1, r2, r3, r4, r5⟩ := k.atRef hj
      rw [q1] at r4
      cases r4
      rcases r5 with ⟨hp, rfl⟩ | ⟨hp, x, u, f1, f2, f3⟩
      · rw [q3 hp] at hd'
        obtain ⟨v2, h1, h2⟩ := o.rep i d hd'
        have nc : ∀ a, w.S i a → ∀ (j2 : Nat) (C2 : Ad), Cs[j2]? = some C2 → ¬ C2 a := fun a hs j2 C2 h3 h4 => by
          obtain ⟨as2, h5⟩ := own1 h3 h4 hs
          have e := roots_uniq n hj h5
          subst e
          rw [r3] at h3
          cases h3
          exact h4
        exact ⟨v2, h1, h2.up g.fle (fun a hs => keep a (o.trk i a hs).1 (nc a hs)) fun a hs => .inl ⟨hs, fun j2 as2 C2 _ h3 => nc a hs j2 C2 h3⟩⟩
      · obtain ⟨x0, x', g1, g2, g3⟩ := q4 hp
        rw [f1] at g1
        cases g1
        rw [g3] at hd'
        cases hd'
        obtain ⟨v', h1, h2⟩ := o'.rep j out (by rw [e']; exact map_slot q2)
        rw [List.getElem?_map, r2] at h1
        cases h1
        have ncC : ∀ a, w.S i a → ¬ C a → ∀ (j2 : Nat) (C2 : Ad), Cs[j2]? = some C2 → ¬ C2 a := fun a hs hc j2 C2 h3 h4 => by
          obtain ⟨as2, h5⟩ := own1 h3 h4 hs
          have e := roots_uniq n hj h5
          subst e
          rw [r3] at h3
          cases h3
          exact hc h4
        refine ⟨u, f2, (f3.put w'.F w'.H out (w'.S j) d g.fle (fun a hs hc => keep a (o.trk i a hs).1 (ncC a hs hc)) (fun a ha => ?_) h2 g2).up (Le.refl _) (fun _ _ => rfl) fun a ha => ?_⟩
        · by_cases hs : w.S i a
          · rcases newS j a ha with ⟨j2, C2, z1, z2⟩ | z
            · obtain ⟨as2, h5⟩ := own1 z1 z2 hs
              have e := roots_uniq n hj h5
              subst e
              rw [r3] at z1
              cases z1
              exact .inl z2
            · exact absurd z (o.trk i a hs).1
          · exact .inr hs
        · rcases ha with ⟨h3, h4⟩ | h3
          · exact .inl ⟨h3, fun j2 as2 C2 _ h5 => ncC a h3 h4 j2 C2 h5⟩
          · exact .inr ⟨j, as, d0, hj, r1, hp, h3⟩
    · rw [wb1 i hr] at hd'
      obtain ⟨v, h1, h2⟩ := o.rep i d hd'
      have nc : ∀ a, w.S i a → ∀ (j : Nat) (C : Ad), Cs[j]? = some C → ¬ C a := fun a hs j C h3 h4 => by
        obtain ⟨as, h5⟩ := own1 h3 h4 hs
        exact hr (roots_ix h5)
      exact ⟨v, h1, h2.up g.fle (fun a hs => keep a (o.trk i a hs).1 (nc a hs)) fun a hs => .inl ⟨hs, fun j as C _ h3 => nc a hs j C h3⟩⟩
  · rcases ha with ⟨hs, hc⟩ | ⟨j, as, d, _, _, _, hs⟩
    · have nc : ∀ (j : Nat) (C : Ad), Cs[j]? = some C → ¬ C a := fun j C h3 h4 => by
        obtain ⟨as, h5⟩ := own1 h3 h4 hs
        exact hc j as C h5 h3 h4
      refine ⟨by show w'.H a ≠ none; rw [keep a (o.trk i a hs).1 nc]; exact (o.trk i a hs).1, ?_⟩
      by_cases q : w'.F a = none
      · exact q
      · rcases newF a q with q | ⟨j, C, h3, h4⟩ | q
        · exact absurd (o.trk i a hs).2 q
        · exact absurd h4 (nc j C h3)
        · exact absurd q (o.trk i a hs).1
    · exact o'.trk j a hs
  · have lr : ∀ {i i2 : Nat}, i ≠ i2 → (w.S i a ∧ ∀ (j : Nat) (as : List Acc) (C : Ad), its[j]? = some (.ref i as) → Cs[j]? = some C → ¬ C a) → (∃ (j : Nat) (as : List Acc) (d : D), its[j]? = some (.ref i2 as) ∧ ds[j]? = some d ∧ pureD d = false ∧ w'.S j a) → False := fun {i i2} hne ⟨hs, hc⟩ ⟨j, as, d, _, _, _, h3⟩ => by
      rcases newS j a h3 with ⟨j2, C, z1, z2⟩ | z
      · obtain ⟨as2, h5⟩ := own1 z1 z2 hs
        exact hc j2 as2 C h5 z1 z2
      · exact (o.trk i a hs).1 z
    rcases h1 with h1 | h1
    · rcases h2 with h2 | h2
      · exact o.dis i i2 a hne h1.1 h2.1
      · exact lr hne h1 h2
    · rcases h2 with h2 | h2
      · exact lr hne.symm h2 h1
      · obtain ⟨j, as, d, f1, f2, f3, f4⟩ := h1
        obtain ⟨j2, as2, d2, e1, e2, e3, e4⟩ := h2
        refine o'.dis j j2 a (fun e => ?_) f4 e4
        subst e
        rw [f1] at e1
        cases e1
        exact hne rfl
  · exact wb2.trans o.len
  · have h1 := g0.keep a hn fun i hi => hk i (s0 i hi)
    refine (keep a (by rw [h1]; exact hn) fun j C h3 h4 => ?_).trans h1
    rcases zn ⟨j, C, h3, h4⟩ with ⟨i, z1, z2⟩ | z
    · exact hk i z1 z2
    · exact hn z
  · have hr : i ∉ roots its := fun z => hi (s1 i z)
    refine Eq.trans ?_ (g0.oth i fun z => hi (s0 i z))
    funext a
    refine propext ⟨fun h => ?_, fun h => .inl ⟨h, fun j as C h1 => absurd (roots_ix h1) hr⟩⟩
    rcases h with ⟨h, _⟩ | ⟨j, as, d, h1, _⟩
    · exact h
    · exact absurd (roots_ix h1) hr
  · exact (wb1 i fun z => hi (s1 i z)).trans (g0.env i fun z => hi (s0 i z))
  · rcases ha with ⟨hs, _⟩ | ⟨j, as, d, _, _, _, hs⟩
    · exact (g0.new i a hs).imp id fun z => z.mono s0
    · rcases newS j a hs with z | z
      · exact .inr (zn z)
      · exact .inr (zf z)
  · rcases newF a ha with z | z | z
    · exact (g0.newF a z).imp id fun z => z.mono s0
    · exact .inr (zn z)
    · exact .inr (zf z)
  · refine ⟨(t a ha).1, (t a ha).2.1, fun i hs => ?_⟩
    rcases hs with ⟨hs, hc⟩ | ⟨j, as, d, _, _, _, hs⟩
    · rcases tz a ha with z | z
      · obtain ⟨j, C, h1, h2⟩ := cel.mp z
        obtain ⟨as, h5⟩ := own1 h1 h2 hs
        exact hc j as C h5 h1 h2
      · exact (o.trk i a hs).1 z
    · exact (t a ha).2.2 j hs
  · rcases tz a ha with z | z
    · exact zn (cel.mp z)
    · exact zf z
  · rcases hs with ⟨hs, hc⟩ | ⟨j2, as, d2, h1, _, _, hs⟩
    · rcases newS j a ha with ⟨j2, C, z1, z2⟩ | z
      · obtain ⟨as2, h5⟩ := own1 z1 z2 hs
        exact hc j2 as2 C h5 z1 z2
      · exact (o.trk i a hs).1 z
    · refine o'.dis j j2 a (fun e => ?_) ha hs
      subst e
      rw [hj] at h1
      cases h1
  · rcases newS j a ha with z | z
    · exact zn z
    · exact zf z
end
end Z

/-! Z16: calls of the text's own defs. -/
namespace Z
open PySem L2 PySem.Spec PyProof.Rows
def lenA : A → Nat
  | .nil => 0
  | .cons _ r => lenA r + 1
/-- a def's promise, where no repr is under way -/
structure FnG (g : G) (k : Nat) (f : Addr) (fd : FuncData) (ps : List Str) (sp : Sp) : Prop where
  len : ∀ vs H Q E, sp vs H Q E → vs.length = ps.length
  run : ∀ (A : Around) (outer : List PySem.Env) (s : Shared) (H : Hp) (args : PySem.Args) (us : List Value) (vs : List V) (Q : VK) (E : XK), Room k A → A.guards = some [] → Env0 g.P g.w g.K g.mg g.base A outer s H → BindsTo s fd args (ps.zip us) → Vals vs us → sp vs H Q E →
    codeAny (model g.P g.w) A (.call (.ref f) args) (L2.CR (L2.CX g.P g.w) outer g.P g.w H s Q E) s
/-- the promise by the evaluator -/
def spF (K : PySem.W.Frag) (CA : Cls) (cf : Nat → List D → CR) (f np : Nat) : Sp := fun vs H Q E => ∃ ds w, w.H = H ∧ w.env = ds.map some ∧ Own K CA (vs.map some) w ∧ vs.length = np ∧ match cf f ds with
  | .ok d outs => ∀ w' v T, w'.env = outs.map some → Own K CA (vs.map some) w' → Grow (List.range np) w w' → Rep K CA w'.F w'.H d v T → Tmp w' T → (∀ a, T a → Zone (List.range np) w a) → Q v w'.H
  | .exc c ks fs outs => ∀ w' dx, w'.env = outs.map some → Own K CA (vs.map some) w' → Grow (List.range np) w w' → ExcAt K CA (Zone (List.range np) w) w' ks fs dx → E (.ref (CA c)) dx w'.H
  | .stuck => False
section
variable {g : G} {c : Cxt} {X : Cx} {W : WX} {cf : Nat → List D → CR} {k : Nat} {f : Addr} {fd : FuncData} {ps : List Str} {sp : Sp}
theorem run_fnG {pins : List (Addr × Obj)} {σ : L2.St} {H : Hp} {s : Shared} {Q : VK} {us : List Value} {vs dvs : List V} {ds : List Value} {E : L2.St → XK} (hx : XOk g c X) (F : FnG g k f fd ps sp) (hr : Room k X.A) (hb : Binds g.K fd ps ds) (hd : Vals dvs ds) (hp : PassesAt (L2.CX X.prog X.w) X σ (E σ))
    (I : Inv X pins σ H s) (r : Vals vs us) (h : sp (vs ++ dvs) H Q (E σ)) : wpAny (model X.prog X.w) X.A (call (.ref f) us) (EP X pins σ Q) X.xe s := by
  have r2 : Vals (vs ++ dvs) (us ++ ds) := r.append hd
  have hl : (us ++ ds).length = ps.length := by rw [← r2.length]; exact F.len _ _ _ _ h
  have e0 := I.env0
  have kin := I.kIn
  have hP := hx.P
  have hw := hx.w
  have hK := hx.K
  rw [hK] at e0 kin
  rw [hx.mg, hx.base] at e0
  rw [hP, hw] at e0
  have run := F.run X.A X.stack s H ⟨us, []⟩ (us ++ ds) (vs ++ dvs) Q (E σ) hr hx.gd e0 (hb s us kin hl) r2 h
  rw [← hP, ← hw] at run
  refine wpAny_call (codeAny_mono run fun r s' hq => ?_)
  cases r with
  | error e => exact hp pins H s e s' I hq
  | ok fl =>
    cases fl with
    | ret u => exact I.after hq
    | next => exact False.elim hq
    | brk => exact False.elim hq
    | cont => exact False.elim hq
theorem pe_callG {x : Str} {p pos : Pos} {e : Expr} {es : List Expr} {t : TA} {dvs : List V} {ds : List Value} {E : L2.St → XK} (hx : XOk g c X) (F : FnG g k f fd ps sp) (hr : Room k X.A) (hg : Gl X x) (hm : g.mg x = some (.ref f)) (hk : PySem.W.keepIn g.K (.ref f) = true) (hb : Binds g.K fd ps ds) (hd : Vals dvs ds)
    (hp : ∀ σ, PassesAt (L2.CX X.prog X.w) X σ (E σ)) (ha : PA X (e :: es) t) (hdb : (x == ("__debug__" : Str)) = false) (he : starEach (e :: es) X.env = (false, eval e X.env) :: starEach es X.env) (hpl : (backTo pos (starEach es X.env)).any (·.1) = false) :
    PE X (.Call (.Name x p) (e :: es) [] pos) (fun σ H Q => t σ H fun vs H1 => sp (vs ++ dvs) H1 Q (E σ)) := by
  refine ⟨fun pins s σ H Q I h => ?_⟩
  refine wpAny_Call_Name_kw (ld_glob I hg (by rw [hx.mg]; exact hm) ?_ hdb)
  refine PySem.W.callWith_K (h₀ := X.base) I.ok.mod.kin (by rw [hx.K]; exact hk) (thn (ha.run pos pins s σ H _ I h) fun us s1 ⟨vs, H1, I1, r, q⟩ => ⟨I1.kIn, ?_⟩) he hpl
  exact run_fnG hx F hr hb hd (hp σ) I1 r q
theorem pe_callG0 {x : Str} {p pos : Pos} {dvs : List V} {ds : List Value} {E : L2.St → XK} (hx : XOk g c X) (F : FnG g k f fd ps sp) (hr : Room k X.A) (hg : Gl X x) (hm : g.mg x = some (.ref f)) (hk : PySem.W.keepIn g.K (.ref f) = true) (hb : Binds g.K fd ps ds) (hd : Vals dvs ds)
    (hp : ∀ σ, PassesAt (L2.CX X.prog X.w) X σ (E σ)) (hdb : (x == ("__debug__" : Str)) = false) :
    PE X (.Call (.Name x p) [] [] pos) (fun σ H Q => sp ([] ++ dvs) H Q (E σ)) := by
  refine ⟨fun pins s σ H Q I h => ?_⟩
  refine wpAny_Call_Name_kw (ld_glob I hg (by rw [hx.mg]; exact hm) ?_ hdb)
  exact PySem.W.callWith_K0 I.kIn (by rw [hx.K]; exact hk) (run_fnG (us := []) (vs := []) hx F hr hb hd (hp σ) I .nil h)

theorem ItsR.length {σ : L2.St} {w : Wd} : ∀ {its : List Itm} {vs : List V} {Ts : List Ad}, ItsR g.K g.CA σ w its vs Ts → vs.length = its.length
  | _, _, _, .nil => rfl
  | _, _, _, .cons _ _ r => congrArg (· + 1) r.length
/-- what a call asks, from what the evaluator gives -/
theorem call_rd {σ : L2.St} {Q : VK} {w0 w1 : Wd} {mu m0 : List Nat} {its : List Itm} {vs : List V} {Ts : List Ad} {fi : Nat} (h0 : g.CA.ex = none) (o1 : Own g.K g.CA σ w1) (g1 : Grow m0 w0 w1) (is : ItsR g.K g.CA σ w1 its vs Ts) (zs : ∀ T, T ∈ Ts → ∀ a, T a → Zone m0 w0 a)
    (q : Res g.K g.CA W σ mu w0 (doCall cf fi its w1.env) fun it w' => ∀ v T, ItR g.K g.CA σ w' it v T → (∀ a, T a → Zone mu w0 a) → Q v w'.H) (s0 : ∀ i, i ∈ m0 → i ∈ mu) (s1 : ∀ i, i ∈ roots its → i ∈ mu) : spF g.K g.CA cf fi its.length vs w1.H Q (WE W σ) := by
  unfold doCall at q
  split at q
  · rename_i hn
    split at q
    · exact q.elim
    · rename_i ds hl
      obtain ⟨Cs, k, kz⟩ := Cal.of o1 is hl hn
      refine ⟨ds, calW w1 ds Cs, rfl, rfl, k.own h0 o1, is.length, ?_⟩
      split at q
      · exact q.elim
      · rename_i d outs hc
        rw [hc]
        intro w' v T e' o' gr r t z
        split at q
        · rename_i env' hw
          obtain ⟨o2, g2, ht, _⟩ := call_back o1 g1 k kz zs hn rfl e' o' gr hw s0 s1
          obtain ⟨t2, z2⟩ := ht T t z
          exact q ⟨w'.F, w'.H, backS w1 its ds Cs w'.S, env'⟩ rfl o2 g2 v T ⟨r, t2⟩ z2
        · exact q.elim
      · rename_i ci ks fs outs hc
        rw [hc]
        intro w' dx e' o' gr ex
        split at q
        · rename_i env' hw
          obtain ⟨o2, g2, ht, _⟩ := call_back o1 g1 k kz zs hn rfl e' o' gr hw s0 s1
          refine q ⟨w'.F, w'.H, backS w1 its ds Cs w'.S, env'⟩ dx rfl o2 g2 ?_
          rcases ex with ex | ⟨a, us, h1, h2, h3, h4, h5, h6⟩
          · exact .inl ex
          · obtain ⟨t2, z2⟩ := ht _ h5 fun b hb => by cases hb; exact h6
            exact .inr ⟨a, us, h1, h2, h3, h4, t2, z2 a rfl⟩
        · exact q.elim
  · exact q.elim

/-- a def that may be called, at a level -/
structure FOk (g : G) (k : Nat) (cf : Nat → List D → CR) (f : Nat) : Prop where
  fn : FnG g k (g.FA f) (g.FD f) (g.PN f) (spF g.K g.CA cf f (g.PN f).length)
  bd : Binds g.K (g.FD f) (g.PN f) []
  kp : PySem.W.keepIn g.K (.ref (g.FA f)) = true
theorem PEs.length : ∀ {es : List Expr} {ts : List TE}, PEs X es ts → ts.length = es.length
  | _, _, .nil => rfl
  | _, _, .cons _ _ r => congrArg (· + 1) r.length
theorem evA_len : ∀ {as : A} {env env' : Env} {its : List Itm}, evA cf as env = .ok its env' → its.length = lenA as
  | .nil, _, _, _, h => by rw [evA] at h; cases h; rfl
  | .cons e r, env, env', its, h => by
    rw [evA] at h
    obtain ⟨it, env1, h1, h2⟩ := R.bind_ok h
    obtain ⟨is, env2, h3, h4⟩ := R.bind_ok h2
    cases h4
    show is.length + 1 = lenA r + 1
    rw [evA_len h3]
theorem evA_roots : ∀ {as : A} {env env' : Env} {its : List Itm}, evA cf as env = .ok its env' → ∀ i, i ∈ roots its → i ∈ refA as
  | .nil, _, _, _, h => by rw [evA] at h; cases h; exact fun _ z => z
  | .cons e r, env, env', its, h => by
    rw [evA] at h
    obtain ⟨it, env1, h1, h2⟩ := R.bind_ok h
    obtain ⟨is, env2, h3, h4⟩ := R.bind_ok h2
    cases h4
    intro i hi
    cases it with
    | tmp d => exact List.mem_append_right _ (evA_roots h3 i hi)
    | ref j bs =>
      rcases List.mem_cons.mp hi with rfl | hi
      · exact List.mem_append_left _ (evE_ref h1).1
      · exact List.mem_append_right _ (evA_roots h3 i hi)
theorem c_call {fi : Nat} {as : A} {x : Str} {p pos : Pos} {es : List Expr} {m mu : List Nat} (hx : XOk g c X) (hh : c.hot = false) (hr : Room k X.A) (tk : Takes X W) (F : FOk g k cf fi) (hg : glB c x = true) (hm : g.mg x = some (.ref (g.FA fi))) (hd : (x == ("__debug__" : Str)) = false) (hl : lenA as = (g.PN fi).length)
    (ha : ArgsRd g X W m (evA cf as) es) (hs : es.all noStar = true) (s0 : ∀ i, i ∈ m → i ∈ mu) (s1 : ∀ i, i ∈ refA as → i ∈ mu) : PE X (.Call (.Name x p) es [] pos) (tE g W mu (evE cf (.call fi as))) := by
  obtain ⟨ts, ps, kk⟩ := ha
  have rd : ∀ σ H Q, tE g W mu (evE cf (.call fi as)) σ H Q → tCh ts (fun vs H1 Q => spF g.K g.CA cf fi (g.PN fi).length vs H1 Q (WE W σ)) σ H Q := fun σ H Q q => by
    obtain ⟨w, rfl, o, r⟩ := q
    refine kk σ (fun vs H1 Q => spF g.K g.CA cf fi (g.PN fi).length vs H1 Q (WE W σ)) Q w o ?_
    rw [evE] at r
    refine (r.bind' (mu1 := m) s0).mono (fun its w1 ev o1 g1 q1 vs Ts is zs => ?_) fun _ z => z
    have e := call_rd (hx.cold hh) o1 g1 is zs q1 s0 fun i hi => s1 i (evA_roots ev i hi)
    rw [evA_len ev, hl] at e
    exact e
  cases es with
  | nil =>
    cases ps
    exact pe_is (pe_callG0 (dvs := []) (E := WE W) hx F.fn hr (hx.gl hg) hm F.kp F.bd .nil (passAt tk) hd) fun σ H Q q => rd σ H Q q
  | cons e es =>
    rw [List.all_cons, Bool.and_eq_true] at hs
    exact pe_is (pe_callG (dvs := []) (E := WE W) hx F.fn hr (hx.gl hg) hm F.kp F.bd .nil (passAt tk) (pa_of ps (by rw [List.all_cons, hs.1, hs.2]; rfl)) hd (star_cons hs.1) (star_any hs.2)) fun σ H Q q => by
      have := rd σ H Q q
      rw [← tArgs_tCh (r := fun vs H1 Q => spF g.K g.CA cf fi (g.PN fi).length vs H1 Q (WE W σ))] at this
      simpa only [List.append_nil] using this
end
end Z

/-! Z17: methods that change a list. -/
namespace Z
open PySem L2 PySem.Spec PyProof.Rows
section
variable {K : PySem.W.Frag} {CA : Cls}
theorem RepL.appendT : ∀ {ds es : List D} {vs us : List V} {F H : Hp} {T U : Ad}, RepL K CA F H ds vs T → RepL K CA F H es us U → (∀ a, T a → U a → False) → RepL K CA F H (ds ++ es) (vs ++ us) (fun a => T a ∨ U a)
  | [], es, vs, us, F, H, T, U, h, k, _ => by
    rw [show vs = _ from h]
    exact k.up (Le.refl _) (fun _ _ => rfl) fun _ z => .inr z
  | d :: ds, es, vs, us, F, H, T, U, h, k, dj => by
    obtain ⟨v, r, T1, T2, rfl, h2, h3, h4, h5, h6⟩ := h
    exact ⟨v, r ++ us, T1, _, rfl, fun a z => .inl (h2 a z), fun a z => z.imp (h3 a) id, fun a z1 z2 => z2.elim (h4 a z1) (dj a (h2 a z1)), h5, h6.appendT k fun a z => dj a (h3 a z)⟩
/-- an item is taken out -/
theorem RepL.out : ∀ {ds : List D} {vs : List V} {F H : Hp} {T : Ad} {j : Nat} {d : D}, RepL K CA F H ds vs T → ds[j]? = some d → ∃ u T1 T2, vs[j]? = some u ∧ (∀ a, T1 a → T a) ∧ (∀ a, T2 a → T a) ∧ (∀ a, T1 a → T2 a → False) ∧ Rep K CA F H d u T1 ∧ RepL K CA F H (ds.eraseIdx j) (vs.eraseIdx j) T2
  | [], _, _, _, _, _, _, _, h => by simp at h
  | d0 :: ds, vs, F, H, T, 0, d, h, hj => by
    obtain ⟨v, r, T1, T2, rfl, h2, h3, h4, h5, h6⟩ := h
    cases (show d0 = d by simpa using hj)
    exact ⟨v, T1, T2, rfl, h2, h3, h4, h5, h6⟩
  | d0 :: ds, vs, F, H, T, j + 1, d, h, hj => by
    obtain ⟨v, r, T1, T2, rfl, h2, h3, h4, h5, h6⟩ := h
    obtain ⟨u, U1, U2, g1, g2, g3, g4, g5, g6⟩ := h6.out (j := j) (show ds[j]? = some d by simpa using hj)
    refine ⟨u, U1, fun a => T1 a ∨ U2 a, by simpa using g1, fun a z => h3 a (g2 a z), fun a z => z.elim (h2 a) fun z => h3 a (g3 a z), fun a z1 z2 => z2.elim (fun z2 => h4 a z2 (g2 a z1)) (g4 a z1), g5, ?_⟩
    exact ⟨v, r.eraseIdx j, T1, U2, rfl, fun a z => .inl z, fun a z => .inr z, fun a z1 z2 => h4 a z1 (g3 a z2), h5, g6⟩
theorem RepL.rev : ∀ {ds : List D} {vs : List V} {F H : Hp} {T : Ad}, RepL K CA F H ds vs T → RepL K CA F H ds.reverse vs.reverse T
  | [], vs, F, H, T, h => by rw [show vs = _ from h]; exact rfl
  | d :: ds, vs, F, H, T, h => by
    obtain ⟨v, r, T1, T2, rfl, h2, h3, h4, h5, h6⟩ := h
    rw [List.reverse_cons, List.reverse_cons]
    exact (h6.rev.appendT (show RepL K CA F H [d] [v] T1 from ⟨v, [], T1, noAd, rfl, fun _ z => z, fun _ z => z.elim, fun _ _ z => z, h5, rfl⟩) fun a z1 z2 => h4 a z2 z1).up (Le.refl _) (fun _ _ => rfl) fun a z => z.elim (h3 a) (h2 a)
theorem dropLast_erase {α : Type} : ∀ (l : List α), l.dropLast = l.eraseIdx (l.length - 1)
  | [] => rfl
  | [_] => rfl
  | a :: b :: l => by
    show a :: (b :: l).dropLast = a :: (b :: l).eraseIdx l.length
    rw [dropLast_erase (b :: l)]
    rfl
end
section
variable {g : G} {c : Cxt} {X : Cx} {W : WX} {cf : Nat → List D → CR}
/-- the names of the methods -/
def mtName : Mt → Str
  | .append => "append"
  | .pop => "pop"
  | .popAt => "pop"
  | .insert => "insert"
  | .extend => "extend"
  | .reverse => "reverse"
  | .clear => "clear"
/-- a list's new contents come to their place -/
theorem mt_put {σ : L2.St} {w0 w : Wd} {m0 mu : List Nat} (o : Own g.K g.CA σ w) (gr : Grow m0 w0 w) {i : Nat} {as : List Acc} {v : V} {T0 : Ad} {ds : List D} {Us : Ad} (it : ItR g.K g.CA σ w (.ref i as) v T0) (hl : look w.env (.ref i as) = some (.lst .own ds))
    (tU : Tmp w Us) (zU : ∀ a, Us a → Zone m0 w0 a) (s0 : ∀ j, j ∈ m0 → j ∈ mu) (hi : i ∈ mu) :
    ∃ a vs T1, v = .ref a ∧ w.H a = some (.lst vs) ∧ RepL g.K g.CA w.F w.H ds vs T1 ∧ (∀ b, T1 b → w.H b ≠ none ∧ b ≠ a) ∧ (∀ b, Us b → b ≠ a) ∧ (∀ b, T1 b → Us b → False) ∧
      ∀ (vs' : List V) (ds' : List D) (r : D) (y : V) (T2 Tr : Ad) (env' : Env) (Q : V → Wd → Prop), setE w.env i as (.lst .own ds') = some env' →
        (∀ b, T2 b → T1 b ∨ Us b) → (∀ b, Tr b → T1 b ∨ Us b) → (∀ b, T2 b → Tr b → False) → RepL g.K g.CA w.F w.H ds' vs' T2 → Rep g.K g.CA w.F w.H r y Tr →
        ∃ w', w'.H = upd w.H a (.lst vs') ∧ w'.env = env' ∧ Own g.K g.CA σ w' ∧ Grow mu w0 w' ∧ ItR g.K g.CA σ w' (.tmp r) y Tr ∧ ∀ b, Tr b → Zone mu w0 b := by
  obtain ⟨x, u, T', h1, h2, h3⟩ := it.plc o hl
  obtain ⟨a, vs, T1, rfl, e2, e3, e4, e5, e6⟩ := h3.rep
  have hS : w.S i a := h3.sub a e3
  have nU : ∀ b, Us b → b ≠ a := fun b hb e => (tU b hb).2.2 i (e ▸ hS)
  have hF : w.F a = none := (o.trk i a hS).2
  refine ⟨a, vs, T1, rfl, e2, e6, fun b hb => ⟨(o.trk i b (h3.sub b (e5 b hb))).1, fun e => e4 (e ▸ hb)⟩, nU, fun b h1 h2 => (tU b h2).2.2 i (h3.sub b (e5 b h1)), fun vs' ds' r y T2 Tr env' Q hs q1 q2 q3 q4 q5 => ?_⟩
  have cell : ∀ b, T1 b ∨ Us b → b ≠ a ∧ w.H b ≠ none ∧ w.F b = none := fun b hb => by
    rcases hb with hb | hb
    · exact ⟨fun e => e4 (e ▸ hb), (o.trk i b (h3.sub b (e5 b hb))).1, (o.trk i b (h3.sub b (e5 b hb))).2⟩
    · exact ⟨nU b hb, (tU b hb).1, (tU b hb).2.1⟩
  have keep : ∀ b, w.H b ≠ none → ¬ T' b → upd w.H a (.lst vs') b = w.H b := fun b _ hb => upd_ne fun e => hb (e ▸ e3)
  have rp : Rep g.K g.CA w.F (upd w.H a (.lst vs')) (.lst .own ds') (.ref a) (fun b => b = a ∨ T2 b) :=
    ⟨a, vs', T2, rfl, upd_same, .inl rfl, fun z => (cell a (q1 a z)).1 rfl, fun b z => .inr z, q4.up (Le.refl _) (fun b hb => upd_ne (cell b (q1 b hb)).1) fun _ z => z⟩
  have o2 := o.put h1 h2 h3 (F' := w.F) (H' := upd w.H a (.lst vs')) (T2 := fun b => b = a ∨ T2 b) hs (Le.refl _) (le_upd o.le hF) keep (fun b hb => by
    rcases hb with rfl | hb
    · exact ⟨.inl e3, by rw [upd_same]; exact (fun z => by cases z), hF⟩
    · refine ⟨(q1 b hb).imp (e5 b) fun z => (tU b z).2.2, ?_, (cell b (q1 b hb)).2.2⟩
      rw [upd_ne (cell b (q1 b hb)).1]
      exact (cell b (q1 b hb)).2.1) (fun _ z => .inl z) rp
  have g2 := gr.put (mu := mu) (F' := w.F) (H' := upd w.H a (.lst vs')) (T2 := fun b => b = a ∨ T2 b) hs s0 hi h3.sub (Le.refl _) keep (fun b hb => by
    rcases hb with rfl | hb
    · exact .inl e3
    · exact (q1 b hb).imp (e5 b) fun z => (zU b z).mono s0) (fun _ z => .inl z)
  refine ⟨_, rfl, rfl, o2, g2, ⟨q5.up (Le.refl _) (fun b hb => upd_ne (cell b (q2 b hb)).1) fun _ z => z, fun b hb => ⟨?_, (cell b (q2 b hb)).2.2, fun j hj => ?_⟩⟩, fun b hb => ?_⟩
  · show upd w.H a _ b ≠ none
    rw [upd_ne (cell b (q2 b hb)).1]
    exact (cell b (q2 b hb)).2.1
  · by_cases e : j = i
    · subst e
      rw [putW_same] at hj
      rcases hj with ⟨z1, z2⟩ | rfl | z
      · rcases q2 b hb with z | z
        · exact z2 (e5 b z)
        · exact (tU b z).2.2 j z1
      · exact (cell b (q2 b hb)).1 rfl
      · exact q3 b z hb
    · rw [putW_ne e] at hj
      rcases q2 b hb with z | z
      · exact o.dis j i b e hj (h3.sub b (e5 b z))
      · exact (tU b z).2.2 j hj
  · rcases q2 b hb with z | z
    · rcases gr.new i b (h3.sub b (e5 b z)) with q | q
      · exact .inl ⟨i, hi, q⟩
      · exact q.mono s0
    · exact (zU b z).mono s0
theorem attrBase {o : Expr} {m : Str} {env : PySem.Env} (h : (match o with | .Name _ _ => true | .Attribute _ _ _ => true | .Subscript _ _ _ => true | _ => false) = true) : attributeBase o m env (eval o env) = eval o env := by
  cases o <;> first | rfl | cases h

/-- what is known where a method is called -/
structure MtAt (g : G) (op : Mt) (x : V) (vs : List V) (H : Hp) (Q : VK) (σ : L2.St) (w0 w : Wd) (m0 mu : List Nat) (i : Nat) (as : List Acc) (es : List D) (Ts : List Ad) (its : List Itm) (d : D) (r d' : D) (env' : Env) : Prop where
  hH : w.H = H
  o : Own g.K g.CA σ w
  gr : Grow m0 w0 w
  it : ItR g.K g.CA σ w (.ref i as) x noAd
  look : look w.env (.ref i as) = some d
  is : ItsR g.K g.CA σ w its vs Ts
  tm : tmps its = some es
  ms : mtS op d es = some (r, d')
  st : setE w.env i as d' = some env'
  zs : ∀ T, T ∈ Ts → ∀ a, T a → Zone m0 w0 a
  s0 : ∀ j, j ∈ m0 → j ∈ mu
  hi : i ∈ mu
  q : ∀ w3 v T, w3.env = env' → Own g.K g.CA σ w3 → Grow mu w0 w3 → ItR g.K g.CA σ w3 (.tmp r) v T → (∀ a, T a → Zone mu w0 a) → Q v w3.H
def MtRd (g : G) (op : Mt) : V → List V → Hp → VK → Prop := fun x vs H Q => ∃ σ w0 w m0 mu i as es Ts its d r d' env', MtAt g op x vs H Q σ w0 w m0 mu i as es Ts its d r d' env'
theorem mt_core {op : Mt} {p : P} {as : A} {o : Expr} {es : List Expr} {m mu : List Nat} {ts : List TE} (hx : XOk g c X)
    (kk : ∀ (σ : L2.St) (r : List V → Hp → VK → Prop) (Q : VK) (w : Wd), Own g.K g.CA σ w → Res g.K g.CA W σ m w (evA cf as w.env) (fun its w' => ∀ vs Ts, ItsR g.K g.CA σ w' its vs Ts → (∀ T, T ∈ Ts → ∀ a, T a → Zone m w a) → r vs w'.H Q) → tCh ts r σ w.H Q)
    (hd : ∀ i, i ∈ deepE (.pk p) → i ∉ m) (s0 : ∀ i, i ∈ m → i ∈ mu) (s1 : rootP p ∈ mu) {σ : L2.St} {H : Hp} {Q : VK} (q : tE g W mu (evE cf (.mt op p as)) σ H Q) :
    tPg g W cf p σ H fun x H1 => tyV g.K "list" x H1 ∧ tCh ts (fun vs H2 Q => MtRd g op x vs H2 Q) σ H1 Q := by
  obtain ⟨w, rfl, o0, r⟩ := q
  refine ⟨w, rfl, o0, ?_⟩
  rw [evE] at r
  refine (r.bind' (mu1 := []) nil_sub).mono (fun ia w1 ev1 o1 g1 q1 v it => ?_) fun _ z => z
  split at q1
  · exact q1.elim
  rename_i hl
  obtain ⟨d0, h0⟩ : ∃ d, look w1.env (.ref (rootP p) ia) = some d := by
    cases e : look w1.env (.ref (rootP p) ia) with
    | none => rw [e] at hl; exact absurd rfl hl
    | some d => exact ⟨d, rfl⟩
  rw [h0] at hl
  obtain ⟨x, u, T', h1, h2, h3⟩ := it.plc o1 h0
  refine ⟨?_, ?_⟩
  · cases d0 <;> try (exact absurd rfl hl)
    case lst f ds =>
      obtain ⟨a, vs, T1, rfl, e2, e3, e4⟩ := rep_lst h3.rep o1.le
      exact .inl ⟨rfl, vs, e2⟩
  · refine kk σ (fun vs H2 Q => MtRd g op v vs H2 Q) Q w1 o1 ?_
    refine Res.mono (mu := mu) (mu' := m) (Q := fun its w2 => Grow mu w w2 ∧ (∀ a, Zone m w1 a → Zone mu w a) ∧ Res g.K g.CA W σ mu w (match (look w2.env (.ref (rootP p) ia)).bind fun d => (tmps its).bind fun ds => mtS op d ds with
      | some (r, d') => match setE w2.env (rootP p) ia d' with
        | some env' => .ok (.tmp r) env'
        | none => .stuck
      | none => .stuck) fun it w' => ∀ v T, ItR g.K g.CA σ w' it v T → (∀ a, T a → Zone mu w a) → Q v w'.H) ?_ (fun its w2 ev2 o2 g2 q2 vs Ts is zs => ?_) s0
    · have z1 : ∀ a, Zone m w1 a → Zone mu w a := fun a z => g1.zone2 z nil_sub s0
      cases e : evA cf as w1.env with
      | ok its env =>
        rw [e] at q1
        exact fun w2 e2 o2 g2 => ⟨g1.seq g2 nil_sub fun _ z => z, z1, by subst e2; exact q1⟩
      | exc cc ks fs env =>
        rw [e] at q1
        exact fun w2 dx e2 o2 g2 x => q1 w2 dx e2 o2 (g1.seq g2 nil_sub fun _ z => z) (x.mono fun _ z => g1.zone2 z nil_sub fun _ z => z)
      | stuck => rw [e] at q1; exact q1.elim
    · obtain ⟨g3, z3, q3⟩ := q2
      have g4 : Grow m w w2 := g1.seq g2 nil_sub fun _ z => z
      split at q3
      · rename_i r d' hb
        split at q3
        · rename_i env' hs
          obtain ⟨d, b1, b2⟩ := Option.bind_eq_some_iff.mp hb
          obtain ⟨es', b3, b4⟩ := Option.bind_eq_some_iff.mp b2
          have it2 := it.step o1 g2 fun j a bs e hj => by
            cases e
            refine hd _ ?_ hj
            cases p with
            | v k =>
              rw [evP] at ev1
              split at ev1 <;> cases ev1
            | fd _ _ _ => exact List.mem_cons_self (l := [])
            | ix _ _ => exact List.mem_cons_self (l := [])
          exact ⟨σ, w, w2, m, mu, rootP p, ia, es', Ts, its, d, r, d', env', ⟨rfl, o2, g4, it2, b1, is, b3, b4, hs, fun T hT a ha => g1.zone2 (zs T hT a ha) nil_sub fun _ z => z, s0, s1, fun w3 v T e3 o3 g5 i5 z5 => q3 w3 e3 o3 g5 v T i5 z5⟩⟩
        · exact q3.elim
      · exact q3.elim
theorem mtrd_append {x : V} {vs : List V} {H : Hp} {Q : VK} (q : MtRd g .append x vs H Q) : rAppend x vs H Q := by
  obtain ⟨σ, w0, w, m0, mu, i, as, es, Ts, its, d, r, d', env', M⟩ := q
  obtain ⟨rU, tU⟩ := M.is.repL M.tm
  have ms := M.ms
  match d, es, ms with
  | .lst .own ds, [e], ms =>
    have ms' : (if szLt ds.length = true then some (D.non, D.lst .own (ds ++ [e])) else none) = some (r, d') := ms
    split at ms'
    · cases ms'
      obtain ⟨a, vs0, T1, rfl, h1, h2, h3, h4, h5, k⟩ := mt_put M.o M.gr M.it M.look tU (fun a ⟨T, z1, z2⟩ => M.zs T z1 a z2) M.s0 M.hi
      obtain ⟨y, r', U1, U2, e1, u2, u3, u4, u5, u6⟩ := rU
      have e2 : r' = [] := u6
      subst e2
      subst e1
      obtain ⟨w', e3, e4, o3, g3, i3, z3⟩ := k (vs0 ++ [y]) (ds ++ [e]) .non .non (fun b => T1 b ∨ U1 b) noAd env' (fun _ _ => True) M.st (fun b hb => hb.imp id (u2 b)) (fun _ z => z.elim) (fun _ _ z => z)
        (h2.appendT ⟨y, [], U1, noAd, rfl, fun _ z => z, fun _ z => z.elim, fun _ _ z => z, u5, rfl⟩ fun b z1 z2 => h5 b z1 (u2 b z2)) rfl
      refine ⟨a, vs0, y, rfl, rfl, by rw [← M.hH]; exact h1, by rw [h2.length]; exact of_decide_eq_true (by assumption), ?_⟩
      have := M.q w' .non noAd e4 o3 g3 i3 z3
      rw [e3, M.hH] at this
      exact this
    · cases ms'
theorem mtrd_pop {x : V} {vs : List V} {H : Hp} {Q : VK} (q : MtRd g .pop x vs H Q) : rPop x vs H Q := by
  obtain ⟨σ, w0, w, m0, mu, i, as, es, Ts, its, d, r, d', env', M⟩ := q
  obtain ⟨rU, tU⟩ := M.is.repL M.tm
  have ms := M.ms
  match d, es, ms with
  | .lst .own ds, [], ms =>
    obtain ⟨e, he, hp⟩ := Option.map_eq_some_iff.mp (show (ds[ds.length - 1]?).map (fun d => (d, D.lst .own ds.dropLast)) = some (r, d') from ms)
    cases hp
    obtain ⟨a, vs0, T1, rfl, h1, h2, h3, h4, h5, k⟩ := mt_put M.o M.gr M.it M.look tU (fun a ⟨T, z1, z2⟩ => M.zs T z1 a z2) M.s0 M.hi
    obtain ⟨u, U1, U2, b1, b2, b3, b4, b5, b6⟩ := h2.out he
    have el : vs0.length = ds.length := h2.length
    obtain ⟨w', e3, e4, o3, g3, i3, z3⟩ := k vs0.dropLast ds.dropLast r u U2 U1 env' (fun _ _ => True) M.st (fun b hb => .inl (b3 b hb)) (fun b hb => .inl (b2 b hb)) (fun b z1 z2 => b4 b z2 z1)
      (by rw [dropLast_erase, dropLast_erase, el]; exact b6) b5
    have ev : vs = [] := rU
    subst ev
    refine ⟨a, vs0, u, rfl, rfl, by rw [← M.hH]; exact h1, by rw [el]; exact b1, ?_⟩
    have := M.q w' u U1 e4 o3 g3 i3 z3
    rw [e3, M.hH] at this
    exact this
theorem mtrd_popAt {x : V} {vs : List V} {H : Hp} {Q : VK} (q : MtRd g .popAt x vs H Q) : rPopAt x vs H Q := by
  obtain ⟨σ, w0, w, m0, mu, i, as, es, Ts, its, d, r, d', env', M⟩ := q
  obtain ⟨rU, tU⟩ := M.is.repL M.tm
  have ms := M.ms
  match d, es, ms with
  | .lst .own ds, [.int n], ms =>
    have ms' : (if n.natAbs < 2 ^ 63 then (ixN ds.length n).bind fun j => (ds[j]?).map fun d => (d, D.lst .own (ds.eraseIdx j)) else none) = some (r, d') := ms
    split at ms'
    · rename_i hb
      obtain ⟨j, hj, ms'⟩ := Option.bind_eq_some_iff.mp ms'
      obtain ⟨e, he, hp⟩ := Option.map_eq_some_iff.mp ms'
      cases hp
      obtain ⟨a, vs0, T1, rfl, h1, h2, h3, h4, h5, k⟩ := mt_put M.o M.gr M.it M.look tU (fun a ⟨T, z1, z2⟩ => M.zs T z1 a z2) M.s0 M.hi
      obtain ⟨u, U1, U2, b1, b2, b3, b4, b5, b6⟩ := h2.out he
      have el : vs0.length = ds.length := h2.length
      obtain ⟨w', e3, e4, o3, g3, i3, z3⟩ := k (vs0.eraseIdx j) (ds.eraseIdx j) r u U2 U1 env' (fun _ _ => True) M.st (fun b hb => .inl (b3 b hb)) (fun b hb => .inl (b2 b hb)) (fun b z1 z2 => b4 b z2 z1) b6 b5
      obtain ⟨y, r', _, _, e1, _, _, _, u5, u6⟩ := rU
      have e2 : r' = [] := u6
      subst e2
      subst e1
      have e5 : y = .int n := u5
      subst e5
      obtain ⟨sj, _⟩ := ixN_seq hj
      refine ⟨a, vs0, n, j, u, rfl, rfl, by rw [← M.hH]; exact h1, by omega, by omega, by rw [el]; exact sj, b1, ?_⟩
      have := M.q w' u U1 e4 o3 g3 i3 z3
      rw [e3, M.hH] at this
      exact this
    · cases ms'
theorem mtrd_reverse {x : V} {vs : List V} {H : Hp} {Q : VK} (q : MtRd g .reverse x vs H Q) : rReverse x vs H Q := by
  obtain ⟨σ, w0, w, m0, mu, i, as, es, Ts, its, d, r, d', env', M⟩ := q
  obtain ⟨rU, tU⟩ := M.is.repL M.tm
  have ms := M.ms
  match d, es, ms with
  | .lst .own ds, [], ms =>
    cases ms
    obtain ⟨a, vs0, T1, rfl, h1, h2, h3, h4, h5, k⟩ := mt_put M.o M.gr M.it M.look tU (fun a ⟨T, z1, z2⟩ => M.zs T z1 a z2) M.s0 M.hi
    obtain ⟨w', e3, e4, o3, g3, i3, z3⟩ := k vs0.reverse ds.reverse .non .non T1 noAd env' (fun _ _ => True) M.st (fun b hb => .inl hb) (fun _ z => z.elim) (fun _ _ z => z) h2.rev rfl
    have ev : vs = [] := rU
    subst ev
    refine ⟨a, vs0, rfl, rfl, by rw [← M.hH]; exact h1, ?_⟩
    have := M.q w' .non noAd e4 o3 g3 i3 z3
    rw [e3, M.hH] at this
    exact this
theorem mtrd_clear {x : V} {vs : List V} {H : Hp} {Q : VK} (q : MtRd g .clear x vs H Q) : rClear x vs H Q := by
  obtain ⟨σ, w0, w, m0, mu, i, as, es, Ts, its, d, r, d', env', M⟩ := q
  obtain ⟨rU, tU⟩ := M.is.repL M.tm
  have ms := M.ms
  match d, es, ms with
  | .lst .own ds, [], ms =>
    cases ms
    obtain ⟨a, vs0, T1, rfl, h1, h2, h3, h4, h5, k⟩ := mt_put M.o M.gr M.it M.look tU (fun a ⟨T, z1, z2⟩ => M.zs T z1 a z2) M.s0 M.hi
    obtain ⟨w', e3, e4, o3, g3, i3, z3⟩ := k [] [] .non .non noAd noAd env' (fun _ _ => True) M.st (fun _ z => z.elim) (fun _ z => z.elim) (fun _ _ z => z) rfl rfl
    have ev : vs = [] := rU
    subst ev
    refine ⟨a, vs0, rfl, rfl, by rw [← M.hH]; exact h1, ?_⟩
    have := M.q w' .non noAd e4 o3 g3 i3 z3
    rw [e3, M.hH] at this
    exact this
def mtAr : Mt → Option Nat
  | .append => some 1
  | .pop => some 0
  | .popAt => some 1
  | .reverse => some 0
  | .clear => some 0
  | _ => none
theorem few_ok {es : List Expr} {pos : Pos} {env : PySem.Env} (hs : es.all noStar = true) (hl : es.length < 30) : ((backTo pos (starEach es env)).all (fun x => !x.1) && (backToKw pos (keywordEach [] env)).all (fun x => x.1.isSome) && decide (es.length + ([] : List Keyword).length + (if ([] : List Keyword).isEmpty then 0 else 1) < 30)) = true := by
  have h1 : (backTo pos (starEach es env)).all (fun x => !x.1) = true := by
    have := star_any (pos := pos) (env := env) hs
    rw [List.all_eq_true]
    intro x hx
    rw [List.any_eq_false] at this
    have := this x hx
    simpa using this
  have h2 : (backToKw pos (keywordEach [] env)).all (fun x => x.1.isSome) = true := rfl
  rw [h1, h2]
  simpa using hl
def mtBase : Expr → Bool
  | .Name _ _ => true
  | .Attribute _ _ _ => true
  | .Subscript _ _ _ => true
  | _ => false
theorem c_mt {op : Mt} {p : P} {as : A} {o : Expr} {es : List Expr} {apos cpos : Pos} {m mu : List Nat} (hx : XOk g c X) (ho : PE X o (tPg g W cf p)) (ha : ArgsRd g X W m (evA cf as) es) (hs : es.all noStar = true) (hn : mtAr op = some es.length) (hb : mtBase o = true) (hline : (apos.endLine == cpos.line) = true)
    (hd : ∀ i, i ∈ deepE (.pk p) → i ∉ m) (s0 : ∀ i, i ∈ m → i ∈ mu) (s1 : rootP p ∈ mu) : PE X (.Call (.Attribute o (mtName op) apos) es [] cpos) (tE g W mu (evE cf (.mt op p as))) := by
  obtain ⟨ts, ps, kk⟩ := ha
  have core := fun {σ : L2.St} {H : Hp} {Q : VK} q => mt_core (op := op) (p := p) (o := o) (es := es) (σ := σ) (H := H) (Q := Q) hx kk hd s0 s1 q
  have base : attributeBase o (mtName op) X.env (eval o X.env) = eval o X.env := attrBase hb
  cases es with
  | nil =>
    cases ps
    have z0 : ∀ {r : V → List V → Hp → VK → Prop}, (∀ x vs H Q, MtRd g op x vs H Q → r x vs H Q) → ∀ σ H Q, tE g W mu (evE cf (.mt op p as)) σ H Q → tBM0 X.K "list" r (tPg g W cf p) σ H Q := fun {r} h σ H Q q => by
      show tPg g W cf p σ H fun x H1 => tyV X.K "list" x H1 ∧ r x [] H1 Q
      refine tP_mono σ H _ _ (fun x H1 q1 => ?_) (core q)
      rw [hx.K]
      exact ⟨q1.1, h x [] H1 Q q1.2⟩
    cases op <;> try (cases hn; done)
    case pop => exact pe_is (pe_bm0 PySem.F.plainAttrs_list PySem.F.slot_list_pop PySem.F.type_list_pop mt_pop ho base hline) (z0 fun _ _ _ _ => mtrd_pop)
    case reverse => exact pe_is (pe_bm0 PySem.F.plainAttrs_list PySem.F.slot_list_reverse PySem.F.type_list_reverse mt_reverse ho base hline) (z0 fun _ _ _ _ => mtrd_reverse)
    case clear => exact pe_is (pe_bm0 PySem.F.plainAttrs_list PySem.F.slot_list_clear PySem.F.type_list_clear mt_clear ho base hline) (z0 fun _ _ _ _ => mtrd_clear)
  | cons e es =>
    have hs' := hs
    rw [List.all_cons, Bool.and_eq_true] at hs
    have z1 : ∀ {r : V → List V → Hp → VK → Prop}, (∀ x vs H Q, MtRd g op x vs H Q → r x vs H Q) → ∀ σ H Q, tE g W mu (evE cf (.mt op p as)) σ H Q → tBM X.K "list" r (tPg g W cf p) (tArgs ts) σ H Q := fun {r} h σ H Q q => by
      show tPg g W cf p σ H fun x H1 => tyV X.K "list" x H1 ∧ tArgs ts σ H1 fun xs H2 => r x xs H2 Q
      refine tP_mono σ H _ _ (fun x H1 q1 => ?_) (core q)
      rw [hx.K]
      refine ⟨q1.1, ?_⟩
      rw [tArgs_tCh (r := fun xs H2 Q => r x xs H2 Q)]
      exact tCh_mono ps (fun vs H2 q2 => h x vs H2 Q q2) q1.2
    have hl : (e :: es).length < 30 := by
      cases op <;> first | (have := Option.some.inj hn; omega) | cases hn
    cases op <;> try (cases hn; done)
    case append => exact pe_is (pe_bm PySem.F.plainAttrs_list PySem.F.slot_list_append PySem.F.type_list_append mt_append ho (pa_of ps hs') base (few_ok hs' hl) hline (star_cons hs.1) (star_any hs.2)) (z1 fun _ _ _ _ => mtrd_append)
    case popAt => exact pe_is (pe_bm PySem.F.plainAttrs_list PySem.F.slot_list_pop PySem.F.type_list_pop mt_popAt ho (pa_of ps hs') base (few_ok hs' hl) hline (star_cons hs.1) (star_any hs.2)) (z1 fun _ _ _ _ => mtrd_popAt)
end
end Z

/-! Z18: what is walked. -/
namespace Z
open PySem L2 PySem.Spec PyProof.Rows
section
variable {g : G} {c : Cxt} {X : Cx} {W : WX} {cf : Nat → List D → CR}
/-- a later heap, seen from a world: the slots outside mb are as they were -/
def Stay (mb : List Nat) (w : Wd) (F H : Hp) : Prop := Le w.F F ∧ Le F H ∧ ∀ r a, r ∉ mb → w.S r a → H a = w.H a
theorem Grow.stay {K : PySem.W.Frag} {CA : Cls} {σ : L2.St} {mb : List Nat} {w w2 : Wd} (g2 : Grow mb w w2) (o : Own K CA σ w) (le : Le w2.F w2.H) : Stay mb w w2.F w2.H :=
  ⟨g2.fle, le, fun r a hr hs => g2.keep a (o.trk r a hs).1 fun i hi hi2 => o.dis i r a (fun e => hr (e ▸ hi)) hi2 hs⟩
/-- J gives the items of xs, one after another, while what it looks at stays -/
def Src (g : G) (mb : List Nat) (w : Wd) (xs : List D) (J : It) : Prop :=
  ∃ (Gd : Hp → Prop) (Y : Nat → Hp → V → Hp → Prop), Walk J xs.length Gd Y ∧ ∀ F H, Stay mb w F H →
    Gd H ∧ ∀ i v H', i < xs.length → Y i H v H' → ∃ d F', xs[i]? = some d ∧ Le F F' ∧ Le F' H' ∧ Le H H' ∧ (∀ a, F' a ≠ none → F a ≠ none ∨ H a = none) ∧ Rep g.K g.CA F' F' d v noAd
/-- the reading of a source -/
def tIt (g : G) (W : WX) (mi mb : List Nat) (f : Env → R (List D)) : TI := fun σ H Rr => ∃ w, w.H = H ∧ Own g.K g.CA σ w ∧ Res g.K g.CA W σ mi w (f w.env) fun xs w' => ∀ J, Src g mb w' xs J → Rr J w'.H
theorem pi_is {tg iter : Expr} {t u : TI} (h : PI X tg iter t) (k : ∀ σ H Q, u σ H Q → t σ H Q) : PI X tg iter u := ⟨fun pins s σ H R I q => h.run pins s σ H R I (k σ H R q)⟩
theorem RepL.ati {K : PySem.W.Frag} {CA : Cls} {F : Hp} : ∀ {ds : List D} {vs : List V} {i : Nat} {v : V}, RepL K CA F F ds vs noAd → vs[i]? = some v → ∃ d, ds[i]? = some d ∧ Rep K CA F F d v noAd
  | [], vs, i, v, h, e => by rw [show vs = [] from h] at e; simp at e
  | d :: ds, vs, 0, v, h, e => by
    obtain ⟨u, r, T1, T2, rfl, h2, h3, h4, h5, h6⟩ := h
    cases (show u = v by simpa using e)
    exact ⟨d, rfl, h5.up (Le.refl _) (fun _ _ => rfl) h2⟩
  | d :: ds, vs, i + 1, v, h, e => by
    obtain ⟨u, r, T1, T2, rfl, h2, h3, h4, h5, h6⟩ := h
    exact RepL.ati (ds := ds) (i := i) (h6.up (Le.refl _) (fun _ _ => rfl) h3) (by simpa using e)
/-- a world whose own cells T are frozen -/
noncomputable def frzW (w : Wd) (T : Ad) : Wd := ⟨frzF w.F w.H T, w.H, w.S, w.env⟩
theorem frzW_own {σ : L2.St} {w : Wd} {T : Ad} (o : Own g.K g.CA σ w) (t : Tmp w T) : Own g.K g.CA σ (frzW w T) :=
  o.grow (frzF_le o.le fun a z => (t a z).2.1) (frzF_le2 o.le) (fun _ _ _ => rfl) fun a ha => by
    by_cases ht : T a
    · exact .inr (t a ht).2.2
    · rw [frzF_out ht] at ha; exact .inl ha
theorem frzW_grow {m : List Nat} {w0 w : Wd} {T : Ad} (gr : Grow m w0 w) {σ : L2.St} (o : Own g.K g.CA σ w) (t : Tmp w T) (z : ∀ a, T a → Zone m w0 a) : Grow m w0 (frzW w T) :=
  ⟨gr.fle.trans (frzF_le o.le fun a z => (t a z).2.1), gr.keep, gr.oth, gr.env, gr.len, gr.new, fun a ha => by
    by_cases ht : T a
    · exact .inr (z a ht)
    · exact gr.newF a (by rwa [show (frzW w T).F a = w.F a from frzF_out ht] at ha)⟩
/-- the lists that are walked -/
def LsAt (g : G) (mb : List Nat) (w : Wd) (xs : List D) (v : V) : Prop :=
  ∃ a vs, v = .ref a ∧ xs.length = vs.length ∧ ∀ F H, Stay mb w F H → SqL g.K H a vs ∧ RepL g.K g.CA F F xs vs noAd
/-- a value of nobody's is frozen -/
theorem c_frz {e : E} {x : Expr} {mu : List Nat} (h : PE X x (tE g W mu (evE cf e))) : PE X x (tE g W mu (evE cf (.frz e))) := pe_is h fun σ H Q q => by
  obtain ⟨w, rfl, o, r⟩ := q
  refine ⟨w, rfl, o, ?_⟩
  rw [evE] at r
  refine (r.bind' (mu1 := mu) fun _ z => z).mono (fun it w1 ev o1 g1 q1 v T i z => ?_) fun _ z => z
  cases it with
  | ref _ _ => exact q1.elim
  | tmp d =>
    have hT : ∀ a, T a → w1.F a = none := fun a ha => (i.2 a ha).2.1
    exact q1 (frzW w1 T) rfl (frzW_own o1 i.2) (frzW_grow g1 o1 i.2 z) v noAd ⟨(i.1.freeze (frzF_le o1.le hT) fun a ha => frzF_in ha).pureH, Tmp.none⟩ fun _ z => z.elim
theorem srcL_ok {σ : L2.St} {m mb : List Nat} {w0 w1 : Wd} {it : Itm} {v : V} {T : Ad} {xs : List D} (o : Own g.K g.CA σ w1) (gr : Grow m w0 w1) (i : ItR g.K g.CA σ w1 it v T) (z : ∀ a, T a → Zone m w0 a) (hr : ∀ j as, it = .ref j as → j ∉ mb)
    (h : srcL w1.env it = some xs) : ∃ U : Ad, (∀ a, U a → T a) ∧ Own g.K g.CA σ (frzW w1 U) ∧ Grow m w0 (frzW w1 U) ∧ Tmp w1 U ∧ LsAt g mb (frzW w1 U) xs v := by
  have noU : Own g.K g.CA σ (frzW w1 noAd) ∧ Grow m w0 (frzW w1 noAd) ∧ Tmp w1 noAd := ⟨frzW_own o Tmp.none, frzW_grow gr o Tmp.none fun _ z => z.elim, Tmp.none⟩
  match it, h, i, hr with
  | .tmp d, h, i, _ =>
    obtain ⟨r, t⟩ := i
    unfold srcL at h
    split at h
    · rename_i ds e
      cases e
      cases h
      refine ⟨T, fun _ z => z, frzW_own o t, frzW_grow gr o t z, t, ?_⟩
      have fr : Rep g.K g.CA (frzF w1.F w1.H T) (frzF w1.F w1.H T) _ v noAd := r.freeze (frzF_le o.le fun a z => (t a z).2.1) fun a ha => frzF_in ha
      obtain ⟨a, vs, e1, e2, e3⟩ := fr
      refine ⟨a, vs, e1, (RepL.length e3).symm, fun F H s => ?_⟩
      exact ⟨SqL.of (s.2.1 _ _ (s.1 _ _ e2)), e3.up s.1 (fun _ z => z.elim) fun _ z => z⟩
    · rename_i fl ds e1 e
      cases e
      cases h
      refine ⟨noAd, fun _ z => z.elim, noU.1, noU.2.1, noU.2.2, ?_⟩
      have le : Le w1.F (frzF w1.F w1.H noAd) := frzF_le o.le fun a z => z.elim
      cases fl with
      | own => exact (e1 rfl).elim
      | frz =>
        obtain ⟨a, vs, e1, e2, e3⟩ := r
        exact ⟨a, vs, e1, (RepL.length e3).symm, fun F H s => ⟨SqL.of (s.2.1 _ _ (s.1 _ _ (le _ _ e2))), e3.up (le.trans s.1) (fun _ z => z.elim) fun _ z => z⟩⟩
      | scr =>
        obtain ⟨a, vs, e1, e2, e3⟩ := r
        exact ⟨a, vs, e1, (RepL.length e3).symm, fun F H s => ⟨((le.trans s.1).trans s.2.1).sqL e2, e3.up (le.trans s.1) (fun _ z => z.elim) fun _ z => z⟩⟩
    · cases h
    · rename_i e
      cases e
  | .ref j as, h, i, hr =>
    obtain ⟨d, h1, h2⟩ := Option.bind_eq_some_iff.mp (show (look w1.env (.ref j as)).bind _ = some xs from h)
    split at h2
    · rename_i fl ds
      split at h2
      · rename_i hp
        cases h2
        obtain ⟨x0, u, T', k1, k2, k3⟩ := i.plc o h1
        refine ⟨noAd, fun _ z => z.elim, noU.1, noU.2.1, noU.2.2, ?_⟩
        have le : Le w1.F (frzF w1.F w1.H noAd) := frzF_le o.le fun a z => z.elim
        have r := k3.rep
        have hj := hr j as rfl
        cases fl with
        | own =>
          obtain ⟨a, vs, T2, e1, e2, e3, e4, e5, e6⟩ := r
          refine ⟨a, vs, e1, (RepL.length e6).symm, fun F H s => ⟨SqL.of ?_, (e6.pures hp).up (le.trans s.1) (fun _ z => z.elim) fun _ z => z⟩⟩
          rw [s.2.2 j a hj (k3.sub a e3)]
          exact e2
        | frz =>
          obtain ⟨a, vs, e1, e2, e3⟩ := r
          exact ⟨a, vs, e1, (RepL.length e3).symm, fun F H s => ⟨SqL.of (s.2.1 _ _ (s.1 _ _ (le _ _ e2))), e3.up (le.trans s.1) (fun _ z => z.elim) fun _ z => z⟩⟩
        | scr =>
          obtain ⟨a, vs, e1, e2, e3⟩ := r
          exact ⟨a, vs, e1, (RepL.length e3).symm, fun F H s => ⟨((le.trans s.1).trans s.2.1).sqL e2, e3.up (le.trans s.1) (fun _ z => z.elim) fun _ z => z⟩⟩
      · cases h2
    · cases h2
theorem LsAt.frz {mb : List Nat} {w : Wd} {T : Ad} {xs : List D} {v : V} (h : LsAt g mb w xs v) (le : Le w.F w.H) (t : Tmp w T) : LsAt g mb (frzW w T) xs v := by
  obtain ⟨a, vs, e1, e2, k⟩ := h
  exact ⟨a, vs, e1, e2, fun F H s => k F H ⟨(frzF_le le fun a z => (t a z).2.1).trans s.1, s.2.1, s.2.2⟩⟩
theorem ItR.frz {σ : L2.St} {w : Wd} {it : Itm} {v : V} {T U : Ad} (h : ItR g.K g.CA σ w it v T) (o : Own g.K g.CA σ w) (t : Tmp w U) (dj : ∀ a, U a → T a → False) : ItR g.K g.CA σ (frzW w U) it v T := by
  have le : Le w.F (frzF w.F w.H U) := frzF_le o.le fun a z => (t a z).2.1
  match it, h with
  | .tmp d, h => exact ⟨h.1.up le (fun _ _ => rfl) fun _ z => z, fun a ha => ⟨(h.2 a ha).1, (frzF_out fun z => dj a z ha).trans (h.2 a ha).2.1, (h.2 a ha).2.2⟩⟩
  | .ref i [], h => exact h
  | .ref i (a :: as), h =>
    obtain ⟨h1, x, u, d, T', h2, h3, h4⟩ := h
    exact ⟨h1, x, u, d, T', h2, h3, h4.up le fun _ _ => rfl⟩
theorem src_list {mb : List Nat} {w : Wd} {xs : List D} {v : V} (h : LsAt g mb w xs v) : ∃ a, v = .ref a ∧ ∃ vs, (∀ F H, Stay mb w F H → SqL g.K H a vs) ∧ Src g mb w xs (Itl g.K a) := by
  obtain ⟨a, vs, e1, e2, k⟩ := h
  refine ⟨a, e1, vs, fun F H s => (k F H s).1, fun H => SqL g.K H a vs, YAt vs, by rw [e2]; exact walk_list, fun F H s => ⟨(k F H s).1, fun i x H' hi y => ?_⟩⟩
  obtain ⟨rfl, hx⟩ := y
  obtain ⟨d, h1, h2⟩ := (k F H' s).2.ati hx
  exact ⟨d, F, h1, Le.refl _, s.2.1, Le.refl _, fun _ z => .inl z, h2⟩
theorem Res.grow {K : PySem.W.Frag} {CA : Cls} {α : Type} {σ : L2.St} {mu mu1 : List Nat} {w w1 : Wd} {r : R α} {Q : α → Wd → Prop} (h : Res K CA W σ mu w r Q) (g1 : Grow mu1 w w1) (s : ∀ i, i ∈ mu1 → i ∈ mu) : Res K CA W σ mu w1 r Q := by
  cases r with
  | ok a env => exact fun w' e o g => h w' e o ((g1.mono s).trans g)
  | exc c ks fs env => exact fun w' dx e o g x => h w' dx e o ((g1.mono s).trans g) (x.mono fun _ z => (g1.mono s).zone z)
  | stuck => exact h
theorem pair_ok {F H H' : Hp} {a b : D} {x y v : V} {T : Addr} (le : Le F H) (r1 : Rep g.K g.CA F F a x noAd) (r2 : Rep g.K g.CA F F b y noAd) (hv : v = .ref T) (hT : H T = none) (hH : H' = upd H T (.tup [x, y])) :
    ∃ F', Le F F' ∧ Le F' H' ∧ Le H H' ∧ (∀ a, F' a ≠ none → F a ≠ none ∨ H a = none) ∧ Rep g.K g.CA F' F' (.tup [a, b]) v noAd := by
  subst hv hH
  have hF := le_none le hT
  refine ⟨upd F T (.tup [x, y]), le_new hF, le_upd2 le, le_new hT, fun q hq => ?_, T, [x, y], rfl, SqT.of upd_same, ?_⟩
  · by_cases e : q = T
    · subst e; exact .inr hT
    · rw [upd_ne e] at hq; exact .inl hq
  · exact ⟨x, [y], noAd, noAd, rfl, fun _ z => z, fun _ z => z, fun _ z _ => z, r1.up (le_new hF) (fun _ z => z.elim) fun _ z => z, y, [], noAd, noAd, rfl, fun _ z => z, fun _ z => z, fun _ z _ => z, r2.up (le_new hF) (fun _ z => z.elim) fun _ z => z, rfl⟩
theorem enumD_length : ∀ (ds : List D) (i : Nat), (enumD i ds).length = ds.length
  | [], _ => rfl
  | _ :: ds, i => congrArg (· + 1) (enumD_length ds (i + 1))
theorem enumD_at : ∀ {ds : List D} {i j : Nat} {d : D}, ds[j]? = some d → (enumD i ds)[j]? = some (.tup [.int ((i + j : Nat) : Int), d])
  | [], _, _, _, h => by simp at h
  | d0 :: ds, i, 0, d, h => by cases (show d0 = d by simpa using h); rfl
  | d0 :: ds, i, j + 1, d, h => by
    show (enumD (i + 1) ds)[j]? = _
    rw [enumD_at (j := j) (by simpa using h), show i + 1 + j = i + (j + 1) from by omega]
theorem src_enum {mb : List Nat} {w : Wd} {xs : List D} {v : V} (h : LsAt g mb w xs v) : ∃ a, v = .ref a ∧ ∃ vs, (∀ F H, Stay mb w F H → SqL g.K H a vs) ∧ Src g mb w (enumD 0 xs) (Ite g.K a) := by
  obtain ⟨a, vs, e1, e2, k⟩ := h
  refine ⟨a, e1, vs, fun F H s => (k F H s).1, fun H => SqL g.K H a vs, _, by rw [enumD_length, e2]; exact walk_enum, fun F H s => ⟨(k F H s).1, fun i v H' hi y => ?_⟩⟩
  obtain ⟨T, x, y, h1, h2, h3, h4, h5⟩ := y
  cases h4
  obtain ⟨d, k1, k2⟩ := (k F H s).2.ati h5
  obtain ⟨F', q1, q2, q3, q4, q5⟩ := pair_ok (a := .int (i : Nat)) (x := .int (i : Nat)) s.2.1 rfl k2 h1 h2 h3
  exact ⟨.tup [.int (i : Nat), d], F', (enumD_at (i := 0) k1).trans (by rw [Nat.zero_add]), q1, q2, q3, q4, q5⟩
theorem zipD_length : ∀ (xs ys : List D), (zipD xs ys).length = min xs.length ys.length
  | [], _ => by simp [zipD]
  | _ :: _, [] => by simp [zipD]
  | _ :: xs, _ :: ys => by
    show (zipD xs ys).length + 1 = min (xs.length + 1) (ys.length + 1)
    rw [zipD_length xs ys]
    omega
theorem zipD_at : ∀ {xs ys : List D} {j : Nat} {a b : D}, xs[j]? = some a → ys[j]? = some b → (zipD xs ys)[j]? = some (.tup [a, b])
  | [], _, _, _, _, h, _ => by simp at h
  | _ :: _, [], _, _, _, _, h => by simp at h
  | x :: xs, y :: ys, 0, a, b, h, k => by cases (show x = a by simpa using h); cases (show y = b by simpa using k); rfl
  | x :: xs, y :: ys, j + 1, a, b, h, k => zipD_at (xs := xs) (ys := ys) (j := j) (by simpa using h) (by simpa using k)
theorem src_zip {mb : List Nat} {w : Wd} {xs ys : List D} {v u : V} (h : LsAt g mb w xs v) (h' : LsAt g mb w ys u) : ∃ a b, v = .ref a ∧ u = .ref b ∧ ∃ vs us, (∀ F H, Stay mb w F H → SqL g.K H a vs ∧ SqL g.K H b us) ∧ Src g mb w (zipD xs ys) (Itz g.K a b) := by
  obtain ⟨a, vs, e1, e2, k⟩ := h
  obtain ⟨b, us, f1, f2, l⟩ := h'
  refine ⟨a, b, e1, f1, vs, us, fun F H s => ⟨(k F H s).1, (l F H s).1⟩, _, _, walk_zip (by rw [zipD_length, e2, f2]), fun F H s => ⟨⟨(k F H s).1, (l F H s).1⟩, fun i v H' hi y => ?_⟩⟩
  obtain ⟨T, x, y, h1, h2, h3, h4, h5⟩ := y
  obtain ⟨d, k1, k2⟩ := (k F H s).2.ati h4
  obtain ⟨e, l1, l2⟩ := (l F H s).2.ati h5
  obtain ⟨F', q1, q2, q3, q4, q5⟩ := pair_ok s.2.1 k2 l2 h1 h2 h3
  exact ⟨.tup [d, e], F', zipD_at k1 l1, q1, q2, q3, q4, q5⟩
theorem src_tup {mb : List Nat} {w : Wd} {xs : List D} {v : V} (le : Le w.F w.H) (h : Rep g.K g.CA w.F w.H (.tup xs) v noAd) : ∃ a vs, v = .ref a ∧ SqT g.K w.H a vs ∧ Src g mb w xs (Itt g.K a) := by
  obtain ⟨a, vs, e1, e2, e3⟩ := h
  have hl := RepL.length e3
  refine ⟨a, vs, e1, le.sqT e2, fun H => SqT g.K H a vs, YAt vs, by rw [← hl]; exact walk_tup, fun F H s => ⟨(s.1.trans s.2.1).sqT e2, fun i x H' hi y => ?_⟩⟩
  obtain ⟨rfl, hx⟩ := y
  obtain ⟨d, h1, h2⟩ := (e3.up s.1 (fun _ z => z.elim) fun _ z => z).ati hx
  exact ⟨d, F, h1, Le.refl _, s.2.1, Le.refl _, fun _ z => .inl z, h2⟩
theorem src_str {mb : List Nat} {w : Wd} {s : Str} : Src g mb w (s.cps.toList.map fun c => .str ⟨#[c]⟩) (Its s) := by
  refine ⟨fun _ => True, _, by rw [List.length_map]; exact walk_str, fun F H st => ⟨trivial, fun i x H' hi y => ?_⟩⟩
  obtain ⟨rfl, c, h1, rfl⟩ := y
  refine ⟨.str ⟨#[c]⟩, F, ?_, Le.refl _, st.2.1, Le.refl _, fun _ z => .inl z, rfl⟩
  rw [List.getElem?_map, Array.getElem?_toList, h1]
  rfl
theorem rangeD_at {lo c : Int} {n i : Nat} (h : i < n) : (rangeD lo n c)[i]? = some (.int (lo + (i : Nat) * c)) := by
  unfold rangeD
  rw [List.getElem?_map, List.getElem?_range h]
  rfl
theorem rangeD_length {lo c : Int} {n : Nat} : (rangeD lo n c).length = n := by
  unfold rangeD
  rw [List.length_map, List.length_range]
theorem src_range {mb : List Nat} {w : Wd} {lo : Int} {n : Nat} : Src g mb w (rangeD lo n 1) (Itr lo n) := by
  refine ⟨fun _ => True, _, by rw [rangeD_length]; exact walk_range, fun F H st => ⟨trivial, fun i x H' hi y => ?_⟩⟩
  obtain ⟨rfl, rfl⟩ := y
  rw [rangeD_length] at hi
  refine ⟨_, F, rangeD_at hi, Le.refl _, st.2.1, Le.refl _, fun _ z => .inl z, ?_⟩
  rw [Int.mul_one]
  rfl

theorem walk_zipT {K : PySem.W.Frag} {a b : Addr} {xs ys : List V} {n : Nat} (hn : n = min xs.length ys.length) : Walk (RZ.ItzT K a b) n (fun H => SqT K H a xs ∧ SqT K H b ys) (YPair (fun i => xs[i]?) (fun i => ys[i]?)) := by
  subst hn
  refine ⟨fun i _ hi qq => ?_, fun _ qq => ⟨xs, ys, qq.1, qq.2, by omega⟩, fun i H v H' _ q yy => ?_⟩
  · have k1 : i < xs.length := by omega
    have k2 : i < ys.length := by omega
    exact ⟨xs, ys, xs[i], ys[i], qq.1, qq.2, by simp [k1], by simp [k2]⟩
  · obtain ⟨T, x, z, k1, k2, k3, k4, k5⟩ := yy
    exact ⟨T, x, z, k1, k2, k3, k4 xs q.1, k5 ys q.2⟩
theorem src_zipT {mb : List Nat} {w : Wd} {xs ys : List D} {v u : V} (le : Le w.F w.H) (h : Rep g.K g.CA w.F w.H (.tup xs) v noAd) (h' : Rep g.K g.CA w.F w.H (.tup ys) u noAd) : ∃ a b vs us, v = .ref a ∧ u = .ref b ∧ SqT g.K w.H a vs ∧ SqT g.K w.H b us ∧ Src g mb w (zipD xs ys) (RZ.ItzT g.K a b) := by
  obtain ⟨a, vs, e1, e2, e3⟩ := h
  obtain ⟨b, us, f1, f2, f3⟩ := h'
  refine ⟨a, b, vs, us, e1, f1, le.sqT e2, le.sqT f2, _, _, walk_zipT (by rw [zipD_length, e3.length, f3.length]), fun F H s => ⟨⟨(s.1.trans s.2.1).sqT e2, (s.1.trans s.2.1).sqT f2⟩, fun i v H' hi y => ?_⟩⟩
  obtain ⟨T, x, y, h1, h2, h3, h4, h5⟩ := y
  obtain ⟨d, k1, k2⟩ := RepL.ati (e3.up s.1 (fun _ z => z.elim) fun _ z => z) h4
  obtain ⟨e, l1, l2⟩ := RepL.ati (f3.up s.1 (fun _ z => z.elim) fun _ z => z) h5
  obtain ⟨F', q1, q2, q3, q4, q5⟩ := pair_ok s.2.1 k2 l2 h1 h2 h3
  exact ⟨.tup [d, e], F', zipD_at k1 l1, q1, q2, q3, q4, q5⟩

/-! ### the rules -/
theorem i_lst {tg x : Expr} {e : E} {mi mb : List Nat} (hx : XOk g c X) (h : PE X x (tE g W mi (evE cf e))) (hr : ∀ i, i ∈ refE e → i ∉ mb) : PI X tg x (tIt g W mi mb (evI cf (.lst e))) :=
  pi_is (pi_list h) fun σ H Rr q => by
    obtain ⟨w, rfl, o, r⟩ := q
    rw [hx.K]
    refine ⟨w, rfl, o, ?_⟩
    rw [evI] at r
    refine (r.bind' (mu1 := mi) fun _ z => z).mono (fun it w1 ev o1 g1 q1 v T i z => ?_) fun _ z => z
    cases e1 : srcL w1.env it with
    | none => rw [e1] at q1; exact q1.elim
    | some xs =>
      rw [e1] at q1
      obtain ⟨U, u1, o2, g2, t2, ls⟩ := srcL_ok o1 g1 i z (fun j as e2 hj => hr j (by subst e2; exact (evE_ref ev).1) hj) e1
      obtain ⟨a, rfl, vs, k, s⟩ := src_list ls
      exact ⟨a, rfl, ⟨vs, k _ _ ⟨Le.refl _, o2.le, fun _ _ _ _ => rfl⟩⟩, q1 (frzW w1 U) rfl o2 g2 _ s⟩
theorem i_enum {x : Expr} {e : E} {mi mb : List Nat} {p pos tpos : Pos} {elts : List Expr} {kk : Nat} (hx : XOk g c X) (hg : glB c "enumerate" = true) (hm : g.blt.contains "enumerate" = true) (h : PE X x (tE g W mi (evE cf e))) (hs : noStar x = true) (hr : ∀ i, i ∈ refE e → i ∉ mb) :
    PI X (.Tuple elts kk tpos) (.Call (.Name "enumerate" p) [x] [] pos) (tIt g W mi mb (evI cf (.enm e))) :=
  pi_is (pi_enum (hx.gl hg) (hx.no hm) (pa_of (.cons h tI_mono .nil) (by rw [List.all_cons, hs]; rfl)) (star_cons hs)) fun σ H Rr q => by
    obtain ⟨w, rfl, o, r⟩ := q
    rw [hx.K]
    refine ⟨w, rfl, o, ?_⟩
    rw [evI] at r
    refine (r.bind' (mu1 := mi) fun _ z => z).mono (fun it w1 ev o1 g1 q1 v T i z => ?_) fun _ z => z
    cases e1 : srcL w1.env it with
    | none => rw [e1] at q1; exact q1.elim
    | some xs =>
      rw [e1] at q1
      obtain ⟨U, u1, o2, g2, t2, ls⟩ := srcL_ok o1 g1 i z (fun j as e2 hj => hr j (by subst e2; exact (evE_ref ev).1) hj) e1
      obtain ⟨a, rfl, vs, k, s⟩ := src_enum ls
      exact ⟨a, vs, rfl, k _ _ ⟨Le.refl _, o2.le, fun _ _ _ _ => rfl⟩, q1 (frzW w1 U) rfl o2 g2 _ s⟩
theorem i_tup {tg x : Expr} {e : E} {mi mb : List Nat} (hx : XOk g c X) (h : PE X x (tE g W mi (evE cf e))) : PI X tg x (tIt g W mi mb (evI cf (.tup e))) :=
  pi_is (pi_tup h) fun σ H Rr q => by
    obtain ⟨w, rfl, o, r⟩ := q
    rw [hx.K]
    refine ⟨w, rfl, o, ?_⟩
    rw [evI] at r
    refine (r.bind' (mu1 := mi) fun _ z => z).mono (fun it w1 ev o1 g1 q1 v T i z => ?_) fun _ z => z
    unfold srcT at q1
    split at q1
    · rename_i xs e1
      split at e1
      · cases e1
        obtain ⟨a, vs, e2, e3, s⟩ := src_tup (mb := mb) o1.le i.1
        exact ⟨a, e2, ⟨vs, e3⟩, q1 w1 rfl o1 g1 _ s⟩
      · cases e1
    · exact q1.elim
theorem i_str {tg x : Expr} {e : E} {mi mb : List Nat} (h : PE X x (tE g W mi (evE cf e))) : PI X tg x (tIt g W mi mb (evI cf (.str e))) :=
  pi_is (pi_str h) fun σ H Rr q => by
    obtain ⟨w, rfl, o, r⟩ := q
    refine ⟨w, rfl, o, ?_⟩
    rw [evI] at r
    refine (r.bind' (mu1 := mi) fun _ z => z).mono (fun it w1 ev o1 g1 q1 v T i z => ?_) fun _ z => z
    split at q1
    · exact ⟨_, i.1, q1 w1 rfl o1 g1 _ src_str⟩
    · exact q1.elim
theorem bd_of {i : Int} (h : bd i = true) : -(2 ^ 62) ≤ i ∧ i < 2 ^ 62 := by
  have h : i.natAbs < 2 ^ 62 := of_decide_eq_true h
  omega
theorem i_rng1 {tg x : Expr} {e : E} {mi mb : List Nat} {p pos : Pos} (hx : XOk g c X) (hg : glB c "range" = true) (hm : g.blt.contains "range" = true) (h : PE X x (tE g W mi (evE cf e))) (hs : noStar x = true) :
    PI X tg (.Call (.Name "range" p) [x] [] pos) (tIt g W mi mb (evI cf (.rng1 e))) :=
  pi_is (pi_range1 (hx.gl hg) (hx.no hm) (pa_of (.cons h tI_mono .nil) (by rw [List.all_cons, hs]; rfl)) (star_cons hs)) fun σ H Rr q => by
    obtain ⟨w, rfl, o, r⟩ := q
    refine ⟨w, rfl, o, ?_⟩
    rw [evI] at r
    refine (r.bind' (mu1 := mi) fun _ z => z).mono (fun it w1 ev o1 g1 q1 v T i z => ?_) fun _ z => z
    split at q1
    · split at q1
      · rename_i n hb
        have b := bd_of hb
        exact ⟨n, by rw [show v = V.int n from i.1], b.1, b.2, q1 w1 rfl o1 g1 _ src_range⟩
      · exact q1.elim
    · exact q1.elim
theorem i_rng2 {tg x y : Expr} {e e2 : E} {mi m1 m2 mb : List Nat} {p pos : Pos} (hx : XOk g c X) (hg : glB c "range" = true) (hm : g.blt.contains "range" = true) (h : PE X x (tE g W m1 (evE cf e))) (h2 : PE X y (tE g W m2 (evE cf e2))) (hs : noStar x = true) (hs2 : noStar y = true) (s1 : ∀ i, i ∈ m1 → i ∈ mi) (s2 : ∀ i, i ∈ m2 → i ∈ mi) :
    PI X tg (.Call (.Name "range" p) [x, y] [] pos) (tIt g W mi mb (evI cf (.rng2 e e2))) :=
  pi_is (pi_range2 (hx.gl hg) (hx.no hm) (pa_of (.cons h tI_mono (.cons h2 tI_mono .nil)) (by rw [List.all_cons, List.all_cons, hs, hs2]; rfl)) ((star_cons hs).trans (by rw [star_cons hs2]; rfl)) (by rw [star_cons hs2]; rfl)) fun σ H Rr q => by
    obtain ⟨w, rfl, o, r⟩ := q
    refine ⟨w, rfl, o, ?_⟩
    rw [evI] at r
    refine (r.bind' (mu1 := m1) s1).mono (fun it w1 ev o1 g1 q1 v T i z => ?_) fun _ z => z
    refine ⟨w1, rfl, o1, ?_⟩
    refine ((q1.bind' (mu1 := mi) fun _ z => z).grow g1 s1).mono (fun it2 w2 ev2 o2 g2 q2 v2 T2 i2 z2 => ?_) s2
    split at q2
    · split at q2
      · rename_i a b hb
        rw [Bool.and_eq_true] at hb
        have b1 := bd_of hb.1
        have b2 := bd_of hb.2
        exact ⟨a, b, by rw [show v = V.int a from i.1, show v2 = V.int b from i2.1], ⟨b1.1, b1.2, b2.1, b2.2⟩, q2 w2 rfl o2 ((g1.mono s1).trans (g2.mono s2)) _ src_range⟩
      · exact q2.elim
    · exact q2.elim
theorem src_rangeD {mb : List Nat} {w : Wd} {lo c : Int} {n : Nat} : Src g mb w (rangeD lo n c) (Itc lo c n) := by
  refine ⟨fun _ => True, _, by rw [rangeD_length]; exact walk_rangeC, fun F H st => ⟨trivial, fun i x H' hi y => ?_⟩⟩
  obtain ⟨rfl, rfl⟩ := y
  rw [rangeD_length] at hi
  exact ⟨_, F, rangeD_at hi, Le.refl _, st.2.1, Le.refl _, fun _ z => .inl z, rfl⟩
theorem i_rngD {tg x y z' : Expr} {e e2 e3 : E} {mi m1 m2 m3 mb : List Nat} {p pos : Pos} (hx : XOk g c X) (hg : glB c "range" = true) (hm : g.blt.contains "range" = true) (h : PE X x (tE g W m1 (evE cf e))) (h2 : PE X y (tE g W m2 (evE cf e2))) (h3 : PE X z' (tE g W m3 (evE cf e3))) (hs : noStar x = true) (hs2 : noStar y = true) (hs3 : noStar z' = true)
    (s1 : ∀ i, i ∈ m1 → i ∈ mi) (s2 : ∀ i, i ∈ m2 → i ∈ mi) (s3 : ∀ i, i ∈ m3 → i ∈ mi) :
    PI X tg (.Call (.Name "range" p) [x, y, z'] [] pos) (tIt g W mi mb (evI cf (.rngD e e2 e3))) :=
  pi_is (pi_range3 (hx.gl hg) (hx.no hm) (pa_of (.cons h tI_mono (.cons h2 tI_mono (.cons h3 tI_mono .nil))) (by rw [List.all_cons, List.all_cons, List.all_cons, hs, hs2, hs3]; rfl)) (star_cons hs) (star_any (es := [y, z']) (by rw [List.all_cons, List.all_cons, hs2, hs3]; rfl))) fun σ H Rr q => by
    obtain ⟨w, rfl, o, r⟩ := q
    refine ⟨w, rfl, o, ?_⟩
    rw [evI] at r
    refine (r.bind' (mu1 := m1) s1).mono (fun it w1 ev o1 g1 q1 v T i z => ?_) fun _ z => z
    refine ⟨w1, rfl, o1, ?_⟩
    have g1' := g1.mono s1
    refine ((q1.bind' (mu1 := mi) fun _ z => z).grow g1 s1).mono (fun it2 w2 ev2 o2 g2 q2 v2 T2 i2 z2 => ?_) s2
    refine ⟨w2, rfl, o2, ?_⟩
    have g2' := g1'.trans (g2.mono s2)
    refine ((q2.bind' (mu1 := mi) fun _ z => z).grow g2' fun _ z => z).mono (fun it3 w3 ev3 o3 g3 q3 v3 T3 i3 z3 => ?_) s3
    split at q3
    · split at q3
      · rename_i a b d hb
        rw [Bool.and_eq_true, Bool.and_eq_true] at hb
        have b1 := bd_of hb.1.1
        have b2 := bd_of hb.1.2
        have hd := of_decide_eq_true hb.2
        subst hd
        exact ⟨a, b, -1, (a - b).toNat, by rw [show v = V.int a from i.1, show v2 = V.int b from i2.1, show v3 = V.int (-1) from i3.1], RgC.neg b1.1 b1.2 b2.1 b2.2, q3 w3 rfl o3 (g2'.trans (g3.mono s3)) _ src_rangeD⟩
      · exact q3.elim
    · exact q3.elim
theorem i_zip {x y : Expr} {e e2 : E} {mi m1 m2 mb : List Nat} {p pos tpos : Pos} {elts : List Expr} {kk : Nat} (hx : XOk g c X) (hg : glB c "zip" = true) (hm : g.blt.contains "zip" = true) (h : PE X x (tE g W m1 (evE cf e))) (h2 : PE X y (tE g W m2 (evE cf e2))) (hs : noStar x = true) (hs2 : noStar y = true) (s1 : ∀ i, i ∈ m1 → i ∈ mi) (s2 : ∀ i, i ∈ m2 → i ∈ mi)
    (hd : ∀ i, i ∈ deepE e → i ∉ m2) (hr : ∀ i, i ∈ refE e → i ∉ mb) (hr2 : ∀ i, i ∈ refE e2 → i ∉ mb) :
    PI X (.Tuple elts kk tpos) (.Call (.Name "zip" p) [x, y] [] pos) (tIt g W mi mb (evI cf (.zip e e2))) :=
  pi_is (pi_zip (hx.gl hg) (hx.no hm) (pa_of (.cons h tI_mono (.cons h2 tI_mono .nil)) (by rw [List.all_cons, List.all_cons, hs, hs2]; rfl)) (star_cons hs) (star_any (es := [y]) (by rw [List.all_cons, hs2]; rfl))) fun σ H Rr q => by
    obtain ⟨w, rfl, o, r⟩ := q
    rw [hx.K]
    refine ⟨w, rfl, o, ?_⟩
    rw [evI] at r
    refine (r.bind' (mu1 := m1) s1).mono (fun it w1 ev o1 g1 q1 v T i z => ?_) fun _ z => z
    refine ⟨w1, rfl, o1, ?_⟩
    refine ((q1.bind' (mu1 := mi) fun _ z => z).grow g1 s1).mono (fun it2 w2 ev2 o2 g2 q2 v2 T2 i2 z2 => ?_) s2
    have i1 := i.step o1 g2 fun j a as e1 hj => by
      subst e1
      exact hd j ((evE_ref ev).2 (fun z => by cases z)) hj
    have i1' : ItR g.K g.CA σ w2 it v T := i1
    cases e1 : srcL w2.env it with
    | none => rw [e1] at q2; exact q2.elim
    | some xs =>
      cases e2' : srcL w2.env it2 with
      | none => rw [e1, e2'] at q2; exact q2.elim
      | some ys =>
        rw [e1, e2'] at q2
        have gr : Grow mi w w2 := (g1.mono s1).trans (g2.mono s2)
        obtain ⟨U, u1, o3, g3, t3, ls⟩ := srcL_ok (mb := mb) o2 gr i1 (fun a ha => (z a ha).mono s1) (fun j as e2 hj => hr j (by subst e2; exact (evE_ref ev).1) hj) e1
        have dj : ∀ a, T a → T2 a → False := fun a ha hb => i.tmpOk.notZone ha (z2 a hb)
        have i3 : ItR g.K g.CA σ (frzW w2 U) it2 v2 T2 := i2.frz o2 t3 fun a ha hb => dj a (u1 a ha) hb
        obtain ⟨U2, u2, o4, g4, t4, ls2⟩ := srcL_ok (mb := mb) o3 g3 i3 (fun a ha => g1.zone2 (z2 a ha) s1 s2) (fun j as e2 hj => hr2 j (by subst e2; exact (evE_ref ev2).1) hj) e2'
        obtain ⟨a, b, rfl, rfl, vs, us, k, s⟩ := src_zip (ls.frz o3.le t4) ls2
        have k := k _ _ ⟨Le.refl _, o4.le, fun _ _ _ _ => rfl⟩
        exact ⟨a, b, vs, us, rfl, k.1, k.2, q2 (frzW (frzW w2 U) U2) rfl o4 g4 _ s⟩
theorem i_zipT {x y : Expr} {e e2 : E} {mi m1 m2 mb : List Nat} {p pos tpos : Pos} {elts : List Expr} {kk : Nat} (hx : XOk g c X) (hg : glB c "zip" = true) (hm : g.blt.contains "zip" = true) (h : PE X x (tE g W m1 (evE cf e))) (h2 : PE X y (tE g W m2 (evE cf e2))) (hs : noStar x = true) (hs2 : noStar y = true) (s1 : ∀ i, i ∈ m1 → i ∈ mi) (s2 : ∀ i, i ∈ m2 → i ∈ mi) :
    PI X (.Tuple elts kk tpos) (.Call (.Name "zip" p) [x, y] [] pos) (tIt g W mi mb (evI cf (.zipT e e2))) :=
  pi_is (RZ.pi_zipA (hx.gl hg) (hx.no hm) (pa_of (.cons h tI_mono (.cons h2 tI_mono .nil)) (by rw [List.all_cons, List.all_cons, hs, hs2]; rfl)) (star_cons hs) (star_any (es := [y]) (by rw [List.all_cons, hs2]; rfl))) fun σ H Rr q => by
    obtain ⟨w, rfl, o, r⟩ := q
    rw [hx.K]
    refine ⟨w, rfl, o, ?_⟩
    rw [evI] at r
    refine (r.bind' (mu1 := m1) s1).mono (fun it w1 ev o1 g1 q1 v T i z => ?_) fun _ z => z
    refine ⟨w1, rfl, o1, ?_⟩
    refine ((q1.bind' (mu1 := mi) fun _ z => z).grow g1 s1).mono (fun it2 w2 ev2 o2 g2 q2 v2 T2 i2 z2 => ?_) s2
    cases e1 : srcT it with
    | none => rw [e1] at q2; exact q2.elim
    | some xs =>
      cases e2' : srcT it2 with
      | none => rw [e1, e2'] at q2; exact q2.elim
      | some ys =>
        rw [e1, e2'] at q2
        unfold srcT at e1 e2'
        split at e1
        case h_2 => cases e1
        cases e1
        split at e2'
        case h_2 => cases e2'
        cases e2'
        have i1 := i.step o1 g2 fun j a as e1 hj => by cases e1
        obtain ⟨a, b, vs, us, rfl, rfl, k1, k2, s⟩ := src_zipT (mb := mb) o2.le i1.1 i2.1
        exact ⟨a, b, vs, us, rfl, .inr ⟨k1, k2, q2 w2 rfl o2 ((g1.mono s1).trans (g2.mono s2)) _ s⟩⟩
end
end Z

/-! Z19: targets; comprehensions. -/
namespace Z
open PySem L2 PySem.Spec PyProof.Rows
/-! ### targets -/
def lenT : TgL → Nat
  | .nil => 0
  | .cons _ r => lenT r + 1
mutual
def gT (K : PySem.W.Frag) : Tg → TG
  | .nm i => gName i
  | .tup ts => gTup K (lenT ts) (gTs K ts)
def gTs (K : PySem.W.Frag) : TgL → TGs
  | .nil => gNil
  | .cons t r => gCons (gT K t) (gTs K r)
end
mutual
def tgS : Tg → List Nat
  | .nm i => [i]
  | .tup ts => tgSs ts
def tgSs : TgL → List Nat
  | .nil => []
  | .cons t r => tgS t ++ tgSs r
end
def nmB (c : Cxt) (i : Nat) (x : Str) : Bool := !(c.xi == some i) && decide (c.N[i]? = some x) && locB c x && (c.sto x || c.sc.names.lookup x == some .local)
mutual
def ckG (c : Cxt) : Tg → Expr → Bool
  | .nm i, .Name x _ => nmB c i x
  | .tup ts, .Tuple es _ _ => ckGs c ts es && es.all noStar && decide (es.length = lenT ts)
  | _, _ => false
def ckGs (c : Cxt) : TgL → List Expr → Bool
  | .nil, [] => true
  | .cons t r, e :: es => ckG c t e && ckGs c r es
  | _, _ => false
end
theorem assign_each {e : Expr} {es : List Expr} {env : PySem.Env} (h : noStar e = true) : assignEach (e :: es) env = (false, assign e env) :: assignEach es env := by
  cases e <;> first | rfl | cases h
theorem assign_len {env : PySem.Env} : ∀ {es : List Expr}, es.all noStar = true → (assignEach es env).length = es.length
  | [], _ => rfl
  | e :: es, h => by
    rw [List.all_cons, Bool.and_eq_true] at h
    rw [assign_each h.1, List.length_cons, List.length_cons, assign_len h.2]
theorem assign_no {env : PySem.Env} : ∀ {es : List Expr}, es.all noStar = true → (assignEach es env).findIdx? (·.1) = none
  | [], _ => rfl
  | e :: es, h => by
    rw [List.all_cons, Bool.and_eq_true] at h
    rw [assign_each h.1, List.findIdx?_cons, assign_no h.2]
    rfl
section
variable {g : G} {c : Cxt} {X : Cx} {W : WX} {cf : Nat → List D → CR}
theorem nm_ok {i : Nat} {x : Str} (hx : XOk g c X) (h : nmB c i x = true) : X.N[i]? = some x ∧ L2.Loc X.env.scope x ∧ (X.fn x = true ∨ X.env.scope.names.lookup x = some .local) := by
  unfold nmB at h
  rw [Bool.and_eq_true, Bool.and_eq_true, Bool.and_eq_true, Bool.or_eq_true] at h
  refine ⟨by rw [hx.N]; exact of_decide_eq_true h.1.1.2, hx.loc h.1.2, ?_⟩
  rcases h.2 with h | h
  · exact hx.fn x h
  · right; rw [hx.sc]; exact eq_of_beq h
theorem nm_nx {i : Nat} {x : Str} (hx : XOk g c X) (h : nmB c i x = true) : Nx g.CA i := fun y e z => by
  unfold nmB at h
  rw [Bool.and_eq_true, Bool.and_eq_true, Bool.and_eq_true] at h
  have := (hx.exn y e).1.symm.trans z
  simp [this] at h
mutual
theorem ck_nx (hx : XOk g c X) : ∀ {t : Tg} {e : Expr}, ckG c t e = true → ∀ j, j ∈ tgS t → Nx g.CA j
  | .nm i, e, h => by
    cases e <;> try (cases h; done)
    intro j hj
    rw [tgS, List.mem_singleton] at hj
    rw [hj]
    exact nm_nx hx h
  | .tup ts, e, h => by
    cases e <;> try (cases h; done)
    rw [ckG, Bool.and_eq_true, Bool.and_eq_true] at h
    intro j hj
    rw [tgS] at hj
    exact cks_nx hx h.1.1 j hj
theorem cks_nx (hx : XOk g c X) : ∀ {t : TgL} {e : List Expr}, ckGs c t e = true → ∀ j, j ∈ tgSs t → Nx g.CA j
  | .nil, _, _, j, hj => by rw [tgSs] at hj; cases hj
  | .cons t r, e :: es, h, j, hj => by
    rw [ckGs, Bool.and_eq_true] at h
    rw [tgSs, List.mem_append] at hj
    exact hj.elim (ck_nx hx h.1 j) (cks_nx hx h.2 j)
  | .cons _ _, [], h, _, _ => by cases h
end
def noTup : Tg → Bool
  | .nm _ => true
  | .tup _ => false
mutual
theorem g_ok (hx : XOk g c X) : ∀ {t : Tg} {e : Expr}, (noTup t = true ∨ c.hot = false) → ckG c t e = true → PG X e (gT g.K t)
  | .nm i, e, hh, h => by
    cases e <;> try (cases h; done)
    obtain ⟨h1, h2, h3⟩ := nm_ok hx h
    rw [gT]
    exact pg_name (by rw [hx.N]; exact hx.nd) h1 h2 h3
  | .tup ts, e, hh, h => by
    cases e <;> try (cases h; done)
    rename_i es k pos
    rw [ckG, Bool.and_eq_true, Bool.and_eq_true] at h
    have hh : c.hot = false := hh.resolve_left fun z => nomatch z
    have := pg_tup (k := k) (pos := pos) (hx.calm hh) (gs_ok hx hh h.1.1 h.1.2) ((assign_len h.1.2).trans (of_decide_eq_true h.2)) (assign_no h.1.2)
    rw [gT, ← hx.K]
    rw [← hx.K] at this
    exact this
theorem gs_ok (hx : XOk g c X) (hh : c.hot = false) : ∀ {t : TgL} {e : List Expr}, ckGs c t e = true → e.all noStar = true → PGs X e (gTs g.K t)
  | .nil, [], _, _ => by rw [gTs]; exact pgs_nil
  | .cons t r, e :: es, h, hs => by
    rw [ckGs, Bool.and_eq_true] at h
    rw [List.all_cons, Bool.and_eq_true] at hs
    rw [gTs]
    exact pgs_cons (g_ok hx (.inr hh) h.1) (gs_ok hx hh h.2 hs.2) (by rw [assign_each hs.1]; rfl)
  | .nil, _ :: _, h, _ => by cases h
  | .cons _ _, [], h, _ => by cases h
end

/-- a value goes into its targets -/
structure Bnd (K : PySem.W.Frag) (CA : Cls) (σ : L2.St) (w : Wd) (T : Ad) (ms : List Nat) (env' : Env) (σ' : L2.St) (S' : Nat → Ad) : Prop where
  own : Own K CA σ' ⟨w.F, w.H, S', env'⟩
  oS : ∀ j, j ∉ ms → S' j = w.S j
  os : ∀ j, j ∉ ms → σ'[j]? = σ[j]?
  oe : ∀ j, j ∉ ms → slot env' j = slot w.env j
  new : ∀ j a, S' j a → w.S j a ∨ T a
  len : env'.length = w.env.length
  ls : σ'.length = σ.length
mutual
theorem bnd_ok {K : PySem.W.Frag} {CA : Cls} : ∀ {t : Tg} {d : D} {v : V} {T : Ad} {σ : L2.St} {w : Wd} {env' : Env}, Own K CA σ w → Rep K CA w.F w.H d v T → Tmp w T → (∀ j, j ∈ tgS t → Nx CA j) → bindT t d w.env = some env' →
    ∃ σ' S', Bnd K CA σ w T (tgS t) env' σ' S' ∧ ∀ Q : L2.St → Hp → Prop, Q σ' w.H → gT K t v σ w.H Q
  | .nm i, d, v, T, σ, w, env', o, r, t, nx, h => by
    rw [bindT] at h
    refine ⟨_, _, ⟨o.store h r t (nx i (by rw [tgS]; exact List.mem_singleton_self _)), fun j hj => ?_, fun j hj => ?_, fun j hj => ?_, fun j a hj => ?_, ?_, List.length_set⟩, fun Q q => by rw [gT]; exact q⟩
    · exact if_neg fun e => hj (by rw [e, tgS]; exact List.mem_cons_self)
    · exact List.getElem?_set_ne fun e => hj (by rw [← e, tgS]; exact List.mem_cons_self)
    · unfold setS at h
      split at h
      · cases h; exact slot_set_ne fun e => hj (by rw [e, tgS]; exact List.mem_cons_self)
      · cases h
    · by_cases e : j = i
      · exact .inr (by simpa [e] using hj)
      · exact .inl (by simpa [e] using hj)
    · unfold setS at h
      split at h
      · cases h; exact List.length_set
      · cases h
  | .tup ts, d, v, T, σ, w, env', o, r, t, nx, h => by
    cases d with
    | tup ds =>
      rw [bindT] at h
      obtain ⟨a, vs, e1, e2, e3⟩ := r
      obtain ⟨σ', S', b, hl, k⟩ := bnds_ok o e3 (by rw [tgS] at nx; exact nx) h
      refine ⟨σ', S', ?_, fun Q q => ?_⟩
      · rw [tgS]
        exact ⟨b.own, b.oS, b.os, b.oe, fun j a hj => (b.new j a hj).imp id fun z => z.elim, b.len, b.ls⟩
      · rw [gT]
        exact ⟨a, vs, e1, o.le.sqT e2, hl, k Q q⟩
    | _ => simp [bindT] at h
theorem bnds_ok {K : PySem.W.Frag} {CA : Cls} : ∀ {t : TgL} {ds : List D} {vs : List V} {σ : L2.St} {w : Wd} {env' : Env}, Own K CA σ w → RepL K CA w.F w.F ds vs noAd → (∀ j, j ∈ tgSs t → Nx CA j) → bindTs t ds w.env = some env' →
    ∃ σ' S', Bnd K CA σ w noAd (tgSs t) env' σ' S' ∧ vs.length = lenT t ∧ ∀ Q : L2.St → Hp → Prop, Q σ' w.H → gTs K t vs σ w.H Q
  | .nil, [], vs, σ, w, env', o, r, nx, h => by
    rw [bindTs] at h
    cases h
    have e : vs = [] := r
    subst e
    exact ⟨σ, w.S, ⟨o, fun _ _ => rfl, fun _ _ => rfl, fun _ _ => rfl, fun _ _ z => .inl z, rfl, rfl⟩, rfl, fun Q q => by rw [gTs]; exact ⟨rfl, q⟩⟩
  | .cons t r', d :: ds, vs, σ, w, env', o, r, nx, h => by
    rw [bindTs] at h
    rw [tgSs] at nx
    obtain ⟨env1, h1, h2⟩ := Option.bind_eq_some_iff.mp h
    obtain ⟨v, us, T1, T2, rfl, k2, k3, k4, k5, k6⟩ := r
    obtain ⟨σ1, S1, b1, q1⟩ := bnd_ok o ((k5.up (Le.refl _) (fun _ _ => rfl) k2 : Rep K CA w.F w.F d v noAd).pureH (T := noAd) (H' := w.H)) Tmp.none (fun j hj => nx j (List.mem_append_left _ hj)) h1
    obtain ⟨σ2, S2, b2, hl, q2⟩ := bnds_ok b1.own (k6.up (Le.refl _) (fun _ _ => rfl) k3) (fun j hj => nx j (List.mem_append_right _ hj)) h2
    refine ⟨σ2, S2, ⟨b2.own, fun j hj => ?_, fun j hj => ?_, fun j hj => ?_, fun j a hj => ?_, b2.len.trans b1.len, b2.ls.trans b1.ls⟩, congrArg (· + 1) hl, fun Q q => ?_⟩
    · rw [tgSs, List.mem_append, not_or] at hj
      exact (b2.oS j hj.2).trans (b1.oS j hj.1)
    · rw [tgSs, List.mem_append, not_or] at hj
      exact (b2.os j hj.2).trans (b1.os j hj.1)
    · rw [tgSs, List.mem_append, not_or] at hj
      exact (b2.oe j hj.2).trans (b1.oe j hj.1)
    · exact (b2.new j a hj).elim (b1.new j a) .inr
    · rw [gTs]
      exact ⟨v, us, rfl, q1 _ (q2 Q q)⟩
  | .nil, _ :: _, _, _, _, _, _, _, _, h => by simp [bindTs] at h
  | .cons _ _, [], _, _, _, _, _, _, _, h => by simp [bindTs] at h
end
theorem Bnd.grow {K : PySem.W.Frag} {CA : Cls} {σ σ' : L2.St} {w0 w : Wd} {m0 mu ms : List Nat} {T : Ad} {env' : Env} {S' : Nat → Ad} (b : Bnd K CA σ w T ms env' σ' S') (gr : Grow m0 w0 w) (s0 : ∀ j, j ∈ m0 → j ∈ mu) (s1 : ∀ j, j ∈ ms → j ∈ mu) (z : ∀ a, T a → Zone mu w0 a) : Grow mu w0 ⟨w.F, w.H, S', env'⟩ := by
  have gr := gr.mono s0
  exact ⟨gr.fle, gr.keep, fun j hj => (b.oS j fun h => hj (s1 j h)).trans (gr.oth j hj), fun j hj => (b.oe j fun h => hj (s1 j h)).trans (gr.env j hj), b.len.trans gr.len, fun j a hj => (b.new j a hj).elim (gr.new j a) fun h => .inr (z a h), gr.newF⟩

/-! ### a block's own slots -/
theorem slot_len {env : Env} {j : Nat} (h : env.length ≤ j) : slot env j = none := by
  unfold slot
  rw [List.getElem?_eq_none h]
  rfl
theorem clr_len : ∀ {own : List Nat} {env : Env}, (clr own env).length = env.length
  | [], _ => rfl
  | i :: r, env => by rw [clr, List.length_set, clr_len]
theorem clr_in : ∀ {own : List Nat} {env : Env} {j : Nat}, j ∈ own → slot (clr own env) j = none
  | i :: r, env, j, h => by
    rw [clr]
    by_cases e : j = i
    · subst e
      by_cases hl : j < (clr r env).length
      · exact slot_set_same hl
      · exact slot_len (by rw [List.length_set]; omega)
    · rw [slot_set_ne e]
      exact clr_in ((List.mem_cons.mp h).resolve_left e)
theorem clr_out : ∀ {own : List Nat} {env : Env} {j : Nat}, j ∉ own → slot (clr own env) j = slot env j
  | [], _, _, _ => rfl
  | i :: r, env, j, h => by
    rw [List.mem_cons, not_or] at h
    rw [clr, slot_set_ne h.1]
    exact clr_out h.2
theorem rest_len : ∀ {own : List Nat} {env0 env : Env}, (rest own env0 env).length = env.length
  | [], _, _ => rfl
  | i :: r, env0, env => by rw [rest, List.length_set, rest_len]
theorem rest_in : ∀ {own : List Nat} {env0 env : Env} {j : Nat}, env0.length = env.length → j ∈ own → slot (rest own env0 env) j = slot env0 j
  | i :: r, env0, env, j, hl, h => by
    rw [rest]
    by_cases e : j = i
    · subst e
      by_cases hl2 : j < (rest r env0 env).length
      · exact slot_set_same hl2
      · rw [slot_len (by rw [List.length_set]; omega), slot_len (by rw [rest_len] at hl2; omega)]
    · rw [slot_set_ne e]
      exact rest_in hl ((List.mem_cons.mp h).resolve_left e)
theorem rest_out : ∀ {own : List Nat} {env0 env : Env} {j : Nat}, j ∉ own → slot (rest own env0 env) j = slot env j
  | [], _, _, _, _ => rfl
  | i :: r, env0, env, j, h => by
    rw [List.mem_cons, not_or] at h
    rw [rest, slot_set_ne h.1]
    exact rest_out h.2
theorem wipe_in {σ : L2.St} : ∀ {vs : List Nat} {j : Nat}, j ∈ vs → j < σ.length → (wipe σ vs)[j]? = some none
  | v :: vs, j, h, hl => by
    unfold wipe
    by_cases e : v = j
    · subst e
      exact List.getElem?_set_self (by rw [wipe_length]; exact hl)
    · rw [List.getElem?_set_ne e]
      exact wipe_in ((List.mem_cons.mp h).resolve_left fun z => e z.symm) hl
theorem wipe_same {σ σ' : L2.St} {vs : List Nat} (h : ∀ j, j ∉ vs → σ'[j]? = σ[j]?) (hl : σ'.length = σ.length) : wipe σ' vs = wipe σ vs := by
  refine List.ext_getElem? fun j => ?_
  by_cases hj : j ∈ vs
  · by_cases h2 : j < σ.length
    · rw [wipe_in hj h2, wipe_in hj (by rw [hl]; exact h2)]
    · rw [List.getElem?_eq_none (by rw [wipe_length]; omega), List.getElem?_eq_none (by rw [wipe_length]; omega)]
  · rw [wipe_out hj, wipe_out hj, h j hj]
open Classical in
noncomputable def wipeW (own : List Nat) (w : Wd) : Wd := ⟨w.F, w.H, fun j => if j ∈ own then noAd else w.S j, clr own w.env⟩
theorem wipeW_in {own : List Nat} {w : Wd} {j : Nat} (h : j ∈ own) : (wipeW own w).S j = noAd := if_pos h
theorem wipeW_out {own : List Nat} {w : Wd} {j : Nat} (h : j ∉ own) : (wipeW own w).S j = w.S j := if_neg h
theorem wipeW_sub {own : List Nat} {w : Wd} {j : Nat} {a : Addr} (h : (wipeW own w).S j a) : j ∉ own ∧ w.S j a := by
  by_cases e : j ∈ own
  · rw [wipeW_in e] at h; exact h.elim
  · rw [wipeW_out e] at h; exact ⟨e, h⟩
theorem Own.wipe {K : PySem.W.Frag} {CA : Cls} {σ : L2.St} {w : Wd} {own : List Nat} (h0 : CA.ex = none) (o : Own K CA σ w) : Own K CA (wipe σ own) (wipeW own w) where
  xs := Xs.cold h0
  le := o.le
  rep := fun i d h => by
    by_cases e : i ∈ own
    · rw [show slot (wipeW own w).env i = none from clr_in e] at h; cases h
    · rw [show slot (wipeW own w).env i = slot w.env i from clr_out e] at h
      obtain ⟨v, h1, h2⟩ := o.rep i d h
      refine ⟨v, (wipe_out e).trans h1, ?_⟩
      rw [wipeW_out e]
      exact h2
  trk := fun i a h => o.trk i a (wipeW_sub h).2
  dis := fun i j a hij h1 h2 => o.dis i j a hij (wipeW_sub h1).2 (wipeW_sub h2).2
  len := by rw [show (wipeW own w).env.length = w.env.length from clr_len, wipe_length]; exact o.len
theorem grow_wipe {own mu : List Nat} {w0 w : Wd} (gr : Grow mu w0 w) (s : ∀ j, j ∈ own → j ∈ mu) : Grow mu w0 (wipeW own w) :=
  ⟨gr.fle, gr.keep, fun j hj => (wipeW_out fun h => hj (s j h)).trans (gr.oth j hj), fun j hj => (clr_out fun h => hj (s j h)).trans (gr.env j hj), clr_len.trans gr.len, fun j a h => gr.new j a (wipeW_sub h).2, gr.newF⟩
open Classical in
/-- behind the block -/
noncomputable def restW (own : List Nat) (w1 w : Wd) (env : Env) : Wd := ⟨w.F, w.H, fun j => if j ∈ own then w1.S j else w.S j, rest own w1.env env⟩
theorem rest_own {K : PySem.W.Frag} {CA : Cls} {σ : L2.St} {w1 w : Wd} {own mb mB : List Nat} {env : Env} (o1 : Own K CA σ w1) (o : Own K CA (wipe σ own) w) (gr : Grow mB (wipeW own w1) w) (hm : ∀ j, j ∈ mB → j ∈ own ∨ j ∈ mb) (he : w.env = clr own env) :
    Own K CA σ (restW own w1 w env) ∧ Grow mb w1 (restW own w1 w env) ∧ ∀ r a, r ∉ mb → w1.S r a → w.H a = w1.H a := by
  have inS : ∀ j, j ∈ own → (restW own w1 w env).S j = w1.S j := fun j h => if_pos h
  have outS : ∀ j, j ∉ own → (restW own w1 w env).S j = w.S j := fun j h => if_neg h
  have zb : ∀ a, Zone mB (wipeW own w1) a → (∃ j, j ∉ own ∧ j ∈ mb ∧ w1.S j a) ∨ w1.H a = none := fun a z => by
    rcases z with ⟨j, h1, h2⟩ | z
    · exact .inl ⟨j, (wipeW_sub h2).1, (hm j h1).resolve_left (wipeW_sub h2).1, (wipeW_sub h2).2⟩
    · exact .inr z
  have kp : ∀ r a, r ∉ mb ∨ r ∈ own → w1.S r a → w.H a = w1.H a := fun r a hr hs => by
    refine gr.keep a (o1.trk r a hs).1 fun i hi hi2 => ?_
    obtain ⟨k1, k2⟩ := wipeW_sub hi2
    by_cases e : i = r
    · subst e
      rcases hr with hr | hr
      · exact hr ((hm i hi).resolve_left k1)
      · exact k1 hr
    · exact o1.dis i r a e k2 hs
  have le : w1.env.length = env.length := by
    have := gr.len
    rw [he, show (wipeW own w1).env.length = w1.env.length from clr_len, clr_len] at this
    exact this.symm
  have nz : ∀ r a, r ∈ own → w1.S r a → w.F a = none := fun r a hr hs => by
    by_cases q : w.F a = none
    · exact q
    · rcases gr.newF a q with q | q
      · exact absurd (o1.trk r a hs).2 q
      · rcases zb a q with ⟨j, k1, k2, k3⟩ | q
        · exact (o1.dis j r a (fun e => k1 (e ▸ hr)) k3 hs).elim
        · exact absurd q (o1.trk r a hs).1
  have ds : ∀ j k a, j ∈ own → k ∉ own → w1.S j a → w.S k a → False := fun j k a hj hk h1 h2 => by
    rcases gr.new k a h2 with q | q
    · exact o1.dis j k a (fun e => hk (e ▸ hj)) h1 (wipeW_sub q).2
    · rcases zb a q with ⟨i, k1, k2, k3⟩ | q
      · exact o1.dis i j a (fun e => k1 (e ▸ hj)) k3 h1
      · exact (o1.trk j a h1).1 q
  refine ⟨⟨o.le, fun i d h => ?_, fun i a h => ?_, fun i j a hij h1 h2 => ?_, ?_, o1.xs.up gr.fle⟩, ⟨gr.fle, fun a hn hk => ?_, fun j hj => ?_, fun j hj => ?_, ?_, fun j a h => ?_, fun a h => ?_⟩, fun r a hr => kp r a (.inl hr)⟩
  · by_cases e : i ∈ own
    · rw [show slot (restW own w1 w env).env i = slot w1.env i from rest_in le e] at h
      obtain ⟨v, h1, h2⟩ := o1.rep i d h
      refine ⟨v, h1, ?_⟩
      rw [inS i e]
      exact h2.up gr.fle (fun a ha => kp i a (.inr e) ha) fun _ z => z
    · rw [show slot (restW own w1 w env).env i = slot w.env i from (rest_out e).trans (by rw [he, clr_out e])] at h
      obtain ⟨v, h1, h2⟩ := o.rep i d h
      refine ⟨v, (wipe_out e).symm.trans h1, ?_⟩
      rw [outS i e]
      exact h2
  · by_cases e : i ∈ own
    · rw [inS i e] at h
      exact ⟨by rw [show (restW own w1 w env).H a = w1.H a from kp i a (.inr e) h]; exact (o1.trk i a h).1, nz i a e h⟩
    · rw [outS i e] at h
      exact o.trk i a h
  · by_cases e1 : i ∈ own
    · rw [inS i e1] at h1
      by_cases e2 : j ∈ own
      · rw [inS j e2] at h2; exact o1.dis i j a hij h1 h2
      · rw [outS j e2] at h2; exact ds i j a e1 e2 h1 h2
    · rw [outS i e1] at h1
      by_cases e2 : j ∈ own
      · rw [inS j e2] at h2; exact ds j i a e2 e1 h2 h1
      · rw [outS j e2] at h2; exact o.dis i j a hij h1 h2
  · show (rest own w1.env env).length = _
    rw [rest_len, ← le]
    exact o1.len
  · exact gr.keep a hn fun i hi hi2 => by
      obtain ⟨k1, k2⟩ := wipeW_sub hi2
      exact hk i ((hm i hi).resolve_left k1) k2
  · by_cases e : j ∈ own
    · exact inS j e
    · exact (outS j e).trans ((gr.oth j fun h => (hm j h).elim e hj).trans (wipeW_out e))
  · by_cases e : j ∈ own
    · exact rest_in le e
    · refine (rest_out e).trans ?_
      have := gr.env j fun h => (hm j h).elim e hj
      rw [he, clr_out e] at this
      exact this.trans (clr_out e)
  · exact rest_len.trans le.symm
  · by_cases e : j ∈ own
    · rw [inS j e] at h; exact .inl h
    · rw [outS j e] at h
      exact (gr.new j a h).imp (fun z => (wipeW_sub z).2) fun z => (zb a z).imp (fun ⟨i, k1, k2, k3⟩ => ⟨i, k2, k3⟩) id
  · exact (gr.newF a h).imp id fun z => (zb a z).imp (fun ⟨i, k1, k2, k3⟩ => ⟨i, k2, k3⟩) id
end
end Z

/-! Z20: comprehensions. -/
namespace Z
open PySem L2 PySem.Spec PyProof.Rows
section
variable {g : G} {c : Cxt} {X : Cx} {W : WX} {cf : Nat → List D → CR}
/-- a cell of nobody's is written -/
theorem Own.upd1 {K : PySem.W.Frag} {CA : Cls} {σ : L2.St} {w : Wd} (o : Own K CA σ w) {a : Addr} {x : HO} (hF : w.F a = none) (hS : ∀ i, ¬ w.S i a) : Own K CA σ ⟨w.F, upd w.H a x, w.S, w.env⟩ :=
  o.grow (Le.refl _) (le_upd o.le hF) (fun b _ ⟨i, hi⟩ => upd_ne fun e => hS i (e ▸ hi)) fun _ z => .inl z
structure LcSt (g : G) (σ : L2.St) (own mB mb : List Nat) (w1 : Wd) (C : Addr) (el : Env → R Itm) (ts : Env → R Bool) (tg : Tg) (accF : List D) (envF : Env) (xs : List D) (w : Wd) : Prop where
  ex : ∃ env acc U, w.env = clr own env ∧ lcGo el ts tg own xs acc env = .ok accF envF ∧ Rep g.K g.CA w.F w.H (.lst .own acc) (.ref C) U ∧ Tmp w U ∧ ∀ a, U a → Zone mB (wipeW own w1) a
  ow : Own g.K g.CA (wipe σ own) w
  gr : Grow mB (wipeW own w1) w
theorem lc_rd (h0 : g.CA.ex = none) {own : List Nat} {elt : E} {tg : Tg} {it : I} {t : T} {mi mt me mu : List Nat} {W W0 : WX} (hown : ∀ j, j ∈ tgS tg → j ∈ own) (s1 : ∀ j, j ∈ mi → j ∈ mu) (s2 : ∀ j, j ∈ mt → j ∈ mu) (s3 : ∀ j, j ∈ me → j ∈ mu) {σ : L2.St} {H : Hp} {Q : VK}
    (q : tE g W mu (evE cf (.lc own elt tg it t)) σ H Q) : tLc (tIt g W mi (mt ++ me) (evI cf it)) (gT g.K tg) (tTs g W0 mt (evT cf t)) (tE g W0 me (evE cf elt)) own σ H Q := by
  obtain ⟨w, rfl, o, r⟩ := q
  refine ⟨w, rfl, o, ?_⟩
  rw [evE] at r
  cases hI : evI cf it w.env with
  | stuck => rw [hI] at r; exact r.elim
  | exc _ _ _ _ => rw [hI] at r; exact r.elim
  | ok xs env1 =>
    rw [hI] at r
    intro w1 e1 o1 g1 J hJ C hC
    subst e1
    have r : Res g.K g.CA W σ mu w (match lcGo (fun env => evE cf elt env) (fun env => evT cf t env) tg own xs [] w1.env with | .ok acc env2 => R.ok (Itm.tmp (.lst .own acc)) (rest own w1.env env2) | _ => .stuck) (fun it w' => ∀ (v : V) (T : Ad), ItR g.K g.CA σ w' it v T → (∀ (a : Addr), T a → Zone mu w a) → Q v w'.H) := r
    split at r
    case h_2 => exact r.elim
    rename_i accF envF hL
    obtain ⟨Gd, Y, hW, st⟩ := hJ
    have mB : ∀ j, j ∈ own ++ (mt ++ me) → j ∈ own ∨ j ∈ mt ++ me := fun j h => List.mem_append.mp h
    have oB := o1.wipe h0 (own := own)
    let P : Nat → Hp → Prop := fun i H => ∃ w2 : Wd, w2.H = H ∧ LcSt g σ own (own ++ (mt ++ me)) (mt ++ me) w1 C (fun env => evE cf elt env) (fun env => evT cf t env) tg accF envF (xs.drop i) w2
    have stay : ∀ {w2 : Wd} {env : Env}, w2.env = clr own env → Own g.K g.CA (wipe σ own) w2 → Grow (own ++ (mt ++ me)) (wipeW own w1) w2 → Stay (mt ++ me) w1 w2.F w2.H := fun he o2 g2 => ⟨g2.fle, o2.le, (rest_own o1 o2 g2 mB he).2.2⟩
    refine lc_it hW P ⟨⟨w1.F, upd w1.H C (.lst []), (wipeW own w1).S, clr own w1.env⟩, rfl, ⟨⟨w1.env, [], fun a => a = C, rfl, hL, ⟨C, [], noAd, rfl, upd_same, rfl, fun z => z, fun _ z => z.elim, rfl⟩, fun a ha => ?_, fun a ha => .inr ((congrArg w1.H ha).trans hC)⟩, ?_, ?_⟩⟩ (fun i H hi ⟨w2, e2, S⟩ => ?_) (fun i x H H' hi ⟨w2, e2, S⟩ hy => ?_) fun H ⟨w2, e2, S⟩ => ?_
    · have ha : a = C := ha
      subst ha
      exact ⟨by show upd w1.H a (.lst []) a ≠ none; rw [upd_same]; exact (fun z => nomatch z), le_none o1.le hC, fun i hs => (o1.trk i a (wipeW_sub hs).2).1 hC⟩
    · exact oB.upd1 (le_none o1.le hC) fun i hs => (o1.trk i C (wipeW_sub hs).2).1 hC
    · exact ⟨Le.refl _, fun a hn _ => upd_ne fun e => hn (e ▸ hC), fun _ _ => rfl, fun _ _ => rfl, rfl, fun _ _ z => .inl z, fun _ z => .inl z⟩
    · subst e2
      obtain ⟨env, acc, U, h1, h2, h3, h4, h5⟩ := S.ex
      exact (st w2.F w2.H (stay h1 S.ow S.gr)).1
    · subst e2
      obtain ⟨env, acc, U, h1, h2, h3, h4, h5⟩ := S.ex
      obtain ⟨d, F', k1, k2, k3, k4, k5, k6⟩ := (st w2.F w2.H (stay h1 S.ow S.gr)).2 i x H' hi hy
      have hd : xs.drop i = d :: xs.drop (i + 1) := by
        obtain ⟨hl, e⟩ := List.getElem?_eq_some_iff.mp k1
        rw [← e]
        exact List.drop_eq_getElem_cons hl
      rw [hd, lcGo] at h2
      -- the item has come
      have oo := S.ow
      have kH : ∀ a, w2.H a ≠ none → H' a = w2.H a := fun a hn => by
        cases e : w2.H a with
        | none => exact absurd e hn
        | some u => exact k4 a u e
      have o3 : Own g.K g.CA (wipe σ own) ⟨F', H', w2.S, w2.env⟩ := oo.grow k2 k3 (fun a hn _ => kH a hn) fun a ha => (k5 a ha).imp id fun z i hs => (oo.trk i a hs).1 z
      have g3 : Grow [] w2 ⟨F', H', w2.S, w2.env⟩ := ⟨k2, fun a hn _ => kH a hn, fun _ _ => rfl, fun _ _ => rfl, rfl, fun _ _ z => .inl z, fun a ha => (k5 a ha).imp id .inr⟩
      cases hb : bindT tg d (clr own env) with
      | none => rw [hb] at h2; cases h2
      | some env3 =>
        rw [hb] at h2
        have hb' : bindT tg d (⟨F', H', w2.S, w2.env⟩ : Wd).env = some env3 := by rw [← hb, ← h1]
        obtain ⟨σ2, S2, b, kq⟩ := bnd_ok o3 (k6.pureH (T := noAd) (H' := H')) Tmp.none (fun j _ => nx_cold h0 j) hb'
        have hw : wipe σ2 own = wipe σ own := wipe_same (fun j hj => (b.os j fun h => hj (hown j h)).trans (wipe_out hj)) (b.ls.trans (wipe_length _ _))
        refine kq _ ⟨hw, ?_⟩
        have g4 : Grow (tgS tg) ⟨F', H', w2.S, w2.env⟩ ⟨F', H', S2, env3⟩ := b.grow (Grow.refl [] _) nil_sub (fun _ z => z) fun _ z => z.elim
        have gA : Grow (own ++ (mt ++ me)) (wipeW own w1) ⟨F', H', S2, env3⟩ := (S.gr.trans (g3.mono nil_sub)).trans (g4.mono fun j hj => List.mem_append_left _ (hown j hj))
        obtain ⟨kU, tU⟩ := h4.keep (g3.seq (mu := tgS tg) g4 nil_sub fun _ z => z)
        have rU := h3.up (F' := F') k2 kU fun _ z => z
        refine ⟨⟨F', H', S2, env3⟩, rfl, b.own, ?_⟩
        show Res g.K g.CA W0 σ2 mt ⟨F', H', S2, env3⟩ (evT cf t env3) _
        cases hT : evT cf t env3 with
        | stuck => simp only [hT] at h2; cases h2
        | exc _ _ _ _ => simp only [hT] at h2; cases h2
        | ok bb env4 =>
          simp only [hT] at h2
          intro w4 e4 o4 g4
          subst e4
          obtain ⟨kU2, tU2⟩ := tU.keep g4
          have rU2 := rU.up g4.fle kU2 fun _ z => z
          have gB := gA.trans (g4.mono fun j hj => List.mem_append_right _ (List.mem_append_left _ hj))
          have wW : ∀ {w5 : Wd}, Own g.K g.CA σ2 w5 → Own g.K g.CA (wipe σ own) (wipeW own w5) := fun o5 => hw ▸ o5.wipe h0
          have tW : ∀ {w5 : Wd} {V : Ad}, Tmp w5 V → Tmp (wipeW own w5) V := fun t a ha => ⟨(t a ha).1, (t a ha).2.1, fun i hs => (t a ha).2.2 i (wipeW_sub hs).2⟩
          cases bb with
          | false =>
            simp only [Bool.false_eq_true, if_false]
            exact ⟨wipeW own w4, rfl, ⟨⟨w4.env, acc, U, rfl, h2, rU2, tW tU2, h5⟩, wW o4, grow_wipe gB fun j hj => List.mem_append_left _ hj⟩⟩
          | true =>
            simp only [if_true]
            refine ⟨w4, rfl, o4, ?_⟩
            cases hE : evE cf elt w4.env with
            | stuck => simp only [hE] at h2; cases h2
            | exc _ _ _ _ => simp only [hE] at h2; cases h2
            | ok ie env5 =>
              simp only [hE] at h2
              cases ie with
              | ref _ _ => cases h2
              | tmp dd =>
                intro w5 e5 o5 g5 y T iy zy
                subst e5
                simp only at h2
                split at h2
                case isFalse => cases h2
                rename_i hz
                obtain ⟨kU3, tU3⟩ := tU2.keep g5
                have rU3 := rU2.up g5.fle kU3 fun _ z => z
                have gC := gB.trans (g5.mono fun j hj => List.mem_append_right _ (List.mem_append_right _ hj))
                obtain ⟨C', vs, U', q1, q2, q3, q4, q5, q6⟩ := rU3
                cases q1
                obtain ⟨rT, tT⟩ := iy
                have dj : ∀ a, U a → T a → False := fun a ha hb => tU2.notZone ha (zy a hb)
                have hTC : ¬ T C := fun z => dj C q3 z
                refine ⟨vs, q2, by rw [RepL.length q6]; exact of_decide_eq_true hz, ?_⟩
                have hF : w5.F C = none := (tU3 C q3).2.1
                have o6 : Own g.K g.CA σ2 ⟨w5.F, upd w5.H C (.lst (vs ++ [y])), w5.S, w5.env⟩ := o5.upd1 hF (tU3 C q3).2.2
                have hC1 : (wipeW own w1).H C = none := hC
                have gD : Grow (own ++ (mt ++ me)) (wipeW own w1) ⟨w5.F, upd w5.H C (.lst (vs ++ [y])), w5.S, w5.env⟩ :=
                  ⟨gC.fle, fun a hn hk => (upd_ne fun e => hn ((congrArg (wipeW own w1).H e).trans hC1)).trans (gC.keep a hn hk), gC.oth, gC.env, gC.len, gC.new, gC.newF⟩
                have ne : ∀ a, U' a ∨ T a → a ≠ C := fun a z e => by
                  subst e
                  exact z.elim q4 hTC
                have rL : RepL g.K g.CA w5.F (upd w5.H C (.lst (vs ++ [y]))) (acc ++ [dd]) (vs ++ [y]) (fun a => U' a ∨ T a) :=
                  (q6.appendT (U := T) (show RepL g.K g.CA w5.F w5.H [dd] [y] T from ⟨y, [], T, noAd, rfl, fun _ z => z, fun _ z => z.elim, fun _ _ z => z, rT, rfl⟩) fun a z1 z2 => dj a (q5 a z1) z2).up (Le.refl _) (fun a z => upd_ne (ne a z)) fun _ z => z
                refine ⟨wipeW own ⟨w5.F, upd w5.H C (.lst (vs ++ [y])), w5.S, w5.env⟩, rfl, ⟨⟨w5.env, acc ++ [dd], fun a => U a ∨ T a, rfl, h2, ?_, tW fun a ha => ?_, fun a ha => ?_⟩, wW o6, grow_wipe gD fun j hj => List.mem_append_left _ hj⟩⟩
                · exact ⟨C, vs ++ [y], _, rfl, upd_same, .inl q3, fun z => ne C z rfl, fun b z => z.imp (q5 b) id, rL⟩
                · have tt : w5.H a ≠ none ∧ w5.F a = none ∧ ∀ i, ¬ w5.S i a := ha.elim (tU3 a) (tT a)
                  refine ⟨?_, tt.2.1, tt.2.2⟩
                  show upd w5.H C _ a ≠ none
                  by_cases e : a = C
                  · subst e; rw [upd_same]; exact fun z => by cases z
                  · rw [upd_ne e]; exact tt.1
                · rcases ha with ha | ha
                  · exact h5 a ha
                  · exact gB.zone ((zy a ha).mono fun j hj => List.mem_append_right _ (List.mem_append_right _ hj))
    · subst e2
      obtain ⟨env, acc, U, h1, h2, h3, h4, h5⟩ := S.ex
      rw [List.drop_length, lcGo] at h2
      cases h2
      obtain ⟨o3, g3, _⟩ := rest_own o1 S.ow S.gr mB h1
      have mb : ∀ j, j ∈ mt ++ me → j ∈ mu := fun j hj => (List.mem_append.mp hj).elim (s2 j) (s3 j)
      refine r (restW own w1 w2 envF) rfl o3 ((g1.mono s1).trans (g3.mono mb)) (.ref C) U ⟨h3, fun a ha => ⟨(h4 a ha).1, (h4 a ha).2.1, fun i hs => ?_⟩⟩ fun a ha => ?_
      · by_cases e : i ∈ own
        · rw [show (restW own w1 w2 envF).S i = w1.S i from if_pos e] at hs
          rcases h5 a ha with ⟨j, k1, k2⟩ | z
          · obtain ⟨k3, k4⟩ := wipeW_sub k2
            exact o1.dis i j a (fun h => k3 (h ▸ e)) hs k4
          · exact (o1.trk i a hs).1 z
        · rw [show (restW own w1 w2 envF).S i = w2.S i from if_neg e] at hs
          exact (h4 a ha).2.2 i hs
      · refine (g1.mono s1).zone ?_
        rcases h5 a ha with ⟨j, k1, k2⟩ | z
        · obtain ⟨k3, k4⟩ := wipeW_sub k2
          exact .inl ⟨j, mb j ((mB j k1).resolve_left k3), k4⟩
        · exact .inr z
/-- the context of a block -/
def blkX (c : Cxt) (scope : Scope) : Cxt := ⟨c.N, { scope with names := scope.names.map fun (n, k) => if (k == NameKind.free && c.sc.kind == .function && c.sc.names.lookup n == some .cell) then (n, NameKind.cell) else (n, k) }, fun x => scope.names.lookup x == some .cell, c.hot, c.xi, c.xcs⟩
theorem blk_ok {scope : Scope} (hx : XOk g c X) (hh : c.hot = false) (s : Shared) (H : Hp) (C : Addr) (cl : List (Str × Addr)) (fp : List Addr) : XOk g (blkX c scope) (X.blk s H scope (compEnvC scope cl C X.env) fp) where
  P := hx.P
  w := hx.w
  K := hx.K
  mg := hx.mg
  base := hx.base
  blt := hx.blt
  N := hx.N
  nd := hx.nd
  sc := by
    show PySem.relabel scope X.env = _
    unfold PySem.relabel blkX PySem.Env.kindOf
    rw [hx.sc]
  fn := fun x h => .inl h
  calm := fun _ => hx.calm hh
  cold := fun _ => hx.cold hh
  hotx := fun h => absurd (hh.symm.trans h) Bool.false_ne_true
  exn := fun x e => by rw [hx.cold hh] at e; cases e
  gd := hx.gd
  un := hx.un
  hd := fun _ => hx.hd hh
end
end Z

/-! Z21: statements. -/
namespace Z
open PySem L2 PySem.Spec PyProof.Rows
section
variable {g : G} {c : Cxt} {X : Cx} {W : WX} {cf : Nat → List D → CR}
theorem tE_sub {m mu : List Nat} {f : Env → R Itm} (s : ∀ j, j ∈ m → j ∈ mu) {σ : L2.St} {H : Hp} {Q : VK} (h : tE g W mu f σ H Q) : tE g W m f σ H Q := by
  obtain ⟨w, h1, h2, h3⟩ := h
  exact ⟨w, h1, h2, h3.mono (fun _ w' _ _ _ q v T i z => q v T i fun a ha => (z a ha).mono s) s⟩
theorem tTs_sub {m mu : List Nat} {f : Env → R Bool} (s : ∀ j, j ∈ m → j ∈ mu) {σ : L2.St} {H : Hp} {Q : Bool → Hp → Prop} (h : tTs g W mu f σ H Q) : tTs g W m f σ H Q := by
  obtain ⟨w, h1, h2, h3⟩ := h
  exact ⟨w, h1, h2, h3.mono (fun _ w' _ _ _ q => q) s⟩
theorem ArgsRd.sub {m mu : List Nat} {f : Env → R (List Itm)} {es : List Expr} (h : ArgsRd g X W m f es) (s : ∀ j, j ∈ m → j ∈ mu) : ArgsRd g X W mu f es := by
  obtain ⟨ts, ps, k⟩ := h
  exact ⟨ts, ps, fun σ r Q w o q => k σ r Q w o (q.mono (fun _ w' _ _ _ q vs Ts is z => q vs Ts is fun T hT a ha => (z T hT a ha).mono s) s)⟩
theorem pe_sub {m mu : List Nat} {x : Expr} {f : Env → R Itm} (h : PE X x (tE g W m f)) (s : ∀ j, j ∈ m → j ∈ mu) : PE X x (tE g W mu f) := pe_is h fun _ _ _ => tE_sub s
theorem pt_sub {m mu : List Nat} {x : Expr} {f : Env → R Bool} (h : PT X x (tTs g W m f)) (s : ∀ j, j ∈ m → j ∈ mu) : PT X x (tTs g W mu f) := pt_is h fun _ _ _ => tTs_sub s

/-- how a statement may end -/
def Kp (ms : List Nat) (σ σ' : L2.St) : Prop := ∀ j, j ∉ ms → σ'[j]? = σ[j]?
theorem Kp.refl {ms : List Nat} {σ : L2.St} : Kp ms σ σ := fun _ _ => rfl
theorem Kp.trans {ms : List Nat} {σ σ1 σ2 : L2.St} (a : Kp ms σ σ1) (b : Kp ms σ1 σ2) : Kp ms σ σ2 := fun j h => (b j h).trans (a j h)
theorem Kp.mono {ms ms' : List Nat} {σ σ' : L2.St} (a : Kp ms σ σ') (h : ∀ j, j ∈ ms → j ∈ ms') : Kp ms' σ σ' := fun j hj => a j fun z => hj (h j z)
def ResS (g : G) (W : WX) (mu ms : List Nat) (σ : L2.St) (w : Wd) (r : R Fw) (Q : Fw → L2.St → Wd → Prop) : Prop := match r with
  | .ok f env' => ∀ σ' w', w'.env = env' → Own g.K g.CA σ' w' → Grow mu w w' → Kp ms σ σ' → Q f σ' w'
  | .exc c ks fs env' => ∀ σ' w' dx, w'.env = env' → Own g.K g.CA σ' w' → Grow mu w w' → Kp ms σ σ' → ExcAt g.K g.CA (Zone mu w) w' ks fs dx → W (.ref (g.CA c)) dx σ' w'.H
  | .stuck => False
def eQ (g : G) (mu : List Nat) (w : Wd) (D : Ends) : Fw → L2.St → Wd → Prop
  | .nx, σ, w' => D.nx σ w'.H
  | .bk, σ, w' => D.bk σ w'.H
  | .ct, σ, w' => D.ct σ w'.H
  | .rt d, σ, w' => ∀ v T, Rep g.K g.CA w'.F w'.H d v T → Tmp w' T → (∀ a, T a → Zone mu w a) → D.rt v w'.H
def tS (g : G) (W : WX) (mu ms : List Nat) (f : Env → R Fw) : TS := fun D σ H => ∃ w, w.H = H ∧ Own g.K g.CA σ w ∧ ResS g W mu ms σ w (f w.env) (eQ g mu w D)
theorem ResS.mono {mu ms : List Nat} {σ : L2.St} {w : Wd} {r : R Fw} {Q Q' : Fw → L2.St → Wd → Prop} (h : ResS g W mu ms σ w r Q) (k : ∀ f σ' w', r = .ok f w'.env → Own g.K g.CA σ' w' → Grow mu w w' → Q f σ' w' → Q' f σ' w') : ResS g W mu ms σ w r Q' := by
  cases r with
  | ok a env => exact fun σ' w' e o gr kp => k a σ' w' (by rw [e]) o gr (h σ' w' e o gr kp)
  | exc _ _ _ _ => exact h
  | stuck => exact h
/-- a later base -/
theorem ResS.from {mu m ms : List Nat} {σ σ1 : L2.St} {w w1 : Wd} {r : R Fw} {Q : Fw → L2.St → Wd → Prop} (h : ResS g W mu ms σ w r Q) (g1 : Grow m w w1) (s : ∀ j, j ∈ m → j ∈ mu) (k1 : Kp ms σ σ1) : ResS g W mu ms σ1 w1 r Q := by
  cases r with
  | ok a env => exact fun σ' w' e o gr kp => h σ' w' e o ((g1.mono s).trans gr) (k1.trans kp)
  | exc _ _ _ _ => exact fun σ' w' dx e o gr kp x => h σ' w' dx e o ((g1.mono s).trans gr) (k1.trans kp) (x.mono fun _ z => (g1.mono s).zone z)
  | stuck => exact h
theorem eQ.from {mu m : List Nat} {w w1 : Wd} {D : Ends} (g1 : Grow m w w1) (s : ∀ j, j ∈ m → j ∈ mu) {f : Fw} {σ : L2.St} {w' : Wd} (h : eQ g mu w D f σ w') : eQ g mu w1 D f σ w' := by
  cases f with
  | rt d => exact fun v T r t z => h v T r t fun a ha => (g1.mono s).zone (z a ha)
  | _ => exact h
/-- the reading of an expression within a statement: from the statement's -/
theorem ResS.open {α : Type} {mu m ms : List Nat} {σ : L2.St} {w : Wd} {r : R α} {k : α → Env → R Fw} {Q : Fw → L2.St → Wd → Prop} (h : ResS g W mu ms σ w (r.bind k) Q) (s : ∀ j, j ∈ m → j ∈ mu) : Res g.K g.CA W σ m w r fun a w1 => ResS g W mu ms σ w (k a w1.env) Q := by
  cases r with
  | ok a env =>
    intro w1 e o1 g1
    have h' : ResS g W mu ms σ w (k a env) Q := h
    subst e
    exact h'
  | exc c ks fs env => exact fun w' dx e o gr x => h σ w' dx e o (gr.mono s) Kp.refl (x.mono fun _ z => z.mono s)
  | stuck => exact h
theorem s_nil {mu ms : List Nat} : PSs X [] (tS g W mu ms (evB cf .nil)) := pss_is pss_nil fun D σ H q => by
  obtain ⟨w, rfl, o, r⟩ := q
  rw [evB] at r
  exact r σ w rfl o (Grow.refl _ _) Kp.refl
theorem s_cons {mu ms : List Nat} {s : S} {b : B} {st : Stmt} {sts : List Stmt} (h : PS X st (tS g W mu ms (evS cf s))) (hr : PSs X sts (tS g W mu ms (evB cf b))) : PSs X (st :: sts) (tS g W mu ms (evB cf (.cons s b))) := pss_is (pss_cons h hr) fun D σ H q => by
  obtain ⟨w, rfl, o, r⟩ := q
  refine ⟨w, rfl, o, ?_⟩
  rw [evB] at r
  cases e : evS cf s w.env with
  | stuck => rw [e] at r; exact r.elim
  | exc _ _ _ _ => rw [e] at r; exact r
  | ok f env =>
    rw [e] at r
    intro σ1 w1 e1 o1 g1 kp
    subst e1
    cases f with
    | nx =>
      have r : ResS g W mu ms σ w (evB cf b w1.env) (eQ g mu w D) := r
      exact ⟨w1, rfl, o1, (r.from g1 (fun _ z => z) kp).mono fun f σ' w' _ _ _ q => q.from g1 fun _ z => z⟩
    | bk => exact r σ1 w1 rfl o1 g1 kp
    | ct => exact r σ1 w1 rfl o1 g1 kp
    | rt d => exact r σ1 w1 rfl o1 g1 kp
theorem s_pas {mu ms : List Nat} {st : Stmt} (h : PS X st tNext) : PS X st (tS g W mu ms (evS cf .pas)) := ps_is h fun D σ H q => by
  obtain ⟨w, rfl, o, r⟩ := q
  rw [evS] at r
  exact r σ w rfl o (Grow.refl _ _) Kp.refl
theorem s_brk {mu ms : List Nat} {pos : Pos} : PS X (.Break pos) (tS g W mu ms (evS cf .brk)) := ps_is ps_break fun D σ H q => by
  obtain ⟨w, rfl, o, r⟩ := q
  rw [evS] at r
  exact r σ w rfl o (Grow.refl _ _) Kp.refl
theorem s_cnt {mu ms : List Nat} {pos : Pos} : PS X (.Continue pos) (tS g W mu ms (evS cf .cnt)) := ps_is ps_continue fun D σ H q => by
  obtain ⟨w, rfl, o, r⟩ := q
  rw [evS] at r
  exact r σ w rfl o (Grow.refl _ _) Kp.refl
theorem s_retN {mu ms : List Nat} {pos : Pos} : PS X (.Return none pos) (tS g W mu ms (evS cf .retN)) := ps_is ps_retN fun D σ H q => by
  obtain ⟨w, rfl, o, r⟩ := q
  rw [evS] at r
  exact r σ w rfl o (Grow.refl _ _) Kp.refl .non noAd rfl Tmp.none fun _ z => z.elim
theorem s_ret {mu m ms : List Nat} {x : Expr} {e : E} {pos : Pos} (h : PE X x (tE g W m (evE cf e))) (s : ∀ j, j ∈ m → j ∈ mu) : PS X (.Return (some x) pos) (tS g W mu ms (evS cf (.ret e))) := ps_is (ps_ret h) fun D σ H q => by
  obtain ⟨w, rfl, o, r⟩ := q
  refine ⟨w, rfl, o, ?_⟩
  rw [evS] at r
  refine (r.open s).mono (fun it w1 ev o1 g1 q1 v T i z => ?_) fun _ z => z
  cases it with
  | tmp d => exact q1 σ w1 rfl o1 (g1.mono s) Kp.refl v T i.1 i.2 fun a ha => (z a ha).mono s
  | ref _ _ => exact q1.elim
theorem s_exp {mu m ms : List Nat} {x : Expr} {e : E} {pos : Pos} (h : PE X x (tE g W m (evE cf e))) (s : ∀ j, j ∈ m → j ∈ mu) (hs : swapsWith x none pos.line X.env = pure false) : PS X (.Expr x pos) (tS g W mu ms (evS cf (.exp e))) := ps_is (ps_expr h hs) fun D σ H q => by
  obtain ⟨w, rfl, o, r⟩ := q
  refine ⟨w, rfl, o, ?_⟩
  rw [evS] at r
  exact (r.open s).mono (fun it w1 ev o1 g1 q1 v T i z => q1 σ w1 rfl o1 (g1.mono s) Kp.refl) fun _ z => z
theorem s_if {mu m ms : List Nat} {x : Expr} {t : T} {a b : B} {as bs : List Stmt} {pos : Pos} (h : PT X x (tTs g W m (evT cf t))) (ha : PSs X as (tS g W mu ms (evB cf a))) (hb : PSs X bs (tS g W mu ms (evB cf b))) (s : ∀ j, j ∈ m → j ∈ mu) : PS X (.If x as bs pos) (tS g W mu ms (evS cf (.iff t a b))) := ps_is (ps_if h ha hb) fun D σ H q => by
  obtain ⟨w, rfl, o, r⟩ := q
  refine ⟨w, rfl, o, ?_⟩
  rw [evS] at r
  refine (r.open s).mono (fun bb w1 ev o1 g1 q1 => ?_) fun _ z => z
  cases bb with
  | true => exact ⟨w1, rfl, o1, (q1.from g1 s Kp.refl).mono fun f σ' w' _ _ _ q => q.from g1 s⟩
  | false => exact ⟨w1, rfl, o1, (q1.from g1 s Kp.refl).mono fun f σ' w' _ _ _ q => q.from g1 s⟩
/-- an assignment's reading -/
theorem asg_rd {mu m ms : List Nat} {tg : Tg} {e : E} (nx : ∀ j, j ∈ tgS tg → Nx g.CA j) (s : ∀ j, j ∈ m → j ∈ mu) (s2 : ∀ j, j ∈ tgS tg → j ∈ mu) (s9 : ∀ j, j ∈ tgS tg → j ∈ ms) {D : Ends} {σ : L2.St} {H : Hp} (q : tS g W mu ms (evS cf (.asg tg e)) D σ H) : tE g W m (evE cf e) σ H fun v H1 => gT g.K tg v σ H1 D.nx := by
  obtain ⟨w, rfl, o, r⟩ := q
  refine ⟨w, rfl, o, ?_⟩
  rw [evS] at r
  refine (r.open s).mono (fun it w1 ev o1 g1 q1 v T i z => ?_) fun _ z => z
  cases it with
  | ref _ _ => exact q1.elim
  | tmp d =>
    have q1 : ResS g W mu ms σ w (match bindT tg d w1.env with | some env' => .ok .nx env' | none => .stuck) (eQ g mu w D) := q1
    cases hb : bindT tg d w1.env with
    | none => rw [hb] at q1; exact q1.elim
    | some env' =>
      rw [hb] at q1
      obtain ⟨σ', S', b, k⟩ := bnd_ok o1 i.1 i.2 nx hb
      exact k _ (q1 σ' ⟨w1.F, w1.H, S', env'⟩ rfl b.own (b.grow g1 s s2 fun a ha => (z a ha).mono s) fun j hj => b.os j fun h => hj (s9 j h))
theorem ckG_star {tg : Tg} {y : Expr} (h : ckG c tg y = true) : noStar y = true := by
  cases tg <;> cases y <;> first | rfl | cases h
theorem s_asg {mu m ms : List Nat} {tg : Tg} {e : E} {x y : Expr} {pos : Pos} (hx : XOk g c X) (hh : noTup tg = true ∨ c.hot = false) (h : PE X x (tE g W m (evE cf e))) (hg : ckG c tg y = true) (hs : swapsWithSole [y] x pos.line X.env = pure false) (hw : swappedStores [y] x X.env = pure none) (s : ∀ j, j ∈ m → j ∈ mu) (s2 : ∀ j, j ∈ tgS tg → j ∈ mu) (s9 : ∀ j, j ∈ tgS tg → j ∈ ms) :
    PS X (.Assign [y] x pos) (tS g W mu ms (evS cf (.asg tg e))) := ps_is (ps_asg h (g_ok hx hh hg) hs hw (by rw [assign_each (ckG_star hg)]; rfl)) fun D σ H q => asg_rd (ck_nx hx hg) s s2 s9 q
/-- two at once -/
theorem s_par {mu m1 m2 ms : List Nat} {i j : Nat} {a b : E} {xa xb : Expr} {x y : Str} {px py pt : Pos} {kt k2 pt2} {pos : Pos} (hx : XOk g c X) (hh : c.hot = false) (ha : PE X xa (tE g W m1 (evE cf a))) (hb : PE X xb (tE g W m2 (evE cf b))) (sa : noStar xa = true) (sb : noStar xb = true)
    (hi : c.N[i]? = some x) (hj : c.N[j]? = some y) (hij : i ≠ j) (lx : c.sc.names.lookup x = some .local) (ly : c.sc.names.lookup y = some .local) (hw : swappedStores [.Tuple [.Name x px, .Name y py] kt pt] (.Tuple [xa, xb] k2 pt2) X.env = pure (some [x, y]))
    (hd : ∀ i, i ∈ deepE a → i ∉ m2) (s1 : ∀ j, j ∈ m1 → j ∈ mu) (s2 : ∀ j, j ∈ m2 → j ∈ mu) (s3 : i ∈ mu) (s4 : j ∈ mu) (s5 : i ∈ ms) (s6 : j ∈ ms) : PS X (.Assign [.Tuple [.Name x px, .Name y py] kt pt] (.Tuple [xa, xb] k2 pt2) pos) (tS g W mu ms (evS cf (.par i j a b))) :=
  ps_is (ps_par (hx.calm hh) (by rw [hx.N]; exact hx.nd) (by rw [hx.N]; exact hi) (by rw [hx.N]; exact hj) hij (by rw [hx.sc]; exact lx) (by rw [hx.sc]; exact ly) (pa_of (.cons ha tI_mono (.cons hb tI_mono .nil)) (by rw [List.all_cons, List.all_cons, sa, sb]; rfl)) hw) fun D σ H q => by
    obtain ⟨w, rfl, o, r⟩ := q
    refine ⟨w, rfl, o, ?_⟩
    rw [evS] at r
    refine (r.open (m := m1) s1).mono (fun it w1 ev o1 g1 q1 v T it1 z => ?_) fun _ z => z
    refine ⟨w1, rfl, o1, ?_⟩
    refine (((q1.open (σ := σ) (m := mu) fun _ z => z).grow g1 s1).mono (fun it2 w2 ev2 o2 g2 q2 v2 T2 it2' z2 => ?_) s2)
    have i1 := it1.step o1 g2 fun j a as e1 hj => by
      subst e1
      exact hd j ((evE_ref ev).2 (fun z => by cases z)) hj
    refine ⟨v, v2, rfl, ?_⟩
    cases it with
    | ref _ _ => exact q2.elim
    | tmp d =>
      cases it2 with
      | ref _ _ => exact q2.elim
      | tmp d2 =>
        have q2 : ResS g W mu ms σ w (match (setS w2.env i d).bind fun env => setS env j d2 with | some env' => .ok .nx env' | none => .stuck) (eQ g mu w D) := q2
        cases h1 : setS w2.env i d with
        | none => rw [h1] at q2; exact q2.elim
        | some env1 =>
          rw [h1] at q2
          have q2 : ResS g W mu ms σ w (match setS env1 j d2 with | some env' => .ok .nx env' | none => .stuck) (eQ g mu w D) := q2
          cases h2 : setS env1 j d2 with
          | none => rw [h2] at q2; exact q2.elim
          | some env2 =>
            rw [h2] at q2
            have dj : ∀ a, T a → T2 a → False := fun a ha hb => it1.tmpOk.notZone ha (z2 a hb)
            obtain ⟨σ1, S1, b1, k1⟩ := bnd_ok (t := .nm i) o2 i1.1 i1.2 (fun q _ => nx_cold (hx.cold hh) q) (by rw [bindT]; exact h1)
            have e1 := k1 (fun σ _ => σ = σ1) rfl
            rw [gT] at e1
            have e1 : σ.set i (some v) = σ1 := e1
            have t2 : Tmp ⟨w2.F, w2.H, S1, env1⟩ T2 := fun a ha => ⟨(it2'.2 a ha).1, (it2'.2 a ha).2.1, fun k hk => (b1.new k a hk).elim ((it2'.2 a ha).2.2 k) fun z => dj a z ha⟩
            obtain ⟨σ2, S2, b2, k2⟩ := bnd_ok (t := .nm j) b1.own it2'.1 t2 (fun q _ => nx_cold (hx.cold hh) q) (by rw [bindT]; exact h2)
            have e2 := k2 (fun σ _ => σ = σ2) rfl
            rw [gT] at e2
            have e2 : σ1.set j (some v2) = σ2 := e2
            rw [e1, e2]
            have gr := b1.grow (mu := mu) ((g1.mono s1).trans (g2.mono s2)) (fun _ z => z) (fun k hk => by rw [tgS, List.mem_singleton] at hk; exact hk ▸ s3) fun a ha => (z a ha).mono s1
            exact q2 σ2 ⟨w2.F, w2.H, S2, env2⟩ rfl b2.own (b2.grow gr (fun _ z => z) (fun k hk => by rw [tgS, List.mem_singleton] at hk; exact hk ▸ s4) fun a ha => (g1.mono s1).zone ((z2 a ha).mono s2)) fun k hk => (b2.os k fun h => hk (by rw [tgS, List.mem_singleton] at h; exact h ▸ s6)).trans (b1.os k fun h => hk (by rw [tgS, List.mem_singleton] at h; exact h ▸ s5))
/-! ### loops -/
theorem s_whl {mu m ms : List Nat} {x : Expr} {t : T} {b : B} {bs : List Stmt} {pos : Pos} (hp : PassesOwn (model X.prog X.w) X.A X.env X.xe) (h : PT X x (tTs g W m (evT cf t))) (hb : PSs X bs (tS g W mu ms (evB cf b))) (s : ∀ j, j ∈ m → j ∈ mu) : PS X (.While x bs [] pos) (tS g W mu ms (evS cf (.whl t b))) := ps_is (ps_while hp h hb) fun D σ H q => by
  obtain ⟨w, rfl, o, r⟩ := q
  rw [evS] at r
  let P : Nat → L2.St → Hp → Prop := fun n σ1 H => ∃ w', w'.H = H ∧ Own g.K g.CA σ1 w' ∧ Grow mu w w' ∧ ResS g W mu ms σ1 w (whlGo (fun env => evT cf t env) (fun env => evB cf b env) n w'.env) (eQ g mu w D)
  refine ⟨P, ⟨wMost, w, rfl, o, Grow.refl _ _, r⟩, fun n σ1 H1 ⟨w1, e1, o1, g1, r1⟩ => ?_⟩
  subst e1
  refine ⟨w1, rfl, o1, ?_⟩
  cases n with
  | zero => exact r1.elim
  | succ n =>
    rw [whlGo] at r1
    refine (((r1).open (m := mu) fun _ z => z).grow g1 fun _ z => z).mono (fun bb w2 ev o2 g2 q2 => ?_) s
    have gg := g1.trans (g2.mono s)
    cases bb with
    | false => exact q2 σ1 w2 rfl o2 gg Kp.refl
    | true =>
      refine ⟨P n, fun σ' H' p => ⟨n, Nat.lt_succ_self n, p⟩, w2, rfl, o2, ?_⟩
      have q2 : ResS g W mu ms σ1 w ((evB cf b w2.env).bind fun f env => match f with
        | .nx => whlGo (fun env => evT cf t env) (fun env => evB cf b env) n env
        | .ct => whlGo (fun env => evT cf t env) (fun env => evB cf b env) n env
        | .bk => .ok .nx env
        | .rt d => .ok (.rt d) env) (eQ g mu w D) := q2
      cases e : evB cf b w2.env with
      | stuck => rw [e] at q2; exact q2.elim
      | exc _ _ _ _ => rw [e] at q2; exact ResS.from (m := mu) q2 gg (fun _ z => z) Kp.refl
      | ok f env =>
        rw [e] at q2
        intro σ3 w3 e3 o3 g3 k3
        subst e3
        cases f with
        | nx => exact ⟨w3, rfl, o3, gg.trans g3, ResS.from (m := []) q2 (Grow.refl [] w) nil_sub k3⟩
        | ct => exact ⟨w3, rfl, o3, gg.trans g3, ResS.from (m := []) q2 (Grow.refl [] w) nil_sub k3⟩
        | bk => exact q2 σ3 w3 rfl o3 (gg.trans g3) k3
        | rt d => exact fun v T r t z => q2 σ3 w3 rfl o3 (gg.trans g3) k3 v T r t fun a ha => gg.zone (z a ha)
theorem s_for {mu mi mb ms msb : List Nat} {x tgx : Expr} {tg : Tg} {it : I} {b : B} {bs : List Stmt} {pos : Pos} (hx : XOk g c X) (hh : c.hot = false) (hp : PassesOwn (model X.prog X.w) X.A X.env X.xe) (hi : PI X tgx x (tIt g W mi mb (evI cf it))) (hg : ckG c tg tgx = true) (hb : PSs X bs (tS g W mb msb (evB cf b)))
    (s1 : ∀ j, j ∈ mi → j ∈ mu) (s2 : ∀ j, j ∈ mb → j ∈ mu) (s3 : ∀ j, j ∈ tgS tg → j ∈ mb) (s4 : ∀ j, j ∈ tgS tg → j ∈ ms) (s5 : ∀ j, j ∈ msb → j ∈ ms) (hs : ∀ y, foldedSetIterable x X.env y = pure y) : PS X (.For tgx x bs [] pos) (tS g W mu ms (evS cf (.for tg it b))) := ps_is (ps_for hp (hx.calm hh) hi (g_ok hx (.inr hh) hg) hb hs) fun D σ H q => by
  obtain ⟨w, rfl, o, r⟩ := q
  refine ⟨w, rfl, o, ?_⟩
  rw [evS] at r
  refine (r.open (σ := σ) (m := mi) s1).mono (fun xs w1 ev o1 g1 q1 J hJ => ?_) fun _ z => z
  obtain ⟨Gd, Y, hW, st⟩ := hJ
  let P : Nat → L2.St → Hp → Prop := fun i σ1 H => ∃ w2 : Wd, w2.H = H ∧ Own g.K g.CA σ1 w2 ∧ Grow mb w1 w2 ∧ Kp ms σ σ1 ∧ ResS g W mu ms σ w (forGo tg (fun env => evB cf b env) (xs.drop i) w2.env) (eQ g mu w D)
  refine for_it hW P ⟨w1, rfl, o1, Grow.refl _ _, Kp.refl, q1⟩ (fun i σ1 H hi ⟨w2, e2, o2, g2, k0, r2⟩ => ?_) (fun i x σ2 H H' hi ⟨w2, e2, o2, g2, k0, r2⟩ hy => ?_) fun σ1 H ⟨w2, e2, o2, g2, k0, r2⟩ => ?_
  · subst e2
    exact (st w2.F w2.H (g2.stay o1 o2.le)).1
  · subst e2
    obtain ⟨d, F', k1, k2, k3, k4, k5, k6⟩ := (st w2.F w2.H (g2.stay o1 o2.le)).2 i x H' hi hy
    have hd : xs.drop i = d :: xs.drop (i + 1) := by
      obtain ⟨hl, e⟩ := List.getElem?_eq_some_iff.mp k1
      rw [← e]
      exact List.drop_eq_getElem_cons hl
    rw [hd, forGo] at r2
    have kH : ∀ a, w2.H a ≠ none → H' a = w2.H a := fun a hn => by
      cases e : w2.H a with
      | none => exact absurd e hn
      | some u => exact k4 a u e
    have o3 : Own g.K g.CA σ2 ⟨F', H', w2.S, w2.env⟩ := o2.grow k2 k3 (fun a hn _ => kH a hn) fun a ha => (k5 a ha).imp id fun z i hs => (o2.trk i a hs).1 z
    have g3 : Grow mb w1 ⟨F', H', w2.S, w2.env⟩ := g2.trans ⟨k2, fun a hn _ => kH a hn, fun _ _ => rfl, fun _ _ => rfl, rfl, fun _ _ z => .inl z, fun a ha => (k5 a ha).imp id .inr⟩
    cases hb : bindT tg d w2.env with
    | none => rw [hb] at r2; exact r2.elim
    | some env3 =>
      rw [hb] at r2
      obtain ⟨σ3, S3, b3, kq⟩ := bnd_ok o3 (k6.pureH (T := noAd) (H' := H')) Tmp.none (ck_nx hx hg) (show bindT tg d (⟨F', H', w2.S, w2.env⟩ : Wd).env = some env3 from hb)
      have k03 : Kp ms σ σ3 := k0.trans fun j hj => b3.os j fun h => hj (s4 j h)
      refine kq _ ⟨⟨F', H', S3, env3⟩, rfl, b3.own, ?_⟩
      have g4 : Grow mb w1 ⟨F', H', S3, env3⟩ := b3.grow g3 (fun _ z => z) s3 fun _ z => z.elim
      have g5 : Grow mu w ⟨F', H', S3, env3⟩ := (g1.mono s1).trans (g4.mono s2)
      show ResS g W mb msb σ3 ⟨F', H', S3, env3⟩ (evB cf b env3) _
      have r2 : ResS g W mu ms σ w ((evB cf b env3).bind fun f env => match f with
        | .nx => forGo tg (fun env => evB cf b env) (xs.drop (i + 1)) env
        | .ct => forGo tg (fun env => evB cf b env) (xs.drop (i + 1)) env
        | .bk => .ok .nx env
        | .rt d => .ok (.rt d) env) (eQ g mu w D) := r2
      cases e : evB cf b env3 with
      | stuck => rw [e] at r2; exact r2.elim
      | exc _ _ _ _ => rw [e] at r2; exact fun σ' w' dx e o gr kp x => r2 σ' w' dx e o (g5.trans (gr.mono s2)) (k03.trans (kp.mono s5)) (x.mono fun _ z => g5.zone (z.mono s2))
      | ok f env =>
        rw [e] at r2
        intro σ4 w4 e4 o4 g6 k4
        subst e4
        have k5 := k03.trans (k4.mono s5)
        cases f with
        | nx => exact ⟨w4, rfl, o4, g4.trans g6, k5, r2⟩
        | ct => exact ⟨w4, rfl, o4, g4.trans g6, k5, r2⟩
        | bk => exact r2 σ4 w4 rfl o4 (g5.trans (g6.mono s2)) k5
        | rt d => exact fun v T r t z => r2 σ4 w4 rfl o4 (g5.trans (g6.mono s2)) k5 v T r t fun a ha => g5.zone ((z a ha).mono s2)
  · subst e2
    rw [List.drop_length, forGo] at r2
    exact r2 σ1 w2 rfl o2 ((g1.mono s1).trans (g2.mono s2)) k0
end
end Z

/-! Z22: comprehensions as expressions and as statements; x op= e. -/
namespace Z
open PySem L2 PySem.Spec PyProof.Rows
section
variable {g : G} {c : Cxt} {X : Cx} {W : WX} {cf : Nat → List D → CR}
def noSet : Expr → Bool
  | .Set _ _ _ => false
  | _ => true
theorem noSet_ok {x : Expr} {env : PySem.Env} (h : noSet x = true) : ∀ y, foldedSetIterable x env y = pure y := by
  intro y
  cases x <;> first | rfl | cases h
/-- no exception comes out -/
def WN : WX := fun _ _ _ _ => False
theorem takesN : Takes X WN := fun u s' ⟨a, B, sI, pins, σ, H, cls, d, e, I, nb, up, sky, na, os, ag, w⟩ => w.elim
def yesT : T → Bool
  | .yes => true
  | _ => false
theorem pts_is {ifs : List Expr} {t u : TT} (h : PTs X ifs t) (k : ∀ σ H Q, u σ H Q → t σ H Q) : PTs X ifs u := ⟨fun pins s σ H Q I q => h.run pins s σ H Q I (k σ H Q q)⟩
theorem pts_yes : PTs X [] (tTs g W [] (evT cf .yes)) := pts_is pts_nil fun σ H Q q => by
  obtain ⟨w, rfl, o, r⟩ := q
  rw [evT] at r
  exact r.ok o
theorem c_lc {own : List (Str × Nat)} {elt tgx iter : Expr} {ifs : List Expr} {scope : Scope} {pos : Pos} {e : E} {tg : Tg} {it : I} {t : T} {mi mt me mu : List Nat} (hx : XOk g c X) (hh : c.hot = false) (hi : PI X tgx iter (tIt g W mi (mt ++ me) (evI cf it))) (ok : blkC c.N c.sc scope own = true)
    (hg : ckG (blkX c scope) tg tgx = true) (ht : ∀ X', X'.A = X.A → XOk g (blkX c scope) X' → PTs X' ifs (tTs g WN mt (evT cf t))) (he : ∀ X', X'.A = X.A → XOk g (blkX c scope) X' → PE X' elt (tE g WN me (evE cf e)))
    (hs : noSet iter = true) (hown : ∀ j, j ∈ tgS tg → j ∈ own.map (·.2)) (s1 : ∀ j, j ∈ mi → j ∈ mu) (s2 : ∀ j, j ∈ mt → j ∈ mu) (s3 : ∀ j, j ∈ me → j ∈ mu) :
    PE X (.ListComp elt [⟨tgx, iter, ifs, 0⟩] scope pos) (tE g W mu (evE cf (.lc (own.map (·.2)) e tg it t))) :=
  pe_is (pe_lc (hx.calm hh) (by rw [hx.N]; exact hx.nd) hi (blkOk_by (by rw [hx.N, hx.sc]; exact ok)) (fun s H C cl fp => g_ok (blk_ok hx hh s H C cl fp) (.inr hh) hg) (fun s H C cl fp => ht _ rfl (blk_ok hx hh s H C cl fp)) (fun s H C cl fp => he _ rfl (blk_ok hx hh s H C cl fp)) (noSet_ok hs))
    fun σ H Q q => lc_rd (hx.cold hh) hown s1 s2 s3 q
theorem s_asgLc {i : Nat} {y : Str} {py spos : Pos} {own : List (Str × Nat)} {elt tgx iter : Expr} {ifs : List Expr} {scope : Scope} {pos : Pos} {e : E} {tg : Tg} {it : I} {t : T} {mi mt me mu ms : List Nat} (hx : XOk g c X) (hh : c.hot = false) (hy : c.N[i]? = some y) (hyl : c.sc.names.lookup y = some .local) (hk : c.sc.kind = .function) (hl : (py.line == pos.line) = true)
    (ha : (scope.names.any fun (n, k) => n == y && (k == .local || k == .cell)) = false)
    (hi : PI X tgx iter (tIt g W mi (mt ++ me) (evI cf it))) (ok : blkC c.N c.sc scope own = true)
    (hg : ckG (blkX c scope) tg tgx = true) (ht : ∀ X', X'.A = X.A → XOk g (blkX c scope) X' → PTs X' ifs (tTs g WN mt (evT cf t))) (he : ∀ X', X'.A = X.A → XOk g (blkX c scope) X' → PE X' elt (tE g WN me (evE cf e)))
    (hs : noSet iter = true) (hown : ∀ j, j ∈ tgS tg → j ∈ own.map (·.2)) (s1 : ∀ j, j ∈ mi → j ∈ mu) (s2 : ∀ j, j ∈ mt → j ∈ mu) (s3 : ∀ j, j ∈ me → j ∈ mu) (s4 : i ∈ mu) (s5 : i ∈ ms) :
    PS X (.Assign [.Name y py] (.ListComp elt [⟨tgx, iter, ifs, 0⟩] scope pos) spos) (tS g W mu ms (evS cf (.asg (.nm i) (.lc (own.map (·.2)) e tg it t)))) :=
  ps_is (ps_setLc (hx.calm hh) (by rw [hx.N]; exact hx.nd) (by rw [hx.N]; exact hy) (by rw [hx.sc]; exact hyl) (sw_true (by rw [hx.sc]; exact hk) (by rw [hx.sc]; exact hyl) hl ha) hi (blkOk_by (by rw [hx.N, hx.sc]; exact ok)) (fun s H C cl fp => g_ok (blk_ok hx hh s H C cl fp) (.inr hh) hg) (fun s H C cl fp => ht _ rfl (blk_ok hx hh s H C cl fp)) (fun s H C cl fp => he _ rfl (blk_ok hx hh s H C cl fp)) (noSet_ok hs))
    fun D σ H q => lc_rd (hx.cold hh) hown s1 s2 s3 (by
      have := asg_rd (fun q _ => nx_cold (hx.cold hh) q) (m := mu) (fun _ z => z) (fun j hj => by rw [tgS, List.mem_singleton] at hj; exact hj ▸ s4) (fun j hj => by rw [tgS, List.mem_singleton] at hj; exact hj ▸ s5) q
      rw [gT] at this
      exact this)
def augO : Pr → Option Operator
  | .add => some .Add
  | .sub => some .Sub
  | _ => none
theorem aug_int {op : Pr} {d0 d1 d : D} (h : augS op d0 d1 = some d) : ∃ i j, d0 = .int i ∧ d1 = .int j ∧ ((op = .add ∧ d = .int (i + j)) ∨ (op = .sub ∧ d = .int (i - j))) := by
  unfold augS at h
  split at h
  · cases h; exact ⟨_, _, rfl, rfl, .inl ⟨rfl, rfl⟩⟩
  · cases h; exact ⟨_, _, rfl, rfl, .inr ⟨rfl, rfl⟩⟩
  · cases h
theorem s_aug {mu m ms : List Nat} {i : Nat} {op : Pr} {e : E} {x : Expr} {y : Str} {py pos : Pos} {o : Operator} (hx : XOk g c X) (hy : nmB c i y = true) (ho : augO op = some o) (h : PE X x (tE g W m (evE cf e))) (s : ∀ j, j ∈ m → j ∈ mu) (s2 : i ∈ mu) (s3 : i ∈ ms) :
    PS X (.AugAssign (.Name y py) o x pos) (tS g W mu ms (evS cf (.aug i op e))) := by
  obtain ⟨h1, h2, h3⟩ := nm_ok hx hy
  have key : ∀ (f : Int → Int → Int), (∀ d0 d1 d, augS op d0 d1 = some d → ∃ i j, d0 = .int i ∧ d1 = .int j ∧ d = .int (f i j)) → ∀ D σ H, tS g W mu ms (evS cf (.aug i op e)) D σ H → tAug i (tE g W m (evE cf e)) (ipI f) D σ H := by
    intro f hf D σ H q
    obtain ⟨w, rfl, o, r⟩ := q
    rw [evS] at r
    cases e0 : slot w.env i with
    | none => rw [e0] at r; exact r.elim
    | some d0 =>
      rw [e0] at r
      obtain ⟨v0, k1, k2⟩ := o.rep i d0 e0
      refine ⟨v0, k1, w, rfl, o, ?_⟩
      refine (ResS.open (σ := σ) r s).mono (fun it w1 ev o1 g1 q1 v T i1 z => ?_) fun _ z => z
      cases it with
      | ref _ _ => exact q1.elim
      | tmp d1 =>
        have q1 : ResS g W mu ms σ w (match (augS op d0 d1).bind fun d => setS w1.env i d with | some env' => .ok .nx env' | none => .stuck) (eQ g mu w D) := q1
        cases ea : augS op d0 d1 with
        | none => rw [ea] at q1; exact q1.elim
        | some d =>
          rw [ea] at q1
          have q1 : ResS g W mu ms σ w (match setS w1.env i d with | some env' => .ok .nx env' | none => .stuck) (eQ g mu w D) := q1
          obtain ⟨a, b, rfl, rfl, rfl⟩ := hf _ _ _ ea
          refine ⟨a, b, k2, i1.1, ?_⟩
          cases hb : setS w1.env i (.int (f a b)) with
          | none => rw [hb] at q1; exact q1.elim
          | some env' =>
            rw [hb] at q1
            obtain ⟨σ', S', b', k⟩ := bnd_ok (t := .nm i) (d := .int (f a b)) (v := .int (f a b)) (T := noAd) o1 rfl Tmp.none (fun q hq => by rw [tgS, List.mem_singleton] at hq; exact hq ▸ nm_nx hx hy) (by rw [bindT]; exact hb)
            have e1 := k (fun σ _ => σ = σ') rfl
            rw [gT] at e1
            have e1 : σ.set i (some (V.int (f a b))) = σ' := e1
            rw [e1]
            exact q1 σ' ⟨w1.F, w1.H, S', env'⟩ rfl b'.own (b'.grow g1 s (fun j hj => by rw [tgS, List.mem_singleton] at hj; exact hj ▸ s2) fun _ z => z.elim) fun j hj => b'.os j fun h => hj (by rw [tgS, List.mem_singleton] at h; exact h ▸ s3)
  cases op <;> try (cases ho; done)
  case add =>
    cases ho
    exact ps_is (ps_aug (by rw [hx.N]; exact hx.nd) h1 h2 h ip_add h3) (key _ fun d0 d1 d e => by
      obtain ⟨i, j, a, b, h | h⟩ := aug_int e
      · exact ⟨i, j, a, b, h.2⟩
      · cases h.1)
  case sub =>
    cases ho
    exact ps_is (ps_aug (by rw [hx.N]; exact hx.nd) h1 h2 h ip_sub h3) (key _ fun d0 d1 d e => by
      obtain ⟨i, j, a, b, h | h⟩ := aug_int e
      · cases h.1
      · exact ⟨i, j, a, b, h.2⟩)
end
end Z

/-! Z22a: try with clauses, each with or without a name. -/
namespace Z
open PySem L2 PySem.Spec PyProof.Rows
abbrev Su := Addr → Value → Option Addr → TS
/-- a name's slot is emptied behind the suite -/
def offE (D : Ends) : Option Nat → Ends
  | none => D
  | some i => { nx := fun τ G => D.nx (τ.set i none) G, rt := D.rt, bk := fun τ G => D.bk (τ.set i none) G, ct := fun τ G => D.ct (τ.set i none) G }
def onE (σ : L2.St) (a : Addr) : Option Nat → L2.St
  | none => σ
  | some i => σ.set i (some (.ref a))
/-- what the clauses ask of an exception of the body -/
def wZ (K : PySem.W.Frag) (Wo : WX) (D : Ends) : List (Value × Option Nat × Su) → WX
  | [] => Wo
  | (c, i, ts) :: r => fun cls d σ H => ∃ yes, PySem.W.exmOne K cls c = some yes ∧ (yes = true → ∀ a, H a = none → ts a cls d (offE D i) (onE σ a i) H) ∧ (yes = false → wZ K Wo D r cls d σ H)
/-- a clause's name -/
def NmZ (X : Cx) : Option Nat → Option Str → Prop
  | none, none => True
  | some i, some n => X.N[i]? = some n ∧ X.env.kindOf n = some .local
  | _, _ => False
inductive HdZ (X : Cx) : List ExceptHandler → List (Value × Option Nat × Su) → Prop
  | nil : HdZ X [] []
  | cons {x : Str} {c : Value} {i : Option Nat} {n : Option Str} {ts : Su} {b₀ : Stmt} {su : List Stmt} {np p2 : Pos} {hds : List ExceptHandler} {l : List (Value × Option Nat × Su)} (nm : Names X x c) (nz : NmZ X i n)
      (hsu : ∀ (a : Addr) (oe : Obj) (cls : Value) (d : Option Addr) (pn : List (Addr × Obj)), Zc cls d oe → (∃ vs, oe.data = .fields vs) → PSs (X.suite a ((a, oe) :: pn)) (b₀ :: su) (ts a cls d)) (r : HdZ X hds l) :
      HdZ X (.ExceptHandler (some (.Name x np)) n (b₀ :: su) p2 :: hds) ((c, i, ts) :: l)
section
variable {X : Cx} {body : List Stmt} {h₀ : ExceptHandler} {hds : List ExceptHandler} {l : List (Value × Option Nat × Su)} {pos : Pos} {tb : WX → TS} {Wo : WX}
theorem ps_tryZ (st : X.stack = X.env :: X.outer) (fr : X.env.frame = some X.env.locals) (ndN : X.N.Nodup) (tk : Takes X Wo)
    (hb : ∀ (W : WX) (pn : List (Addr × Obj)) (xe : Value → Shared → Prop), Takes (X.tr pn xe) W → PassesOwn (model X.prog X.w) X.A X.env xe → PSs (X.tr pn xe) body (tb W))
    (hh : HdZ X (h₀ :: hds) l) : PS X (.Try body (h₀ :: hds) [] [] pos) (fun D σ H => tb (wZ X.K Wo D l) D σ H) := by
  refine ⟨fun pins s σ H D I h => ?_⟩
  have okX := I.ok
  have frA : X.A.frames = some (X.env :: X.outer) := by rw [okX.frames, st]
  refine wpAny_Try_except ?_
  refine wpAny_mono ((hb (wZ X.K Wo D l) (X.pn ++ pins) (fun e s₁ => wpAny (model X.prog X.w) X.A (noteFrame e X.env) (fun _ s₂ => wpAny (model X.prog X.w) X.A (setFlight e none) (fun _ s₃ =>
    wpAny (model X.prog X.w) X.A (handleBy e X.env (h₀ :: hds)) (SP X pins D) X.xe s₃) X.xe s₂) X.xe s₁) (fun u s2 xx => ?_) PassesOwn.looking).run [] s σ H D (I.toTry _) h) (fun f s1 hsp => ?_) (fun e s1 he => he)
  · -- an exception comes
    obtain ⟨a, B, sI, pins2, σ2, H2, cls, d, rfl, J0, nb, up, sky, na, os, ag, w⟩ := xx
    have J : Inv X pins σ2 H2 sI := J0.ofTry okX
    have sky2 : Sky B (X.env :: X.outer) a (Zc cls d) X.env.locals s2.heap := by rw [← st]; exact sky
    show wpAny (model X.prog X.w) X.A (noteFrame (.ref a) X.env) _ _ s2
    refine Sky.land Zc.steady frA fr sky2 fun h3 fl3 up3 => ?_
    have J3 : Inv X pins σ2 H2 { s2 with heap := h3 } := J.landed nb fl3.1 (up.trans up3) os ag
    obtain ⟨oe3, vs3, he3, hz3, hd3⟩ := fl3.there
    have nfr : a ∉ frs (X.env :: X.outer) := fun hm => by
      obtain ⟨_, o9, e9, hnf⟩ := fl3.2.2.1.mem hm
      rw [he3] at e9
      cases e9
      exact hnf _ hd3
    have nL : a ≠ X.env.locals := fun z => nfr (List.mem_filterMap.mpr ⟨X.env, List.mem_cons_self, by rw [fr]; exact congrArg some z.symm⟩)
    have nF : a ∉ X.fs := fun hm => by
      obtain ⟨e9, he9, q9⟩ := List.mem_filterMap.mp hm
      exact nfr (List.mem_filterMap.mpr ⟨e9, List.mem_cons_of_mem _ he9, q9⟩)
    have S3 := J3.suite he3 hd3 na nL nF
    have go : ∀ {hs : List ExceptHandler} {l : List (Value × Option Nat × Su)}, HdZ X hs l → wZ X.K Wo D l cls d σ2 H2 →
        wpAny (model X.prog X.w) X.A (handleBy (.ref a) X.env hs) (SP X pins D) X.xe { s2 with heap := h3 } := by
      intro hs l hok
      induction hok with
      | nil =>
        intro w
        refine wpAny_handleBy_nil ?_
        obtain ⟨k1, k2, k3, oe, vs, T, oT, ts9, he, hz, hd, h1, hr⟩ := id fl3
        unfold PySem.passOn
        refine wpAny_bind (wpAny_field he hd h1 ?_)
        have isRef : ¬ ((Value.ref T == Value.none) = true) := by simp
        rw [if_neg isRef]
        have fin : wpAny (model X.prog X.w) X.A (setFlight (.ref a) X.env.frame) (fun _ s4 => wpAny (model X.prog X.w) X.A (throw (.ref a) : Sem Flow) (SP X pins D) X.xe s4) X.xe { s2 with heap := h3 } := by
          rw [fr]
          refine HandSPX.setFlight_upZ fl3 fun h4 hh4 up4 => wpAny_throw (tk _ _ ?_)
          exact ⟨a, B, sI, pins, σ2, H2, cls, d, rfl, J, nb, (up.trans up3).trans up4, .inr (.inr (by rw [st]; exact hh4)), na, os, ag, w⟩
        first
          | exact wpAny_bind (wpAny_pure (wpAny_bind fin))
          | exact wpAny_bind fin
      | @cons x c i n ts b₀ su np p2 hds2 l2 nm nz hsu r ih =>
        intro w
        obtain ⟨yes, hb1, hyes, hno⟩ := w
        refine wpAny_handleBy_cons (codeAny_handlers_test ?_) (by intro q; cases q)
        have lt : PySem.W.Looks (model X.prog X.w) h3 (typeOf (.ref a)) cls := fun A Q E s k q => wpAny_typeOf_ref (k _ _ he3) (by rw [hz3.1]; exact q)
        have lm := PySem.W.exm_one (M := model X.prog X.w) (J3.kIn) lt hb1
        have asks : ∀ {Q : Value → Shared → Prop} {E : Value → Shared → Prop}, Q c { s2 with heap := h3 } → wpAny (model X.prog X.w) (X.A.mark (some (.ref a))) (eval (.Name x np) X.env) Q E { s2 with heap := h3 } := fun {Q E} q => by
          obtain ⟨hg, hdbg, hm | ⟨hm, hv, hnn⟩⟩ := nm
          · exact ld_glob (X := X.suite a ((a, oe3) :: (X.pn ++ pins))) S3 hg hm q hdbg
          · exact ld_blt (X := X.suite a ((a, oe3) :: (X.pn ++ pins))) S3 hg hm hv q hnn hdbg
        refine asks (lm.here ?_)
        cases yes with
        | true =>
          cases i with
          | none =>
            cases n with
            | some n => exact nz.elim
            | none =>
              refine codeAny_handlers_suite ?_
              refine HandSPX.lands_againZ fl3 fun h4 fl4 up4 => ?_
              have J4 : Inv X pins σ2 H2 { s2 with heap := h4 } := J.landed nb fl4.1 ((up.trans up3).trans up4) os ag
              obtain ⟨oe4, vs4, he4, hz4, hd4⟩ := fl4.there
              have S4 := J4.suite he4 hd4 na nL nF
              refine wpAny_mono ((hsu a oe4 cls d (X.pn ++ pins) hz4 ⟨_, hd4⟩).run [] _ _ H2 _ S4 (hyes rfl a na)) (fun f s6 hsp => ?_) (fun _ _ z => False.elim z)
              cases f with
              | ret u =>
                obtain ⟨v6, σ6, H6, S6, r6, q6⟩ := hsp
                exact ⟨v6, σ6, H6, S6.unsuite okX, r6, q6⟩
              | next =>
                obtain ⟨σ6, H6, S6, q6⟩ := hsp
                exact ⟨σ6, H6, S6.unsuite okX, q6⟩
              | brk =>
                obtain ⟨σ6, H6, S6, q6⟩ := hsp
                exact ⟨σ6, H6, S6.unsuite okX, q6⟩
              | cont =>
                obtain ⟨σ6, H6, S6, q6⟩ := hsp
                exact ⟨σ6, H6, S6.unsuite okX, q6⟩
          | some i =>
            cases n with
            | none => exact nz.elim
            | some n =>
              obtain ⟨hi, hln⟩ := nz
              refine codeAny_handlers_suite_as ?_
              refine HandSPX.lands_againZ fl3 fun h4 fl4 up4 => ?_
              have J4 : Inv X pins σ2 H2 { s2 with heap := h4 } := J.landed nb fl4.1 ((up.trans up3).trans up4) os ag
              obtain ⟨oe4, vs4, he4, hz4, hd4⟩ := fl4.there
              have S4 := J4.suite he4 hd4 na nL nF
              refine store_ok (X := X.suite a ((a, oe4) :: (X.pn ++ pins))) (v := .ref a) S4 ndN hi (.inl hln) rfl (fun s5 S5 => ?_) (.inr hln)
              refine wpAny_mono ((hsu a oe4 cls d (X.pn ++ pins) hz4 ⟨_, hd4⟩).run [] s5 _ H2 _ S5 (hyes rfl a na)) (fun f s6 hsp => ?_) (fun _ _ z => False.elim z)
              have off : ∀ {σ6 : L2.St} {H6 : Hp} {Q : Shared → Prop}, Inv (X.suite a ((a, oe4) :: (X.pn ++ pins))) [] σ6 H6 s6 → (∀ s7, Inv X pins (σ6.set i none) H6 s7 → Q s7) →
                  wpAny (model X.prog X.w) X.A (do bindName X.env n .none; unbindBehindTheSuite X.env n p2) (fun _ s7 => Q s7) X.xe s6 := fun {σ6 H6 Q} S6 hq => gone_ok (S6.unsuite okX) ndN hi hln hq
              cases f with
              | ret u =>
                obtain ⟨v6, σ6, H6, S6, r6, q6⟩ := hsp
                exact off S6 fun s7 J7 => ⟨v6, σ6.set i none, H6, J7, r6, q6⟩
              | next =>
                obtain ⟨σ6, H6, S6, q6⟩ := hsp
                exact off S6 fun s7 J7 => ⟨σ6.set i none, H6, J7, q6⟩
              | brk =>
                obtain ⟨σ6, H6, S6, q6⟩ := hsp
                exact off S6 fun s7 J7 => ⟨σ6.set i none, H6, J7, q6⟩
              | cont =>
                obtain ⟨σ6, H6, S6, q6⟩ := hsp
                exact off S6 fun s7 J7 => ⟨σ6.set i none, H6, J7, q6⟩
        | false =>
          show wpAny _ X.A (handleBy (.ref a) X.env hds2) _ _ _
          exact ih (hno rfl)
    exact go hh w
  · cases f with
    | ret u =>
      obtain ⟨v6, σ6, H6, J6, r6, q6⟩ := hsp
      exact ⟨v6, σ6, H6, J6.ofTry okX, r6, q6⟩
    | next =>
      obtain ⟨σ6, H6, J6, q6⟩ := hsp
      exact wpAny_execs_nil ⟨σ6, H6, J6.ofTry okX, q6⟩
    | brk =>
      obtain ⟨σ6, H6, J6, q6⟩ := hsp
      exact ⟨σ6, H6, J6.ofTry okX, q6⟩
    | cont =>
      obtain ⟨σ6, H6, J6, q6⟩ := hsp
      exact ⟨σ6, H6, J6.ofTry okX, q6⟩
end
end Z

/-! Z23: chained comparisons; the check of expressions and what it gives. -/
namespace Z
open PySem L2 PySem.Spec PyProof.Rows
section
variable {g : G} {c : Cxt} {X : Cx} {W : WX} {cf : Nat → List D → CR}
theorem fin_world {σ : L2.St} {w : Wd} (o : Own g.K g.CA σ w) {d : D} {Q : VK} (q : ∀ w' v T, w'.env = w.env → Own g.K g.CA σ w' → Grow [] w w' → Rep g.K g.CA w'.F w'.H d v T → Q v w'.H) : Fin g.K g.CA w.F w.H d Q := by
  intro v F' H' T f1 f2 f3 f4 f5 r
  have kp : ∀ a, w.H a ≠ none → H' a = w.H a := fun a hn => by
    cases e : w.H a with
    | none => exact absurd e hn
    | some u => exact f3 a u e
  have o2 : Own g.K g.CA σ ⟨F', H', w.S, w.env⟩ := o.grow f1 f2 (fun a hn _ => kp a hn) fun a ha => (f4 a ha).imp id fun z i hs => (o.trk i a hs).1 z
  exact q ⟨F', H', w.S, w.env⟩ v T rfl o2 ⟨f1, fun a hn _ => kp a hn, fun _ _ => rfl, fun _ _ => rfl, rfl, fun _ _ z => .inl z, fun a ha => (f4 a ha).imp id .inr⟩ r
theorem chn_rd {op op2 : Pr} {a b c' : E} {m1 m2 m3 mu : List Nat} (hK : X.K = g.K) (s1 : ∀ i, i ∈ m1 → i ∈ mu) (s2 : ∀ i, i ∈ m2 → i ∈ mu) (s3 : ∀ i, i ∈ m3 → i ∈ mu) {σ : L2.St} {H : Hp} {Q : VK} (q : tE g W mu (evE cf (.chn op op2 a b c')) σ H Q) :
    tChain (fun x y => rs g op [x, y]) (fun x y => rs g op2 [x, y]) (tE g W m1 (evE cf a)) (tE g W m2 (evE cf b)) (tE g W m3 (evE cf c')) σ H Q := by
  obtain ⟨w, rfl, o, r⟩ := q
  refine ⟨w, rfl, o, ?_⟩
  rw [evE] at r
  refine (r.bind' (mu1 := m1) s1).mono (fun ia w1 ev1 o1 g1 q1 x Tx ix zx => ?_) fun _ z => z
  refine ⟨w1, rfl, o1, ?_⟩
  refine ((q1.bind' (mu1 := mu) fun _ z => z).grow g1 s1).mono (fun ib w2 ev2 o2 g2 q2 y Ty iy zy => ?_) s2
  split at q2
  case h_2 => exact q2.elim
  rename_i da db
  have ix2 := ix.step o1 g2 fun j aa as e1 hj => by cases e1
  have iy2 := iy
  cases hp : prS op [da, db] with
  | none => rw [hp] at q2; exact q2.elim
  | some d =>
    rw [hp] at q2
    refine ⟨w2.F, [da, db], d, o2.le, .cons ix2.1 (.cons iy2.1 .nil), hp, fin_world o2 fun w3 v T e3 o3 g3 r3 => ?_⟩
    have gg : Grow mu w w3 := ((g1.mono s1).trans (g2.mono s2)).trans (g3.mono nil_sub)
    have iy3 := iy2.step o2 g3 fun j aa as e1 hj => by cases e1
    cases d <;> try exact q2.elim
    rename_i k
    refine ⟨k, r3, ?_⟩
    cases k with
    | false =>
      rw [if_neg (by decide)]
      have q2 : Res g.K g.CA W σ mu w (.ok (.tmp (.bl false)) w2.env) (fun it w' => ∀ (v : V) (T : Ad), ItR g.K g.CA σ w' it v T → (∀ (a : Addr), T a → Zone mu w a) → Q v w'.H) := q2
      exact q2 w3 e3 o3 gg (.bl false) noAd ⟨rfl, Tmp.none⟩ fun _ z => z.elim
    | true =>
      rw [if_pos rfl]
      refine ⟨w3, rfl, o3, ?_⟩
      rw [e3]
      refine ((Res.bind' (mu1 := mu) q2 fun _ z => z).grow gg fun _ z => z).mono (fun ic w4 ev4 o4 g4 q4 z Tz iz zz => ?_) s3
      split at q4
      case h_2 => exact q4.elim
      rename_i dc
      have iy4 := iy3.step o3 g4 fun j aa as e1 hj => by cases e1
      cases hp2 : prS op2 [db, dc] with
      | none => rw [hp2] at q4; exact q4.elim
      | some d2 =>
        rw [hp2] at q4
        refine ⟨w4.F, [db, dc], d2, o4.le, .cons iy4.1 (.cons iz.1 .nil), hp2, fin_world o4 fun w5 v T e5 o5 g5 r5 => ?_⟩
        cases d2 <;> try exact q4.elim
        rename_i k2
        exact q4 w5 e5 o5 ((gg.trans (g4.mono s3)).trans (g5.mono nil_sub)) v noAd ⟨r5, Tmp.none⟩ fun _ z => z.elim
theorem cop_ok {op : Pr} {o : CmpOp} (hx : XOk g c X) (h : copOf op = some o) : OpR X (compareOp o) (fun x y => rs g op [x, y]) := by
  cases op <;> try (cases h; done)
  case eq => cases h; exact opR_eq hx
  case ne => cases h; exact opR_ne hx
  case lt => cases h; exact opR_lt hx
  case le => cases h; exact opR_le hx
  case gt => cases h; exact opR_gt hx
  case ge => cases h; exact opR_ge hx
theorem c_chn {op op2 : Pr} {o o2 : CmpOp} {a b c' : E} {x y z : Expr} {pos : Pos} {m1 m2 m3 mu : List Nat} (hx : XOk g c X) (h1 : copOf op = some o) (h2 : copOf op2 = some o2) (hm : lastMarks [o, o2] [y, z] = false) (ha : PE X x (tE g W m1 (evE cf a))) (hb : PE X y (tE g W m2 (evE cf b))) (hc : PE X z (tE g W m3 (evE cf c')))
    (s1 : ∀ i, i ∈ m1 → i ∈ mu) (s2 : ∀ i, i ∈ m2 → i ∈ mu) (s3 : ∀ i, i ∈ m3 → i ∈ mu) : PE X (.Compare x [o, o2] [y, z] pos) (tE g W mu (evE cf (.chn op op2 a b c'))) :=
  pe_is (pe_chain (cop_ok hx h1) (cop_ok hx h2) ha hb hc hm) fun σ H Q q => chn_rd hx.K s1 s2 s3 q
theorem t_chn {op op2 : Pr} {o o2 : CmpOp} {a b c' : E} {x y z : Expr} {pos : Pos} {m1 m2 m3 mu : List Nat} (hx : XOk g c X) (h1 : copOf op = some o) (h2 : copOf op2 = some o2) (hm : lastMarks [o, o2] [y, z] = false) (ha : PE X x (tE g W m1 (evE cf a))) (hb : PE X y (tE g W m2 (evE cf b))) (hc : PE X z (tE g W m3 (evE cf c')))
    (s1 : ∀ i, i ∈ m1 → i ∈ mu) (s2 : ∀ i, i ∈ m2 → i ∈ mu) (s3 : ∀ i, i ∈ m3 → i ∈ mu) : PT X (.Compare x [o, o2] [y, z] pos) (tTs g W mu (evT cf (.val (.chn op op2 a b c')))) :=
  t_val (pt_chain (cop_ok hx h1) (cop_ok hx h2) ha hb hc hm) fun σ H Q q => chn_rd hx.K s1 s2 s3 q
end
end Z

/-! Z23a: o[k] = e. -/
namespace Z
open PySem L2 PySem.Spec PyProof.Rows
section
variable {K : PySem.W.Frag} {CA : Cls}
theorem RepL.set : ∀ {ds : List D} {vs : List V} {F H : Hp} {T U : Ad} {j : Nat} {d : D} {v : V}, RepL K CA F H ds vs T → Rep K CA F H d v U → (∀ a, T a → U a → False) → j < ds.length → RepL K CA F H (ds.set j d) (vs.set j v) (fun a => T a ∨ U a)
  | [], _, _, _, _, _, j, _, _, _, _, _, hj => absurd hj (Nat.not_lt_zero j)
  | d0 :: ds, vs, F, H, T, U, 0, d, v, h, r, dj, _ => by
    obtain ⟨v0, vs0, T1, T2, rfl, h2, h3, h4, h5, h6⟩ := h
    exact ⟨v, vs0, U, T2, rfl, fun a z => .inr z, fun a z => .inl (h3 a z), fun a z1 z2 => dj a (h3 a z2) z1, r, h6⟩
  | d0 :: ds, vs, F, H, T, U, j + 1, d, v, h, r, dj, hj => by
    obtain ⟨v0, vs0, T1, T2, rfl, h2, h3, h4, h5, h6⟩ := h
    exact ⟨v0, vs0.set j v, T1, fun a => T2 a ∨ U a, rfl, fun a z => .inl (h2 a z), fun a z => z.imp (h3 a) id, fun a z1 z2 => z2.elim (h4 a z1) (dj a (h2 a z1)), h5, h6.set r (fun a z => dj a (h3 a z)) (Nat.lt_of_succ_lt_succ hj)⟩
end
section
variable {g : G} {c : Cxt} {X : Cx} {W : WX} {cf : Nat → List D → CR}
theorem stoS_ok {d kd x d' : D} (h : stoS d kd x = some d') : ∃ ds k j, d = .lst .own ds ∧ kd = .int k ∧ ixN ds.length k = some j ∧ d' = .lst .own (ds.set j x) := by
  unfold stoS at h
  split at h
  · obtain ⟨j, h1, h2⟩ := Option.map_eq_some_iff.mp h
    exact ⟨_, _, j, rfl, rfl, h1, h2.symm⟩
  · cases h
theorem s_stoI {mu m ms : List Nat} {p : P} {k e : E} {v o kx : Expr} {tpos pos : Pos} (hx : XOk g c X) (he : PE X v (tE g W m (evE cf e))) (ho : PE X o (tPg g W cf p)) (hk : PE X kx (tE g W [] (evE cf k))) (hs : isSlice kx = false) (hc : swapsWith v (some (.Subscript o kx tpos)) pos.line X.env = pure false)
    (s1 : ∀ j, j ∈ m → j ∈ mu) (s2 : rootP p ∈ mu) : PS X (.Assign [.Subscript o kx tpos] v pos) (tS g W mu ms (evS cf (.stoI p k e))) := by
  have ha : ∀ v, assign (.Subscript o kx tpos) X.env v = (do
      let ov ← holding [v] (eval o X.env)
      let iv ← holding [v, ov] (eval kx X.env)
      standAt tpos
      holding [v, ov, iv] (setItem ov iv v)
      release [v, ov, iv] []) := by intro v; cases kx <;> first | rfl | cases hs
  refine ps_is (ps_asg he (pg_sub ho hk set_list ha) hc rfl rfl) fun D σ H q => ?_
  obtain ⟨w, rfl, o0, r⟩ := q
  refine ⟨w, rfl, o0, ?_⟩
  rw [evS] at r
  refine (r.open (m := m) s1).mono (fun it w1 ev1 o1 g1 q1 x T i1 z1 => ?_) fun _ z => z
  refine ⟨w1, rfl, o1, ?_⟩
  refine ((q1.open (m := mu) fun _ z => z).grow g1 s1).mono (fun ia w2 ev2 o2 g2 q2 u i2 => ?_) nil_sub
  refine ⟨w2, rfl, o2, ?_⟩
  have g02 : Grow mu w w2 := (g1.mono s1).trans (g2.mono nil_sub)
  refine ((q2.open (m := mu) fun _ z => z).grow g02 fun _ z => z).mono (fun ik w3 ev3 o3 g3 q3 ki Tk i3 z3 => ?_) nil_sub
  split at q3
  case h_2 => exact q3.elim
  rename_i x0 kd
  cases e1 : (look w3.env (.ref (rootP p) ia)).bind fun d => stoS d kd x0 with
  | none => rw [e1] at q3; exact q3.elim
  | some d' =>
    rw [e1] at q3
    have q4 : ResS g W mu ms σ w (match setE w3.env (rootP p) ia d' with | some env' => .ok .nx env' | none => .stuck) (eQ g mu w D) := q3
    cases e2 : setE w3.env (rootP p) ia d' with
    | none => rw [e2] at q4; exact q4.elim
    | some env' =>
      rw [e2] at q4
      clear q3
      obtain ⟨d, h1, h2⟩ := Option.bind_eq_some_iff.mp e1
      obtain ⟨ds, kk, j, rfl, rfl, hj, rfl⟩ := stoS_ok h2
      have x3 := (i1.step o1 g2 fun j a as e => by cases e).step o2 g3 fun j a as e => by cases e
      have u3 := i2.step o2 g3 fun j a as e hj => by cases hj
      have g03 : Grow mu w w3 := g02.trans (g3.mono nil_sub)
      obtain ⟨a, vs, T1, rfl, k1, k2, k3, k4, k5, kk'⟩ := mt_put o3 g03 u3 h1 x3.2 (fun a ha => (z1 a ha).mono s1) (fun _ z => z) s2
      obtain ⟨w4, e3, e4, o4, g4, _, _⟩ := kk' (vs.set j x) (ds.set j x0) .non .non (fun a => T1 a ∨ T a) noAd env' (fun _ _ => True) e2 (fun _ z => z) (fun _ z => z.elim) (fun _ _ z => z) (k2.set x3.1 k5 (ixN_seq hj).2.1) rfl
      refine ⟨a, vs, kk, j, rfl, i3.1, k1, by rw [k2.length]; exact hj, ?_⟩
      rw [← e3]
      exact q4 σ w4 e4 o4 g4 Kp.refl
end
end Z

/-! Z23b: methods of objects; objects made. -/
namespace Z
open PySem L2 PySem.Spec PyProof.Rows
section
variable {g : G} {c : Cxt} {X : Cx} {W : WX} {cf : Nat → List D → CR} {k : Nat} {f : Addr} {fd : FuncData} {ps : List Str} {sp : Sp}
theorem meth_ev {env : PySem.Env} {o : Expr} {m : Str} {apos pos : Pos} {es : List Expr} (hbase : mtBase o = true) (hs : es.all noStar = true) (hl : es.length < 30) (hline : (apos.endLine == pos.line) = true) :
    eval (.Call (.Attribute o m apos) es [] pos) env = (do
      let ov ← eval o env
      standAt apos.atName
      let (f, first) ← holding [ov] (getMethod ov m (do return (← importBound o env).getD true))
      callWith pos f first (backTo pos (starEach es env)) (backToKw pos (keywordEach [] env))) := by
  have e1 : attributeBase o m env (eval o env) = eval o env := attrBase hbase
  have e2 : methodCallForm (es.length + ([] : List Keyword).length) (backTo pos (starEach es env)) (backToKw pos (keywordEach [] env)) = true := few_ok hs hl
  show (do
    let ov ← attributeBase o m env (eval o env)
    standAt apos.atName
    methodCall o m apos pos env ov (es.length + ([] : List Keyword).length) (backTo pos (starEach es env)) (backToKw pos (keywordEach [] env))) = _
  rw [e1]
  unfold methodCall calleeOf methodCallPos
  rw [e2, hline]
  rfl
/-- o.m(..), the callee's promise as ours is -/
theorem pe_methG {o : Expr} {m : Str} {apos pos : Pos} {es : List Expr} {ts : List TE} {ta : TE} {C : Addr} {E : L2.St → XK} (hx : XOk g c X) (F : FnG g k f fd ps sp) (hr : Room k X.A) (hb : Binds g.K fd ps []) (hC : L2.Cls g.K C) (hm : Meth g.K C m f) (hp : ∀ σ, PassesAt (L2.CX X.prog X.w) X σ (E σ))
    (he : PE X o ta) (ha : PEs X es ts) (hs : es.all noStar = true) (hbase : mtBase o = true) (hl : es.length < 30) (hline : (apos.endLine == pos.line) = true) :
    PE X (.Call (.Attribute o m apos) es [] pos) (fun σ H Q => ta σ H fun x H1 => ∃ a dx fs, x = .ref a ∧ H1 a = some (.ins C dx fs) ∧ fs.lookup m = none ∧ tArgs ts σ H1 fun vs H2 => sp (x :: vs) H2 Q (E σ)) := by
  refine ⟨fun pins s0 σ H Q inv want => ?_⟩
  rw [← hx.K] at hC hm
  have body : wpAny (model X.prog X.w) X.A (eval o X.env) (fun u s1 => ∃ a, u = Value.ref a ∧ ∃ dx fs H1, Inv X pins σ H1 s1 ∧ H1 a = some (.ins C dx fs) ∧ fs.lookup m = none ∧ tArgs ts σ H1 fun vs H2 => sp (.ref a :: vs) H2 Q (E σ)) X.xe s0 :=
    thn (he.run pins s0 σ H _ inv want) fun u s1 ⟨x, H1, inv1, rx, a, dx, fs, ex, ea, l, q⟩ => by
      subst ex
      exact ⟨a, rx, dx, fs, H1, inv1, ea, l, q⟩
  have go : ∀ u s1, (∃ a, u = Value.ref a ∧ ∃ dx fs H1, Inv X pins σ H1 s1 ∧ H1 a = some (.ins C dx fs) ∧ fs.lookup m = none ∧ tArgs ts σ H1 fun vs H2 => sp (.ref a :: vs) H2 Q (E σ)) →
      ∀ (pl : Sem Bool), wpAny (model X.prog X.w) X.A (getMethod u m pl) (fun fm s2 => wpAny (model X.prog X.w) X.A (callWith pos fm.1 fm.2 (backTo pos (starEach es X.env)) (backToKw pos (keywordEach [] X.env))) (EP X pins σ Q) X.xe s2) X.xe s1 := by
    rintro u s1 ⟨a, rfl, dx, fs, H1, inv1, ea, l, q⟩ pl
    refine getmeth_ok inv1 ea hC hm l ?_
    have run : ∀ {us : List Value} {vs : List V} {H2 : Hp} {s2 : Shared}, Inv X pins σ H2 s2 → Vals vs us → sp (.ref a :: vs) H2 Q (E σ) → wpAny (model X.prog X.w) X.A (call (.ref f) (.ref a :: us)) (EP X pins σ Q) X.xe s2 := fun {us vs H2 s2} inv2 r q2 =>
      run_fnG (vs := .ref a :: vs) (dvs := []) (ds := []) hx F hr hb .nil (hp σ) inv2 (.cons rfl r) (by rw [List.append_nil]; exact q2)
    cases es with
    | nil =>
      cases ha
      exact PySem.W.callWith_K0 (first := [.ref a]) inv1.kIn hm.kp (run inv1 .nil q)
    | cons e es =>
      have hs' := hs
      rw [List.all_cons, Bool.and_eq_true] at hs
      exact PySem.W.callWith_K (first := [.ref a]) (h₀ := X.base) inv1.ok.mod.kin hm.kp (thn ((pa_of ha hs').run pos pins s1 σ H1 _ inv1 q) fun us s2 ⟨vs, H2, inv2, r, q2⟩ => ⟨inv2.kIn, run inv2 r q2⟩) (star_cons hs.1) (star_any hs.2)
  exact PySem.W.methodCall_KW (thn body fun u s1 h => go u s1 h _) (meth_ev hbase hs hl hline)
theorem lookup_no {m : Str} : ∀ {ks : List Str} {vs : List V}, m ∉ ks → (ks.zip vs).lookup m = none
  | [], _, _ => rfl
  | _ :: _, [], _ => rfl
  | x :: ks, v :: vs, h => by
    rw [List.mem_cons, not_or] at h
    rw [List.zip_cons_cons, List.lookup_cons, beq_eq_false_iff_ne.mpr h.1]
    exact lookup_no h.2
theorem c_meth {ci fi : Nat} {m : Str} {r : E} {as : A} {o : Expr} {es : List Expr} {apos pos : Pos} {mr ma mu : List Nat} (hx : XOk g c X) (hh : c.hot = false) (hr : Room k X.A) (tk : Takes X W) (F : FOk g k cf fi) (hC : L2.Cls g.K (g.CA ci)) (hm : Meth g.K (g.CA ci) m (g.FA fi)) (hlen : lenA as + 1 = (g.PN fi).length)
    (ho : PE X o (tE g W mr (evE cf r))) (ha : ArgsRd g X W ma (evA cf as) es) (hs : es.all noStar = true) (hbase : mtBase o = true) (hl : es.length < 30) (hline : (apos.endLine == pos.line) = true)
    (hd : ∀ i, i ∈ deepE r → i ∉ ma) (s1 : ∀ i, i ∈ mr → i ∈ mu) (s2 : ∀ i, i ∈ ma → i ∈ mu) (s3 : ∀ i, i ∈ refE r → i ∈ mu) (s4 : ∀ i, i ∈ refA as → i ∈ mu) :
    PE X (.Call (.Attribute o m apos) es [] pos) (tE g W mu (evE cf (.meth ci fi m r as))) := by
  obtain ⟨ts, ps, kk⟩ := ha
  refine pe_is (pe_methG hx F.fn hr F.bd hC hm (passAt tk) ho ps hs hbase hl hline) fun σ H Q q => ?_
  obtain ⟨w, rfl, ow, rd⟩ := q
  refine ⟨w, rfl, ow, ?_⟩
  rw [evE] at rd
  refine (rd.bind' (mu1 := mr) s1).mono (fun it w1 ev o1 g1 q1 v T i z => ?_) fun _ z => z
  split at q1
  · exact q1.elim
  rename_i hi
  cases hlook : look w1.env it with
  | none => rw [hlook] at hi; exact absurd rfl hi
  | some d =>
    rw [hlook] at hi
    cases d <;> try (exact absurd rfl hi)
    rename_i fl c' ks ds
    have hi : ¬ (decide (c' = ci) && !ks.contains m) = false := hi
    rw [Bool.not_eq_false, Bool.and_eq_true] at hi
    obtain ⟨hc, hk⟩ := hi
    have hc := of_decide_eq_true hc
    subst hc
    obtain ⟨T', rep⟩ := i.rep o1 hlook
    have inst : ∃ a dx vs, v = .ref a ∧ w1.H a = some (.ins (g.CA c') dx (ks.zip vs)) ∧ ks.length = vs.length := by
      cases fl with
      | own =>
        obtain ⟨a, dx, vs, T2, e1, e2, _, _, _, _, _, _, e9, e10⟩ := rep
        exact ⟨a, dx, vs, e1, e2, by rw [e9.length, e10]⟩
      | frz =>
        obtain ⟨a, dx, vs, e1, e2, e3, e4⟩ := rep
        exact ⟨a, dx, vs, e1, o1.le _ _ e2, by rw [e3.length, e4]⟩
      | scr =>
        obtain ⟨a, dx, vs, e1, e2, e3, e4⟩ := rep
        exact ⟨a, dx, vs, e1, o1.le _ _ e2, by rw [e3.length, e4]⟩
    obtain ⟨a, dx, vs, e1, e2, e3⟩ := inst
    refine ⟨a, dx, ks.zip vs, e1, e2, lookup_no (by simpa using hk), ?_⟩
    rw [tArgs_tCh (r := fun vs H2 Q => spF g.K g.CA cf fi (g.PN fi).length (v :: vs) H2 Q (WE W σ))]
    refine kk σ _ Q w1 o1 (((q1.bind' (mu1 := mu) fun _ z => z).grow g1 s1).mono (fun its w2 ev2 o2 g2 q2 us Ts is zs => ?_) s2)
    have i2 := i.step o1 g2 fun j a as e1 hj => by
      subst e1
      exact hd j ((evE_ref ev).2 (fun z => by cases z)) hj
    have dj : ∀ T2, T2 ∈ Ts → ∀ a, T a → T2 a → False := fun T2 h2 a ha h2a => i.tmpOk.notZone ha (zs T2 h2 a h2a)
    have all : ItsR g.K g.CA σ w2 (it :: its) (v :: us) (T :: Ts) := .cons i2 dj is
    have gr : Grow mu w w2 := (g1.mono s1).trans (g2.mono s2)
    have := call_rd (hx.cold hh) (m0 := mu) (W := W) (cf := cf) (fi := fi) o2 gr all (fun T2 h2 a ha => by
      rcases List.mem_cons.mp h2 with rfl | h2
      · exact (z a ha).mono s1
      · exact (g1.mono s1).zone ((zs T2 h2 a ha).mono s2)) q2 (fun _ z => z) (fun j hj => by
      cases it with
      | tmp d => exact s4 j (evA_roots ev2 j hj)
      | ref p as =>
        rcases List.mem_cons.mp hj with rfl | hj
        · exact s3 _ (evE_ref ev).1
        · exact s4 j (evA_roots ev2 j hj))
    rw [List.length_cons, evA_len ev2, hlen] at this
    exact this
end
end Z

/-! Z23c: objects are made. -/
namespace Z
open PySem L2 PySem.Spec PyProof.Rows
theorem make_guards {A : Around} {C : Addr} {us : List Value} {kw : List (Str × Value)} (h : A.guards = some []) : (A.under (.builtin "type.__call__" ⟨.ref C :: us, kw⟩)).guards = some [] := by
  first
    | exact h
    | (simp [Around.under, Code.isGuard, guardIds, h]; done)
section
variable {g : G} {c : Cxt} {X : Cx} {W : WX} {cf : Nat → List D → CR} {k : Nat} {f : Addr} {fd : FuncData} {ps : List Str} {sp : Sp}
/-- a new object and its dict, then its __init__ -/
theorem run_makeG {C : Addr} {pins : List (Addr × Obj)} {σ : L2.St} {H : Hp} {s : Shared} {Q : VK} {us : List Value} {vs : List V} {E : L2.St → XK} (hx : XOk g c X) (M : Mk g.K C f) (F : FnG g k f fd ps sp) (room : Room (k + 1) X.A) (bn : Binds g.K fd ps []) (pass : PassesAt (L2.CX X.prog X.w) X σ (E σ))
    (inv : Inv X pins σ H s) (vals : Vals vs us)
    (want : ∀ x dx, H x = none → H dx = none → dx ≠ x → sp (.ref x :: vs) (upd (upd H dx (.own x)) x (.ins C dx [])) (fun v H2 => v = .non ∧ Q (.ref x) H2) (E σ)) :
    wpAny (model X.prog X.w) X.A (call (.ref C) us) (EP X pins σ Q) X.xe s := by
  have made := Inv.made (C := C) inv
  have want1 := want (s.heap.objs.size + 1) s.heap.objs.size (inv.hok.fresh (Nat.le_succ _)) (inv.hok.fresh (Nat.le_refl _)) (Nat.ne_of_lt (Nat.lt_succ_self _))
  have vals1 : Vals (V.ref (s.heap.objs.size + 1) :: vs) (Value.ref (s.heap.objs.size + 1) :: us) := .cons rfl vals
  have many : ((Value.ref (s.heap.objs.size + 1) :: us) ++ []).length = ps.length := by
    rw [List.append_nil, ← vals1.length]
    exact F.len _ _ _ _ want1
  have e0 := (made.env0).make C us []
  have kin := made.kIn
  rw [hx.K] at e0 kin
  rw [hx.mg, hx.base, hx.P, hx.w] at e0
  have bound := bn _ (Value.ref (s.heap.objs.size + 1) :: us) kin many
  rw [List.append_nil] at bound
  have run := F.run _ X.stack _ _ ⟨Value.ref (s.heap.objs.size + 1) :: us, []⟩ (Value.ref (s.heap.objs.size + 1) :: us) _ _ (E σ) (room.make C us []) (make_guards hx.gd) e0 bound vals1 want1
  rw [← hx.P, ← hx.w] at run
  refine wpAny_call (make_map (f := f) inv.kIn (by rw [hx.K]; exact M.makes) (by rw [hx.K]; exact M.init) (by rw [hx.K]; exact beq_iff_eq.mp M.fn) (codeAny_mono run fun r s' hq => ?_))
  cases r with
  | error e => exact pass pins _ _ e s' made hq
  | ok fl =>
    cases fl with
    | ret u =>
      obtain ⟨v, H', inv3, rv, ev, q3⟩ := made.after hq
      subst ev
      exact ⟨rv, V.ref (s.heap.objs.size + 1), H', inv3, rfl, q3⟩
    | next => exact hq.elim
    | brk => exact hq.elim
    | cont => exact hq.elim
/-- C(..) -/
theorem pe_makeG {x : Str} {p pos : Pos} {es : List Expr} {ts : List TE} {C : Addr} {E : L2.St → XK} (hx : XOk g c X) (M : Mk g.K C f) (F : FnG g k f fd ps sp) (room : Room (k + 1) X.A) (hg : Gl X x) (hm : g.mg x = some (.ref C)) (bn : Binds g.K fd ps []) (pass : ∀ σ, PassesAt (L2.CX X.prog X.w) X σ (E σ)) (hdb : (x == ("__debug__" : Str)) = false)
    (ha : PEs X es ts) (hs : es.all noStar = true) :
    PE X (.Call (.Name x p) es [] pos) (fun σ H Q => tArgs ts σ H fun vs H1 => ∀ x dx, H1 x = none → H1 dx = none → dx ≠ x → sp (.ref x :: vs) (upd (upd H1 dx (.own x)) x (.ins C dx [])) (fun v H2 => v = .non ∧ Q (.ref x) H2) (E σ)) := by
  refine ⟨fun pins s σ H Q inv want => ?_⟩
  refine wpAny_Call_Name_kw (ld_glob inv hg (by rw [hx.mg]; exact hm) ?_ hdb)
  cases es with
  | nil =>
    cases ha
    exact PySem.W.callWith_K0 inv.kIn (by rw [hx.K]; exact M.kp) (run_makeG (us := []) hx M F room bn (pass σ) inv .nil want)
  | cons e es =>
    have hs' := hs
    rw [List.all_cons, Bool.and_eq_true] at hs
    exact PySem.W.callWith_K (h₀ := X.base) inv.ok.mod.kin (by rw [hx.K]; exact M.kp) (thn ((pa_of ha hs').run pos pins s σ H _ inv want) fun us s1 ⟨vs, H1, inv1, r, q⟩ => ⟨inv1.kIn, run_makeG hx M F room bn (pass σ) inv1 r q⟩) (star_cons hs.1) (star_any hs.2)
theorem ItsR.step {σ : L2.St} {w w' : Wd} (o : Own g.K g.CA σ w) (gr : Grow [] w w') : ∀ {its : List Itm} {vs : List V} {Ts : List Ad}, ItsR g.K g.CA σ w its vs Ts → ItsR g.K g.CA σ w' its vs Ts
  | _, _, _, .nil => .nil
  | _, _, _, .cons h d r => .cons (h.step o gr fun _ _ _ _ z => by cases z) d (ItsR.step o gr r)
theorem new_rd {σ : L2.St} {Q : VK} {w0 w1 : Wd} {mu : List Nat} {its : List Itm} {vs : List V} {Ts : List Ad} {ci fi : Nat} (h0 : g.CA.ex = none) (o1 : Own g.K g.CA σ w1) (g1 : Grow mu w0 w1) (is : ItsR g.K g.CA σ w1 its vs Ts) (zs : ∀ T, T ∈ Ts → ∀ a, T a → Zone mu w0 a)
    (q : Res g.K g.CA W σ mu w0 (doNew cf ci fi its w1.env) fun it w' => ∀ v T, ItR g.K g.CA σ w' it v T → (∀ a, T a → Zone mu w0 a) → Q v w'.H) (s1 : ∀ i, i ∈ roots its → i ∈ mu) (a dx : Addr) (fa : w1.H a = none) (fd : w1.H dx = none) (ne : dx ≠ a) :
    spF g.K g.CA cf fi (its.length + 1) (.ref a :: vs) (upd (upd w1.H dx (.own a)) a (.ins (g.CA ci) dx [])) (fun v H2 => v = .non ∧ Q (.ref a) H2) (WE W σ) := by
  unfold doNew at q
  split at q
  case isFalse => exact q.elim
  rename_i hn
  split at q
  case h_1 => exact q.elim
  rename_i ds hl
  have hFa := le_none o1.le fa
  have hFd := le_none o1.le fd
  let H2 : Hp := upd (upd w1.H dx (.own a)) a (.ins (g.CA ci) dx [])
  have kp : ∀ b, w1.H b ≠ none → H2 b = w1.H b := fun b hb => (upd_ne fun e => hb ((congrArg w1.H e).trans fa)).trans (upd_ne fun e => hb ((congrArg w1.H e).trans fd))
  have le2 : Le w1.F H2 := fun b o e => by
    have hb := o1.le b o e
    show H2 b = some o
    rw [kp b (by rw [hb]; exact fun z => nomatch z)]
    exact hb
  let w2 : Wd := ⟨w1.F, H2, w1.S, w1.env⟩
  have o2 : Own g.K g.CA σ w2 := o1.grow (Le.refl _) le2 (fun b hb _ => kp b hb) fun _ z => .inl z
  have g2 : Grow [] w1 w2 := ⟨Le.refl _, fun b hb _ => kp b hb, fun _ _ => rfl, fun _ _ => rfl, rfl, fun _ _ z => .inl z, fun _ z => .inl z⟩
  let T : Ad := fun b => b = a ∨ b = dx
  have ha : H2 a = some (.ins (g.CA ci) dx []) := upd_same
  have hdx : H2 dx = some (.own a) := (upd_ne ne).trans upd_same
  have fresh : ∀ b, T b → w1.H b = none := fun b hb => by rcases hb with rfl | rfl <;> assumption
  have new : ItR g.K g.CA σ w2 (.tmp (.ins .own ci [] [])) (.ref a) T := by
    refine ⟨⟨a, dx, [], noAd, rfl, ha, hdx, .inl rfl, .inr rfl, fun z => z, fun z => z, fun _ z => z.elim, rfl, rfl⟩, fun b hb => ⟨?_, ?_, fun i hi => (o1.trk i b hi).1 (fresh b hb)⟩⟩
    · rcases hb with rfl | rfl
      · show H2 _ ≠ none
        rw [ha]; exact fun z => nomatch z
      · show H2 _ ≠ none
        rw [hdx]; exact fun z => nomatch z
    · exact le_none o1.le (fresh b hb)
  have old : ∀ {its : List Itm} {vs : List V} {Ts : List Ad}, ItsR g.K g.CA σ w1 its vs Ts → ∀ T2, T2 ∈ Ts → ∀ b, T2 b → w1.H b ≠ none := fun {its vs Ts} h => by
    induction h with
    | nil => exact fun _ z => absurd z List.not_mem_nil
    | cons h _ _ ih =>
      intro T2 h2 b hb
      rcases List.mem_cons.mp h2 with rfl | h2
      · exact (h.tmpOk b hb).1
      · exact ih T2 h2 b hb
  have all : ItsR g.K g.CA σ w2 (.tmp (.ins .own ci [] []) :: its) (.ref a :: vs) (T :: Ts) := .cons new (fun T2 h2 b h3 h4 => old is T2 h2 b h4 (fresh b h3)) (is.step o1 g2)
  have gr : Grow mu w0 w2 := g1.trans (g2.mono nil_sub)
  have zs2 : ∀ T2, T2 ∈ T :: Ts → ∀ b, T2 b → Zone mu w0 b := fun T2 h2 b hb => by
    rcases List.mem_cons.mp h2 with rfl | h2
    · exact g1.zone (.inr (fresh b hb))
    · exact zs T2 h2 b hb
  have hl2 : looks w2.env (.tmp (.ins .own ci [] []) :: its) = some (.ins .own ci [] [] :: ds) := by
    show ((looks w1.env its).bind fun ds => some (D.ins .own ci [] [] :: ds)) = _
    rw [hl]
    rfl
  obtain ⟨Cs, k, kz⟩ := Cal.of o2 all hl2 hn
  have hlen := is.length
  refine ⟨.ins .own ci [] [] :: ds, calW w2 (.ins .own ci [] [] :: ds) Cs, rfl, rfl, k.own h0 o2, by rw [List.length_cons, hlen], ?_⟩
  split at q
  · exact q.elim
  · rename_i d o outs hc
    rw [hc]
    intro w' v Tv e' o' gw r t z
    split at q
    case h_2 => exact q.elim
    rename_i env' hw
    split at q
    case isFalse => exact q.elim
    rename_i hno
    have hnon : v = .non := by
      cases d <;> first | exact r | cases hno
    refine ⟨hnon, ?_⟩
    obtain ⟨o3, g3, _, h4⟩ := call_back (mu := mu) o2 gr k kz zs2 hn rfl e' o' gw (show writeBack w2.env (.tmp (.ins .own ci [] []) :: its) (o :: outs) = some env' from hw) (fun _ z => z) s1
    obtain ⟨t4, z4⟩ := h4 0 _ rfl
    obtain ⟨v0, k1, k2⟩ := o'.rep 0 o (by rw [e']; rfl)
    cases k1
    exact q ⟨w'.F, w'.H, backS w2 (.tmp (.ins .own ci [] []) :: its) (.ins .own ci [] [] :: ds) Cs w'.S, env'⟩ rfl o3 g3 (.ref a) (w'.S 0) ⟨k2, t4⟩ z4
  · exact q.elim
  · rename_i cx ks fs o outs hc
    rw [hc]
    intro w' ddx e' o' gw ex
    split at q
    case h_2 => exact q.elim
    rename_i env' hw
    obtain ⟨o3, g3, ht, _⟩ := call_back (mu := mu) o2 gr k kz zs2 hn rfl e' o' gw (show writeBack w2.env (.tmp (.ins .own ci [] []) :: its) (o :: outs) = some env' from hw) (fun _ z => z) s1
    refine q ⟨w'.F, w'.H, backS w2 (.tmp (.ins .own ci [] []) :: its) (.ins .own ci [] [] :: ds) Cs w'.S, env'⟩ ddx rfl o3 g3 ?_
    rcases ex with ex | ⟨b, us, h1, h2, h3, h4, h5, h6⟩
    · exact .inl ex
    · obtain ⟨t2, z2⟩ := ht _ h5 fun b' hb => by cases hb; exact h6
      exact .inr ⟨b, us, h1, h2, h3, h4, t2, z2 b rfl⟩
  · exact q.elim
theorem c_new {ci fi : Nat} {as : A} {x : Str} {p pos : Pos} {es : List Expr} {m mu : List Nat} (hx : XOk g c X) (hh : c.hot = false) (room : Room (k + 1) X.A) (tk : Takes X W) (F : FOk g k cf fi) (M : Mk g.K (g.CA ci) (g.FA fi)) (hg : glB c x = true) (hm : g.mg x = some (.ref (g.CA ci))) (hd : (x == ("__debug__" : Str)) = false) (hl : lenA as + 1 = (g.PN fi).length)
    (ha : ArgsRd g X W m (evA cf as) es) (hs : es.all noStar = true) (s0 : ∀ i, i ∈ m → i ∈ mu) (s1 : ∀ i, i ∈ refA as → i ∈ mu) : PE X (.Call (.Name x p) es [] pos) (tE g W mu (evE cf (.new ci fi as))) := by
  obtain ⟨ts, ps, kk⟩ := ha
  refine pe_is (pe_makeG hx M F.fn room (hx.gl hg) hm F.bd (passAt tk) hd ps hs) fun σ H Q q => ?_
  obtain ⟨w, rfl, o, r⟩ := q
  rw [tArgs_tCh (r := fun vs H1 Q => ∀ x dx, H1 x = none → H1 dx = none → dx ≠ x → spF g.K g.CA cf fi (g.PN fi).length (.ref x :: vs) (upd (upd H1 dx (.own x)) x (.ins (g.CA ci) dx [])) (fun v H2 => v = .non ∧ Q (.ref x) H2) (WE W σ))]
  refine kk σ _ Q w o ?_
  rw [evE] at r
  refine (r.bind' (mu1 := m) s0).mono (fun its w1 ev o1 g1 q1 vs Ts is zs a dx fa fd ne => ?_) fun _ z => z
  have e := new_rd (hx.cold hh) (W := W) (cf := cf) (ci := ci) (fi := fi) o1 (g1.mono s0) is (fun T hT a ha => (zs T hT a ha).mono s0) q1 (fun i hi => s1 i (evA_roots ev i hi)) a dx fa fd ne
  rw [evA_len ev, hl] at e
  exact e
end
end Z

/-! Z23d: fields are stored to; o[k] op= e, o.f op= e. -/
namespace Z
open PySem L2 PySem.Spec PyProof.Rows
theorem fdIx_lt {f : Str} : ∀ {ks : List Str} {j : Nat}, fdIx ks f = some j → j < ks.length
  | [], _, h => by cases h
  | x :: ks, j, h => by
    rw [fdIx] at h
    split at h
    · cases h; exact Nat.succ_pos _
    · obtain ⟨i, h1, rfl⟩ := Option.map_eq_some_iff.mp h
      exact Nat.succ_lt_succ (fdIx_lt h1)
theorem putF_some {f : Str} {y : V} : ∀ {ks : List Str} {vs : List V} {j : Nat}, fdIx ks f = some j → ks.length = vs.length → putF f y (ks.zip vs) = ks.zip (vs.set j y)
  | [], _, _, h, _ => by cases h
  | x :: ks, [], _, _, hl => by cases hl
  | x :: ks, v :: vs, j, h, hl => by
    rw [fdIx] at h
    rw [List.zip_cons_cons, putF]
    split at h
    · rename_i e
      cases h
      rw [if_pos (eq_of_beq e).symm]
      rfl
    · rename_i e
      obtain ⟨i, h1, rfl⟩ := Option.map_eq_some_iff.mp h
      rw [if_neg fun z => e (beq_iff_eq.mpr z.symm), putF_some h1 (Nat.succ.inj hl)]
      rfl
theorem putF_none {f : Str} {y : V} : ∀ {ks : List Str} {vs : List V}, fdIx ks f = none → ks.length = vs.length → putF f y (ks.zip vs) = (ks ++ [f]).zip (vs ++ [y])
  | [], [], _, _ => rfl
  | [], _ :: _, _, hl => by cases hl
  | x :: ks, [], _, hl => by cases hl
  | x :: ks, v :: vs, h, hl => by
    rw [fdIx] at h
    rw [List.zip_cons_cons, putF]
    split at h
    · cases h
    · rename_i e
      rw [if_neg fun z => e (beq_iff_eq.mpr z.symm), putF_none (Option.map_eq_none_iff.mp h) (Nat.succ.inj hl)]
      rfl
section
variable {g : G} {c : Cxt} {X : Cx} {W : WX} {cf : Nat → List D → CR}
/-- an object's new contents come to their place -/
theorem in_put {σ : L2.St} {w0 w : Wd} {m0 mu : List Nat} (o : Own g.K g.CA σ w) (gr : Grow m0 w0 w) {i : Nat} {as : List Acc} {v : V} {T0 : Ad} {ci : Nat} {ks : List Str} {ds : List D} {Us : Ad} (it : ItR g.K g.CA σ w (.ref i as) v T0) (hl : look w.env (.ref i as) = some (.ins .own ci ks ds))
    (tU : Tmp w Us) (zU : ∀ a, Us a → Zone m0 w0 a) (s0 : ∀ j, j ∈ m0 → j ∈ mu) (hi : i ∈ mu) :
    ∃ a dx vs T1, v = .ref a ∧ w.H a = some (.ins (g.CA ci) dx (ks.zip vs)) ∧ RepL g.K g.CA w.F w.H ds vs T1 ∧ ks.length = ds.length ∧ (∀ b, T1 b → Us b → False) ∧
      ∀ (ks' : List Str) (vs' : List V) (ds' : List D) (T2 : Ad) (env' : Env), setE w.env i as (.ins .own ci ks' ds') = some env' → (∀ b, T2 b → T1 b ∨ Us b) → RepL g.K g.CA w.F w.H ds' vs' T2 → ks'.length = ds'.length →
        ∃ w', w'.H = upd w.H a (.ins (g.CA ci) dx (ks'.zip vs')) ∧ w'.env = env' ∧ Own g.K g.CA σ w' ∧ Grow mu w0 w' := by
  obtain ⟨x, u, T', h1, h2, h3⟩ := it.plc o hl
  obtain ⟨a, dx, vs, T1, rfl, e2, e3, ea, ed, na, nd, e5, e6, e7⟩ := h3.rep
  have hS : ∀ b, T' b → w.S i b := h3.sub
  have nU : ∀ b, T' b → Us b → False := fun b h hb => (tU b hb).2.2 i (hS b h)
  refine ⟨a, dx, vs, T1, rfl, e2, e6, e7, fun b h hb => nU b (e5 b h) hb, fun ks' vs' ds' T2 env' hs q1 q4 q5 => ?_⟩
  have adx : dx ≠ a := fun e => by rw [e, e2] at e3; cases e3
  have cell : ∀ b, T1 b ∨ Us b → b ≠ a ∧ b ≠ dx ∧ w.H b ≠ none ∧ w.F b = none := fun b hb => by
    rcases hb with hb | hb
    · exact ⟨fun e => na (e ▸ hb), fun e => nd (e ▸ hb), (o.trk i b (hS b (e5 b hb))).1, (o.trk i b (hS b (e5 b hb))).2⟩
    · exact ⟨fun e => nU a ea (e ▸ hb), fun e => nU dx ed (e ▸ hb), (tU b hb).1, (tU b hb).2.1⟩
  have keep : ∀ b, w.H b ≠ none → ¬ T' b → upd w.H a (.ins (g.CA ci) dx (ks'.zip vs')) b = w.H b := fun b _ hb => upd_ne fun e => hb (e ▸ ea)
  have rp : Rep g.K g.CA w.F (upd w.H a (.ins (g.CA ci) dx (ks'.zip vs'))) (.ins .own ci ks' ds') (.ref a) (fun b => (b = a ∨ b = dx) ∨ T2 b) :=
    ⟨a, dx, vs', T2, rfl, upd_same, (upd_ne adx).trans e3, .inl (.inl rfl), .inl (.inr rfl), fun z => (cell a (q1 a z)).1 rfl, fun z => (cell dx (q1 dx z)).2.1 rfl, fun b z => .inr z, q4.up (Le.refl _) (fun b hb => upd_ne (cell b (q1 b hb)).1) fun _ z => z, q5⟩
  have o2 := o.put h1 h2 h3 (F' := w.F) (H' := upd w.H a (.ins (g.CA ci) dx (ks'.zip vs'))) (T2 := fun b => (b = a ∨ b = dx) ∨ T2 b) hs (Le.refl _) (le_upd o.le (o.trk i a (hS a ea)).2) keep (fun b hb => by
    rcases hb with (rfl | rfl) | hb
    · exact ⟨.inl ea, by rw [upd_same]; exact (fun z => nomatch z), (o.trk i b (hS b ea)).2⟩
    · exact ⟨.inl ed, by rw [upd_ne adx, e3]; exact (fun z => nomatch z), (o.trk i b (hS b ed)).2⟩
    · refine ⟨(q1 b hb).imp (e5 b) fun z => (tU b z).2.2, ?_, (cell b (q1 b hb)).2.2.2⟩
      rw [upd_ne (cell b (q1 b hb)).1]
      exact (cell b (q1 b hb)).2.2.1) (fun _ z => .inl z) rp
  have g2 := gr.put (mu := mu) (F' := w.F) (H' := upd w.H a (.ins (g.CA ci) dx (ks'.zip vs'))) (T2 := fun b => (b = a ∨ b = dx) ∨ T2 b) hs s0 hi h3.sub (Le.refl _) keep (fun b hb => by
    rcases hb with (rfl | rfl) | hb
    · exact .inl ea
    · exact .inl ed
    · exact (q1 b hb).imp (e5 b) fun z => (zU b z).mono s0) (fun _ z => .inl z)
  exact ⟨_, rfl, rfl, o2, g2⟩
theorem s_stoF {mu m ms : List Nat} {p : P} {ci : Nat} {f : Str} {e : E} {v o : Expr} {fpos pos : Pos} (hx : XOk g c X) (he : PE X v (tE g W m (evE cf e))) (ho : PE X o (tPg g W cf p)) (hC : L2.Cls g.K (g.CA ci)) (hn : NoAttr g.K (g.CA ci) f) (hc : swapsWith v (some (.Attribute o f fpos)) pos.line X.env = pure false)
    (s1 : ∀ j, j ∈ m → j ∈ mu) (s2 : rootP p ∈ mu) : PS X (.Assign [.Attribute o f fpos] v pos) (tS g W mu ms (evS cf (.stoF p ci f e))) := by
  refine ps_is (ps_fld ho he hc) fun D σ H q => ?_
  obtain ⟨w, rfl, o0, r⟩ := q
  refine ⟨w, rfl, o0, ?_⟩
  rw [evS] at r
  refine (r.open (m := m) s1).mono (fun it w1 ev1 o1 g1 q1 x T i1 z1 => ?_) fun _ z => z
  refine ⟨w1, rfl, o1, ?_⟩
  refine ((q1.open (m := mu) fun _ z => z).grow g1 s1).mono (fun ia w2 ev2 o2 g2 q2 u i2 => ?_) nil_sub
  split at q2
  case h_2 => exact q2.elim
  rename_i x0
  cases e1 : (look w2.env (.ref (rootP p) ia)).bind fun d => putF' ci d f x0 with
  | none => rw [e1] at q2; exact q2.elim
  | some d' =>
    rw [e1] at q2
    have q4 : ResS g W mu ms σ w (match setE w2.env (rootP p) ia d' with | some env' => .ok .nx env' | none => .stuck) (eQ g mu w D) := q2
    clear q2
    cases e2 : setE w2.env (rootP p) ia d' with
    | none => rw [e2] at q4; exact q4.elim
    | some env' =>
      rw [e2] at q4
      obtain ⟨d, h1, h2⟩ := Option.bind_eq_some_iff.mp e1
      have x2 := i1.step o1 g2 fun j a as e => by cases e
      have g02 : Grow mu w w2 := (g1.mono s1).trans (g2.mono nil_sub)
      unfold putF' at h2
      split at h2
      case h_2 => cases h2
      rename_i c' ks ds
      split at h2
      · cases h2
      · rename_i hcc
        have hc1 : c' = ci := Classical.byContradiction fun h => hcc (.inl h)
        have hc2 : ks.length < 1000 := Classical.byContradiction fun h => hcc (.inr h)
        subst hc1
        obtain ⟨a, dx, vs, T1, rfl, k1, k2, k3, k5, kk⟩ := in_put o2 g02 i2 h1 x2.2 (fun a ha => (z1 a ha).mono s1) (fun _ z => z) s2
        have kv : ks.length = vs.length := by rw [k2.length, k3]
        have fin : ∀ ks' vs' ds' T2, d' = .ins .own c' ks' ds' → (∀ b, T2 b → T1 b ∨ T b) → RepL g.K g.CA w2.F w2.H ds' vs' T2 → ks'.length = ds'.length → putF f x (ks.zip vs) = ks'.zip vs' → D.nx σ (upd w2.H a (.ins (g.CA c') dx (putF f x (ks.zip vs)))) := fun ks' vs' ds' T2 hd q1 q2 q3 q5 => by
          subst hd
          obtain ⟨w3, e3, e4, o3, g3⟩ := kk ks' vs' ds' T2 env' e2 q1 q2 q3
          rw [q5, ← e3]
          exact q4 σ w3 e4 o3 g3 Kp.refl
        refine ⟨a, g.CA c', dx, ks.zip vs, rfl, k1, by rw [hx.K]; exact hC, by rw [hx.K]; exact hn, by rw [List.length_zip, ← kv, Nat.min_self]; exact hc2, ?_⟩
        split at h2
        · rename_i j hj
          have hjl : j < ds.length := k3 ▸ fdIx_lt hj
          exact fin ks (vs.set j x) (ds.set j x0) (fun a => T1 a ∨ T a) (Option.some.inj h2).symm (fun _ z => z) (k2.set x2.1 k5 hjl) (by rw [List.length_set]; exact k3) (putF_some hj kv)
        · rename_i hj
          exact fin (ks ++ [f]) (vs ++ [x]) (ds ++ [x0]) (fun a => T1 a ∨ T a) (Option.some.inj h2).symm (fun _ z => z)
            (k2.appendT (show RepL g.K g.CA w2.F w2.H [x0] [x] T from ⟨x, [], T, noAd, rfl, fun _ z => z, fun _ z => z.elim, fun _ _ z => z, x2.1, rfl⟩) k5) (by rw [List.length_append, List.length_append, k3]; rfl) (putF_none hj kv)
end
end Z

/-! Z23e: o[k] op= e, o.f op= e. -/
namespace Z
open PySem L2 PySem.Spec PyProof.Rows
section
variable {g : G} {c : Cxt} {X : Cx} {W : WX} {cf : Nat → List D → CR}
theorem get_lst : PGet X (rIxL X.K) := by
  intro pins s σ H o i ov iv Q inv ro ri want
  obtain ⟨p, xs, n, z, rfl, rfl, hq, he, q⟩ := want
  cases ro
  obtain ⟨t, rfl⟩ := ri
  obtain ⟨its, r, pl, hz⟩ := inv.list hq
  obtain ⟨j, a1, a2, a3, a4, a5⟩ := atI_get he
  obtain ⟨u, eu, ru⟩ := r.get a2
  have len := r.length
  have big := line63
  have done : EP X pins σ Q u s := ⟨z, H, inv, ru, q⟩
  by_cases h0 : 0 ≤ n
  · have hj : n.toNat = j := by
      rw [seqIndex_of h0 a5] at a1
      exact Option.some.inj a1
    exact wpAny_getItem_list pl.isList h0 (by omega) (by rw [hj]; simpa using eu) done
  · have hj : (n + (its.toArray.size : Int)).toNat = j := by
      rw [seqIndex_neg (by omega) a4] at a1
      rw [List.size_toArray, ← len]
      exact Option.some.inj a1
    exact wpAny_getItem_list_neg pl.isList (by omega) (by rw [List.size_toArray] <;> omega) (by omega) (by rw [hj]; simpa using eu) done
def augF2 : Pr → Int → Int → Int
  | .sub => fun i j => i - j
  | _ => fun i j => i + j
theorem aug_val {op : Pr} {o : Operator} {d0 d1 d : D} (ho : augO op = some o) (h : augS op d0 d1 = some d) : ∃ i j, d0 = .int i ∧ d1 = .int j ∧ d = .int (augF2 op i j) := by
  obtain ⟨i, j, h1, h2, hh | hh⟩ := aug_int h
  · obtain ⟨rfl, h3⟩ := hh; exact ⟨i, j, h1, h2, h3⟩
  · obtain ⟨rfl, h3⟩ := hh; exact ⟨i, j, h1, h2, h3⟩
theorem ip_aug {op : Pr} {o : Operator} (h : augO op = some o) : PIp X o (ipI (augF2 op)) := by
  cases op <;> try (cases h; done)
  case add => cases h; exact ip_add
  case sub => cases h; exact ip_sub
theorem s_augI {mu ms : List Nat} {p : P} {k e : E} {op : Pr} {o' : Operator} {o kx v : Expr} {tpos pos : Pos} (hx : XOk g c X) (hop : augO op = some o') (ho : PE X o (tPg g W cf p)) (hk : PE X kx (tE g W [] (evE cf k))) (he : PE X v (tE g W [] (evE cf e))) (hs : isSlice kx = false)
    (s2 : rootP p ∈ mu) : PS X (.AugAssign (.Subscript o kx tpos) o' v pos) (tS g W mu ms (evS cf (.augI p k op e))) := by
  have ha : ∀ ov iv new, augStore kx ov iv new = (do holding [new, ov, iv] (setItem ov iv new); release [new, ov, iv] []; pure .next) := by
    intro ov iv new
    cases kx <;> first | rfl | cases hs
  refine ps_is (ps_augS ho hk get_lst he (ip_aug hop) set_list ha) fun D σ H q => ?_
  obtain ⟨w, rfl, o0, r⟩ := q
  refine ⟨w, rfl, o0, ?_⟩
  rw [evS] at r
  refine (r.open (m := []) nil_sub).mono (fun ia w2 ev2 o2 g2 q2 u i2 => ?_) fun _ z => z
  refine ⟨w2, rfl, o2, ?_⟩
  have g02 : Grow mu w w2 := g2.mono nil_sub
  refine ((q2.open (m := mu) fun _ z => z).grow g02 fun _ z => z).mono (fun ik w3 ev3 o3 g3 q3 ki Tk i3 z3 => ?_) nil_sub
  split at q3
  case h_2 => exact q3.elim
  rename_i ds kk hlk
  have u3 := i2.step o2 g3 fun j a as e hj => by cases hj
  have g03 : Grow mu w w3 := g02.trans (g3.mono nil_sub)
  cases hj : (ixN ds.length kk).bind fun j => ds[j]? with
  | none => rw [hj] at q3; exact q3.elim
  | some d0 =>
    rw [hj] at q3
    obtain ⟨j, j1, j2⟩ := Option.bind_eq_some_iff.mp hj
    obtain ⟨x, u', T', p1, p2, p3⟩ := u3.plc o3 hlk
    obtain ⟨a, vs, T1, rfl, k1, _, _, _, rl⟩ := p3.rep
    obtain ⟨y, T2, T3, y1, _, _, _, y2, _⟩ := rl.out j2
    rw [hx.K]
    refine ⟨a, vs, kk, y, rfl, i3.1, SqL.of k1, by show (ixN vs.length kk).bind _ = _; rw [rl.length, j1]; exact y1, ?_⟩
    refine ⟨w3, rfl, o3, ?_⟩
    have q3 : ResS g W mu ms σ w ((evE cf e w3.env).bind fun it env => match it with
        | .tmp d1 => match augS op d0 d1 with
          | some d => match (stoS (.lst .own ds) (.int kk) d).bind fun d' => setE env (rootP p) ia d' with
            | some env' => .ok .nx env'
            | none => .stuck
          | none => .stuck
        | _ => .stuck) (eQ g mu w D) := q3
    refine ((q3.open (m := mu) fun _ z => z).grow g03 fun _ z => z).mono (fun it w4 ev4 o4 g4 q4 z Tz i4 z4 => ?_) nil_sub
    split at q4
    case h_2 => exact q4.elim
    rename_i d1
    cases hau : augS op d0 d1 with
    | none => rw [hau] at q4; exact q4.elim
    | some d =>
      rw [hau] at q4
      obtain ⟨m, n, rfl, rfl, rfl⟩ := aug_val hop hau
      refine ⟨m, n, y2, i4.1, ?_⟩
      have q5 : ResS g W mu ms σ w (match (stoS (.lst .own ds) (.int kk) (.int (augF2 op m n))).bind fun d' => setE w4.env (rootP p) ia d' with | some env' => .ok .nx env' | none => .stuck) (eQ g mu w D) := q4
      clear q4
      cases hst : (stoS (.lst .own ds) (.int kk) (.int (augF2 op m n))).bind fun d' => setE w4.env (rootP p) ia d' with
      | none => rw [hst] at q5; exact q5.elim
      | some env' =>
        rw [hst] at q5
        obtain ⟨d', e1, e2⟩ := Option.bind_eq_some_iff.mp hst
        obtain ⟨ds', kk', j', hd1, hd2, hj', rfl⟩ := stoS_ok e1
        cases hd1
        cases hd2
        have g04 : Grow mu w w4 := g03.trans (g4.mono nil_sub)
        have u4 := u3.step o3 g4 fun j a as e hj => by cases hj
        have hlk4 : look w4.env (.ref (rootP p) ia) = some (.lst .own ds) := by
          rw [← hlk]
          show (slot w4.env (rootP p)).bind _ = (slot w3.env (rootP p)).bind _
          rw [g4.env (rootP p) (fun z => by cases z)]
        obtain ⟨a', vs', T1', hv, k1', k2', _, _, _, kk4⟩ := mt_put (Us := noAd) o4 g04 u4 hlk4 Tmp.none (fun _ z => z.elim) (fun _ z => z) s2
        cases hv
        obtain ⟨w5, f3, f4, o5, g5, _, _⟩ := kk4 (vs'.set j' (.int (augF2 op m n))) (ds.set j' (.int (augF2 op m n))) .non .non T1' noAd env' (fun _ _ => True) e2 (fun _ z => .inl z) (fun _ z => z.elim) (fun _ _ z => z)
          ((k2'.set (U := noAd) (d := .int (augF2 op m n)) rfl (fun _ _ z => z) (ixN_seq hj').2.1).up (Le.refl _) (fun _ _ => rfl) fun _ z => z.elim id fun z => z.elim) rfl
        refine ⟨a, vs', kk, j', rfl, i3.1, k1', by rw [k2'.length]; exact hj', ?_⟩
        rw [← f3]
        exact q5 σ w5 f4 o5 g5 Kp.refl
theorem in_aug {op : Pr} {o : Operator} (h : augO op = some o) : InOp X o (fun x y H Q => ∃ i j, x = .int i ∧ y = .int j ∧ Q (.int (augF2 op i j)) H) := by
  cases op <;> try (cases h; done)
  case add => cases h; exact in_add
  case sub => cases h; exact in_sub
theorem s_augF {mu ms : List Nat} {p : P} {ci : Nat} {f : Str} {e : E} {op : Pr} {o' : Operator} {o v : Expr} {tpos pos : Pos} (hx : XOk g c X) (hop : augO op = some o') (ho : PE X o (tPg g W cf p)) (he : PE X v (tE g W [] (evE cf e))) (hC : L2.Cls g.K (g.CA ci)) (hn : NoAttr g.K (g.CA ci) f)
    (s2 : rootP p ∈ mu) : PS X (.AugAssign (.Attribute o f tpos) o' v pos) (tS g W mu ms (evS cf (.augF p ci f op e))) := by
  refine ps_is (ps_fldaug ho he (in_aug hop)) fun D σ H q => ?_
  obtain ⟨w, rfl, o0, r⟩ := q
  refine ⟨w, rfl, o0, ?_⟩
  rw [evS] at r
  refine (r.open (m := []) nil_sub).mono (fun ia w2 ev2 o2 g2 q2 u i2 => ?_) fun _ z => z
  have g02 : Grow mu w w2 := g2.mono nil_sub
  split at q2
  case h_2 => exact q2.elim
  rename_i c' ks ds hlk
  split at q2
  · exact q2.elim
  rename_i hcc
  have hcc : c' = ci := Classical.byContradiction hcc
  subst hcc
  cases hj : (fdIx ks f).bind fun j => ds[j]? with
  | none => rw [hj] at q2; exact q2.elim
  | some d0 =>
    rw [hj] at q2
    obtain ⟨j, j1, j2⟩ := Option.bind_eq_some_iff.mp hj
    obtain ⟨x, u', T', p1, p2, p3⟩ := i2.plc o2 hlk
    obtain ⟨a, dx, vs, y, T2, e1, e2, e3, e4, e5⟩ := Plc.ins o2.le p3.rep j1 j2
    subst e1
    have q3 : ResS g W mu ms σ w ((evE cf e w2.env).bind fun it env => match it with
        | .tmp d1 => match augS op d0 d1 with
          | some d => match (putF' c' (.ins .own c' ks ds) f d).bind fun d' => setE env (rootP p) ia d' with
            | some env' => .ok .nx env'
            | none => .stuck
          | none => .stuck
        | _ => .stuck) (eQ g mu w D) := q2
    refine ⟨a, g.CA c', dx, ks.zip vs, y, rfl, e2, by rw [hx.K]; exact hC, by rw [hx.K]; exact hn, e4, ?_⟩
    refine ⟨w2, rfl, o2, ?_⟩
    refine ((q3.open (m := mu) fun _ z => z).grow g02 fun _ z => z).mono (fun it w4 ev4 o4 g4 q4 z Tz i4 z4 => ?_) nil_sub
    split at q4
    case h_2 => exact q4.elim
    rename_i d1
    cases hau : augS op d0 d1 with
    | none => rw [hau] at q4; exact q4.elim
    | some d =>
      rw [hau] at q4
      obtain ⟨m, n, rfl, rfl, rfl⟩ := aug_val hop hau
      have y2 : y = V.int m := e5.rep
      refine ⟨m, n, y2, i4.1, ?_⟩
      have q5 : ResS g W mu ms σ w (match (putF' c' (.ins .own c' ks ds) f (.int (augF2 op m n))).bind fun d' => setE w4.env (rootP p) ia d' with | some env' => .ok .nx env' | none => .stuck) (eQ g mu w D) := q4
      clear q4
      cases hst : (putF' c' (.ins .own c' ks ds) f (.int (augF2 op m n))).bind fun d' => setE w4.env (rootP p) ia d' with
      | none => rw [hst] at q5; exact q5.elim
      | some env' =>
        rw [hst] at q5
        obtain ⟨d', f1, f2⟩ := Option.bind_eq_some_iff.mp hst
        have f1 : (if c' ≠ c' ∨ ¬ ks.length < 1000 then none else match fdIx ks f with
          | some j => some (Z.D.ins .own c' ks (ds.set j (.int (augF2 op m n))))
          | none => some (Z.D.ins .own c' (ks ++ [f]) (ds ++ [.int (augF2 op m n)]))) = some d' := f1
        split at f1
        · cases f1
        rename_i hc3
        have hc2 : ks.length < 1000 := Classical.byContradiction fun h => hc3 (.inr h)
        rw [j1] at f1
        have g04 : Grow mu w w4 := g02.trans (g4.mono nil_sub)
        have u4 := i2.step o2 g4 fun j a as e hj => by cases hj
        have hlk4 : look w4.env (.ref (rootP p) ia) = some (.ins .own c' ks ds) := by
          rw [← hlk]
          show (slot w4.env (rootP p)).bind _ = (slot w2.env (rootP p)).bind _
          rw [g4.env (rootP p) (fun z => by cases z)]
        obtain ⟨a', dx', vs', T1, hv, k1, k2, k3, _, kk⟩ := in_put (Us := noAd) o4 g04 u4 hlk4 Tmp.none (fun _ z => z.elim) (fun _ z => z) s2
        cases hv
        have kv : ks.length = vs'.length := by rw [k2.length, k3]
        obtain ⟨w5, f3, f4, o5, g5⟩ := kk ks (vs'.set j (.int (augF2 op m n))) (ds.set j (.int (augF2 op m n))) T1 env' (by rw [Option.some.inj f1]; exact f2) (fun _ z => .inl z)
          ((k2.set (U := noAd) (d := .int (augF2 op m n)) rfl (fun _ _ z => z) (k3 ▸ fdIx_lt j1)).up (Le.refl _) (fun _ _ => rfl) fun _ z => z.elim id fun z => z.elim) (by rw [List.length_set]; exact k3)
        refine ⟨dx', ks.zip vs', k1, by rw [List.length_zip, ← kv, Nat.min_self]; exact hc2, ?_⟩
        rw [putF_some j1 kv, ← f3]
        exact q5 σ w5 f4 o5 g5 Kp.refl
end
end Z

/-! Z23f: two names at once. -/
namespace Z
open PySem L2 PySem.Spec PyProof.Rows
theorem star_f {a : Expr} (na : noStar a = true) : (match a with | .Starred .. => true | _ => false) = false := by cases a <;> first | rfl | cases na
theorem sw_two {env : PySem.Env} {x y : Str} {px py pt pt2 : Pos} {kt k2 : Nat} {a b : Expr} (hk : env.scope.kind = .function) (hx : env.scope.names.lookup x = some .local) (hy : env.scope.names.lookup y = some .local) (hl : (py.line == px.line) = true) (hn : (x == y) = false)
    (na : noStar a = true) (nb : noStar b = true) (hf : [a, b].all (foldedForSure 8) = false) (hc : [a, b].all (constantsAlone 8) = false) :
    swappedStores [.Tuple [.Name x px, .Name y py] kt pt] (.Tuple [a, b] k2 pt2) env = pure (some [x, y]) := by
  have kx : env.kindOf x = some .local := hx
  have ky : env.kindOf y = some .local := hy
  have hb : env.blockKind = .function := by unfold Env.blockKind; rw [hk]; rfl
  have hne : (y == x) = false := by
    rw [beq_eq_false_iff_ne] at hn ⊢
    exact fun h => hn h.symm
  have hy' : py.line = px.line := eq_of_beq hl
  unfold swappedStores
  simp only [hb, hf, hc]
  simp [List.eraseDups_cons, hne, hy', kx, ky, Expr.pos]
  intro h
  exfalso
  rcases h with h | h
  · cases a <;> first
      | (cases h; done)
      | cases na
  · cases b <;> first
      | (cases h; done)
      | cases nb
end Z

/-! Z23g: exceptions: classes whose __init__ keeps its arguments; raise; what a suite asks of its exception. -/
namespace Z
open PySem L2 PySem.Spec PyProof.Rows
/-! ### __init__ -/
def visS (sc : Scope) (x : Str) : Bool := match sc.names.lookup x with
  | some .local => true
  | some .cell => true
  | some .free => true
  | _ => false
theorem visS_ok {sc : Scope} {x : Str} (h : visS sc x = true) : Vis sc x := by
  unfold visS at h
  split at h
  · exact .inl (by assumption)
  · exact .inr (.inl (by assumption))
  · exact .inr (.inr (by assumption))
  · cases h
def nmz (x : Str) : Bool := !(x == ("__debug__" : Str)) && !(x == ("__classdict__" : Str))
/-- self.k = x -/
def iniS (N : List Str) (sc : Scope) (k : Str) (i : Nat) : Stmt → Bool
  | .Assign [.Attribute (.Name s _) k' _] (.Name x _) _ => decide (k = k') && decide (N[0]? = some s) && decide (N[i]? = some x) && visS sc s && visS sc x && nmz s && nmz x
  | _ => false
/-- one after the other -/
def iniB (N : List Str) (sc : Scope) : List Str → Nat → List Stmt → Bool
  | [], _, [] => true
  | k :: ks, i, st :: r => iniS N sc k i st && iniB N sc ks (i + 1) r
  | _, _, _ => false
theorem nmz_ok {x : Str} (h : nmz x = true) : (x == ("__debug__" : Str)) = false ∧ (x == ("__classdict__" : Str)) = false := by
  unfold nmz at h
  rw [Bool.and_eq_true, Bool.not_eq_true', Bool.not_eq_true'] at h
  exact h
section
variable {X : Cx} {C : Addr}
theorem iniS_ok {N : List Str} {sc : Scope} (hN : X.N = N) (hs : X.env.scope = sc) {k : Str} {i : Nat} {st : Stmt} (h : iniS N sc k i st = true) : PS X st (tOst X.K k (tVar 0) (tVar i)) := by
  unfold iniS at h
  split at h
  case h_2 => cases h
  rename_i s p1 k' p2 x p3 pos
  simp only [Bool.and_eq_true, decide_eq_true_eq] at h
  obtain ⟨⟨⟨⟨⟨⟨rfl, h1⟩, h2⟩, h3⟩, h4⟩, h5⟩, h6⟩ := h
  obtain ⟨n1, n2⟩ := nmz_ok h5
  obtain ⟨n3, n4⟩ := nmz_ok h6
  exact ps_ost (pe_var (by rw [hN]; exact h1) (by rw [hs]; exact visS_ok h3) n1 n2) (pe_var (by rw [hN]; exact h2) (by rw [hs]; exact visS_ok h4) n3 n4) rfl
theorem ini_rest {N : List Str} {sc : Scope} (hN : X.N = N) (hs : X.env.scope = sc) (T : OexC X.K C) : ∀ {ks : List Str} {i : Nat} {body : List Stmt}, iniB N sc ks i body = true → (∀ k ∈ ks, PySem.W.findIn X.K (.ref C) k = some none) →
    ∃ t : TS, PSs X body t ∧ ∀ (D : Ends) (σ : L2.St) (H : Hp) (a dx : Addr) (fs : List (Str × V)) (ys : List V), σ[0]? = some (some (.ref a)) → (∀ j y, ys[j]? = some y → σ[i + j]? = some (some y)) → ys.length = ks.length → H a = some (exo a C (some dx)) → H dx = some (exd dx fs) → fs.length + ks.length ≤ 900 → dx ≠ a →
      (∀ H2, H2 a = some (exo a C (some dx)) → H2 dx = some (exd dx ((ks.zip ys).reverse ++ fs)) → (∀ b, b ≠ a → b ≠ dx → H2 b = H b) → D.nx σ H2) → t D σ H
  | [], i, body, h, _ => by
    cases body with
    | cons _ _ => cases h
    | nil => exact ⟨tNext, pss_nil, fun D σ H a dx fs ys _ _ _ h1 h2 _ _ q => q H h1 h2 fun _ _ _ => rfl⟩
  | k :: ks, i, body, h, no => by
    cases body with
    | nil => cases h
    | cons st r =>
    have h : (iniS N sc k i st && iniB N sc ks (i + 1) r) = true := h
    rw [Bool.and_eq_true] at h
    obtain ⟨t, ht, q⟩ := ini_rest hN hs T h.2 fun k hk => no k (List.mem_cons_of_mem _ hk)
    refine ⟨_, pss_cons (iniS_ok hN hs h.1) ht, fun D σ H a dx fs ys e0 ey el ea ed ef ne fin => ?_⟩
    cases ys with
    | nil => cases el
    | cons y ys =>
      refine ⟨y, ey 0 y rfl, .ref a, e0, a, C, rfl, T, no k List.mem_cons_self, .inr ⟨dx, fs, ea, ed, by rw [List.length_cons] at ef; omega, ?_⟩⟩
      refine q D σ _ a dx ((k, y) :: fs) ys e0 (fun j z hz => ?_) (by simpa using el) ?_ upd_same (by rw [List.length_cons] at ef ⊢; omega) ne fun H2 g1 g2 g3 => ?_
      · have := ey (j + 1) z (by simpa using hz)
        rw [show i + 1 + j = i + (j + 1) by omega]
        exact this
      · rw [upd_ne (Ne.symm ne)]
        exact ea
      · refine fin H2 g1 ?_ fun b b1 b2 => (g3 b b1 b2).trans (upd_ne b2)
        rw [g2, List.zip_cons_cons, List.reverse_cons, List.append_assoc]
        rfl
theorem ini_all {N : List Str} {sc : Scope} (hN : X.N = N) (hs : X.env.scope = sc) (T : OexC X.K C) {k : Str} {ks : List Str} {body : List Stmt} (h : iniB N sc (k :: ks) 1 body = true) (no : ∀ k' ∈ k :: ks, PySem.W.findIn X.K (.ref C) k' = some none) :
    ∃ t : TS, PSs X body t ∧ ∀ (D : Ends) (σ : L2.St) (H : Hp) (a : Addr) (ys : List V), σ[0]? = some (some (.ref a)) → (∀ j y, ys[j]? = some y → σ[1 + j]? = some (some y)) → ys.length = (k :: ks).length → H a = some (exo a C none) → (k :: ks).length ≤ 900 →
      (∀ dx, H dx = none → dx ≠ a → ∀ H2, H2 a = some (exo a C (some dx)) → H2 dx = some (exd dx ((k :: ks).zip ys).reverse) → (∀ b, b ≠ a → b ≠ dx → H2 b = H b) → D.nx σ H2) → t D σ H := by
  cases body with
  | nil => cases h
  | cons st r =>
  have h : (iniS N sc k 1 st && iniB N sc ks (1 + 1) r) = true := h
  rw [Bool.and_eq_true] at h
  obtain ⟨t, ht, q⟩ := ini_rest hN hs T h.2 fun k hk => no k (List.mem_cons_of_mem _ hk)
  refine ⟨_, pss_cons (iniS_ok hN hs h.1) ht, fun D σ H a ys e0 ey el ea ef fin => ?_⟩
  cases ys with
  | nil => cases el
  | cons y ys =>
    refine ⟨y, ey 0 y rfl, .ref a, e0, a, C, rfl, T, no k List.mem_cons_self, .inl ⟨ea, fun dx nd ne => ?_⟩⟩
    refine q D σ _ a dx [(k, y)] ys e0 (fun j z hz => ?_) (by simpa using el) upd_same (by rw [upd_ne ne, upd_same]) (by rw [List.length_cons] at ef; simp only [List.length_cons, List.length_nil]; omega) ne fun H2 g1 g2 g3 => ?_
    · have := ey (j + 1) z (by simpa using hz)
      rw [show 1 + 1 + j = 1 + (j + 1) by omega]
      exact this
    · refine fin dx nd ne H2 g1 ?_ fun b b1 b2 => (g3 b b1 b2).trans ((upd_ne b1).trans (upd_ne b2))
      rw [g2, List.zip_cons_cons, List.reverse_cons]
end
/-- what such an __init__ does -/
def spI (K : PySem.W.Frag) (C : Addr) (ks : List Str) : Sp := fun vs H Q _ => ∃ a ys, vs = .ref a :: ys ∧ ys.length = ks.length ∧ H a = some (exo a C none) ∧
  ∀ dx, H dx = none → dx ≠ a → ∀ H2, H2 a = some (exo a C (some dx)) → H2 dx = some (exd dx (ks.zip ys).reverse) → (∀ b, b ≠ a → b ≠ dx → H2 b = H b) → Q .non H2
/-- an exception's class: its name, its number, its fields -/
structure XcOk (g : G) (x : Str) (c : Nat) (ks : List Str) : Prop where
  mg : g.mg x = some (.ref (g.CA c))
  T : OexC g.K (g.CA c)
  no : ∀ k ∈ ks, PySem.W.findIn g.K (.ref (g.CA c)) k = some none
  ini : ∃ (fI : Addr) (name qual : Str) (st : Stmt) (N ps : List Str) (oc : Value) (od : Option Addr) (kV doc pm : Value) (an : Option Addr) (cdv ct : Value) (osl : Array (Option Value)),
    g.K.lookup fI = some ⟨oc, od, .func (PySem.W.fnOf name qual (defArgs st) (defBody st) (defScope st) .none kV doc pm an cdv ct), osl⟩ ∧ PySem.W.codeIn g.K cdv qual = true ∧ FnScope N ps (defScope st) ∧
    Binds g.K (PySem.W.fnOf name qual (defArgs st) (defBody st) (defScope st) .none kV doc pm an cdv ct) ps [] ∧ ps.length = ks.length + 1 ∧ iniB N (defScope st) ks 1 (defBody st) = true ∧
    PySem.W.findIn g.K (.ref (g.CA c)) "__init__" = some (some (.ref fI)) ∧ PySem.W.typeIn g.K (.ref fI) = some (.type "function")
theorem ini_fn {g : G} {x : Str} {c : Nat} {k : Str} {ks : List Str} (h : XcOk g x c (k :: ks)) (hz : (k :: ks).length ≤ 900) : ∃ (fI : Addr) (fd : FuncData) (ps : List Str), Binds g.K fd ps [] ∧ ps.length = (k :: ks).length + 1 ∧
    PySem.W.findIn g.K (.ref (g.CA c)) "__init__" = some (some (.ref fI)) ∧ PySem.W.typeIn g.K (.ref fI) = some (.type "function") ∧ FnOk g.P g.w g.K g.mg g.base (L2.CX g.P g.w) 1 fI fd ps (spI g.K (g.CA c) (k :: ks)) := by
  obtain ⟨fI, name, qual, st, N, ps, oc, od, kV, doc, pm, an, cdv, ct, osl, lookF, codeK, S, B, hl, hb, f1, f2⟩ := h.ini
  refine ⟨fI, _, ps, B, hl, f1, f2, ?_⟩
  refine fn_of lookF codeK S (fun vs H Q E hsp => ?_) fun A outer s H vs Q E hr hsp => ?_
  · obtain ⟨a, ys, rfl, e, _⟩ := hsp
    rw [List.length_cons, e, hl]
  · obtain ⟨a, ys, rfl, e, ea, q⟩ := hsp
    obtain ⟨t, ht, hq⟩ := ini_all (X := cxOf (L2.CX g.P g.w) g.P g.w g.K g.mg g.base N qual (defScope st) fI cdv A outer s H E) rfl rfl h.T hb h.no
    have hNl : ps.length ≤ N.length := by
      have := congrArg List.length S.pre
      rw [List.length_take] at this
      omega
    refine ⟨t, ht, hq _ _ _ a ys rfl (fun j y hy => ?_) e ea hz q⟩
    unfold L2.start
    have hj := (List.getElem?_eq_some_iff.mp hy).1
    rw [List.getElem?_append_left (by rw [List.length_map, List.length_cons]; omega), List.getElem?_map, show 1 + j = j + 1 by omega, List.getElem?_cons_succ, hy]
    rfl
/-! ### raise -/
theorem zipRv : ∀ {ks : List Str} {ys : List V}, ks.length = ys.length → (ks.zip ys).reverse = ks.reverse.zip ys.reverse := fun {ks ys} h => by
  rw [List.zip, List.reverse_zipWith h]
section
variable {g : G} {c : Cxt} {X : Cx} {W : WX} {cf : Nat → List D → CR}
/-- what a raise leaves -/
theorem rse_rd {x : Str} {ci : Nat} {ks : List Str} {as : A} {m mu ms : List Nat} {D : Ends} {σ : L2.St} {w w1 : Wd} {its : List Itm} {vs : List V} {Ts : List Ad} (s0 : ∀ i, i ∈ m → i ∈ mu) (o1 : Own g.K g.CA σ w1) (g1 : Grow m w w1) (is : ItsR g.K g.CA σ w1 its vs Ts) (zs : ∀ T, T ∈ Ts → ∀ a, T a → Zone m w a)
    (q : ResS g W mu ms σ w (match tmps its with | some ds => if ks.length = ds.length then R.exc ci ks.reverse (frzDs ds).reverse w1.env else .stuck | none => .stuck) (eQ g mu w D)) :
    ks.length = vs.length ∧ ∀ dx, w1.H dx = none → W (.ref (g.CA ci)) (some dx) σ (upd w1.H dx (.xd (ks.zip vs).reverse)) := by
  split at q
  case h_2 => exact q.elim
  rename_i ds hd
  split at q
  case isFalse => exact q.elim
  rename_i hl
  obtain ⟨r1, t1⟩ := is.repL hd
  have hlv : ks.length = vs.length := by rw [r1.length]; exact hl
  refine ⟨hlv, fun p hp => ?_⟩
  have hF := le_none o1.le hp
  have np : ∀ a, w1.H a ≠ none → a ≠ p := fun a ha e => ha (e ▸ hp)
  have hT : ∀ a, Uni Ts a → w1.F a = none := fun a z => (t1 a z).2.1
  have fr := r1.freeze (frzF_le o1.le hT) fun a ha => frzF_in ha
  have hF2 : frzF w1.F w1.H (Uni Ts) p = none := le_none (frzF_le2 o1.le) hp
  have nF : ∀ a, frzF w1.F w1.H (Uni Ts) a ≠ none → w1.F a ≠ none ∨ Uni Ts a := fun a ha => by
    by_cases ht : Uni Ts a
    · exact .inr ht
    · rw [frzF_out ht] at ha; exact .inl ha
  have o2 := o1.lay (x := .xd (ks.zip vs).reverse) hp (frzF_le o1.le hT) (le_upd (frzF_le2 o1.le) hF2) fun a z => (nF a z).imp id fun z i hs => (t1 a z).2.2 i hs
  have nz : ∀ {o : HO}, some o ≠ none := fun z => nomatch z
  have gg : Grow m w ⟨frzF w1.F w1.H (Uni Ts), upd w1.H p (.xd (ks.zip vs).reverse), w1.S, w1.env⟩ := by
    refine ⟨g1.fle.trans (frzF_le o1.le hT), fun a hn hk => (upd_ne (np a (by rw [g1.keep a hn hk]; exact hn))).trans (g1.keep a hn hk), g1.oth, g1.env, g1.len, g1.new, fun a ha => ?_⟩
    rcases nF a ha with z | ⟨T, z1, z2⟩
    · exact g1.newF a z
    · exact .inr (zs T z1 a z2)
  refine q σ ⟨frzF w1.F w1.H (Uni Ts), upd w1.H p (.xd (ks.zip vs).reverse), w1.S, w1.env⟩ (some p) rfl o2 (gg.mono s0) Kp.refl (.inr ⟨p, vs.reverse, rfl, ?_, fr.rev, ?_, fun a ha => ?_, ?_⟩)
  · show upd w1.H p _ p = _
    rw [upd_same, zipRv hlv]
  · rw [List.length_reverse, List.length_reverse, frzDs_length (K := g.K) (CA := g.CA)]
    exact hl
  · cases ha
    exact ⟨by show upd w1.H p _ p ≠ none; rw [upd_same]; exact nz, hF2, fun i hs => (o1.trk i p hs).1 hp⟩
  · exact (g1.mono s0).zone (.inr hp)
theorem c_rse {x : Str} {ci : Nat} {k : Str} {ks : List Str} {as : A} {es : List Expr} {p pos pos2 : Pos} {m mu ms : List Nat} (hx : XOk g c X) (hh : c.hot = false) (hr : Room 2 X.A) (tk : Takes X W) (hc : XcOk g x ci (k :: ks)) (hg : glB c x = true) (hd : (x == ("__debug__" : Str)) = false)
    (ha : ArgsRd g X W m (evA cf as) es) (hs : es.all noStar = true) (hl : es.length = ks.length + 1) (hz : ks.length < 900) (s0 : ∀ i, i ∈ m → i ∈ mu) : PS X (.Raise (some (.Call (.Name x p) es [] pos)) none pos2) (tS g W mu ms (evS cf (.rse x ci (k :: ks) as))) := by
  obtain ⟨ts, ps, kk⟩ := ha
  obtain ⟨fI, fd, pn, bd, pl, f1, f2, fo⟩ := ini_fn hc (by rw [List.length_cons]; omega)
  cases es with
  | nil => cases hl
  | cons e es =>
    have hsA := hs
    rw [List.all_cons, Bool.and_eq_true] at hs
    have T : OexC X.K (g.CA ci) := by rw [hx.K]; exact hc.T
    have pm := pmk_oex (X := X) (CX := L2.CX X.prog X.w) (x := x) (p := p) (pos := pos) (dvs := []) (ds := []) T (by rw [hx.K]; exact f1) (by rw [hx.K]; exact f2) (by rw [hx.P, hx.w, hx.K, hx.mg, hx.base]; exact fo) hr (by rw [hx.K]; exact bd) .nil (passes_call tk fun _ _ _ _ z => z.elim) (hx.gl hg) (by rw [hx.mg]; exact hc.mg) (pa_of ps hsA) hd (star_cons hs.1) (star_any hs.2)
    refine ps_is (ps_raise (hx.calm hh) tk pm) fun D σ H q => ?_
    obtain ⟨w, rfl, o, r⟩ := q
    show tArgs ts σ w.H _
    rw [tArgs_tCh (r := fun vs H1 Q => vs.length ≤ 1000 ∧ ∀ a, H1 a = none → spI g.K (g.CA ci) (k :: ks) (.ref a :: (vs ++ [])) (upd H1 a (exo a (g.CA ci) none)) (fun v H2 => v = .non ∧ ∃ (d : Addr) (fs : List (Str × V)), H2 a = some (exo a (g.CA ci) (some d)) ∧ H2 d = some (exd d fs) ∧ H1 d = none ∧ W (.ref (g.CA ci)) (some d) σ (upd (del H2 a) d (.xd fs))) (fun _ _ _ => False)) (Q := fun _ _ => True)]
    refine kk σ _ _ w o ?_
    rw [evS] at r
    refine (r.open (m := m) s0).mono (fun its w1 ev o1 g1 q1 vs Ts is zs => ?_) fun _ z => z
    obtain ⟨e1, e2⟩ := rse_rd (x := x) (as := as) s0 o1 g1 is zs q1
    refine ⟨by rw [← e1, List.length_cons]; omega, fun a hn => ⟨a, vs, by rw [List.append_nil], e1.symm, upd_same, fun dx nd ne H2 g2 g3 g4 => ⟨rfl, dx, _, g2, g3, ?_, ?_⟩⟩⟩
    · rw [upd_ne ne] at nd; exact nd
    · rw [upd_ne ne] at nd
      have : upd (del H2 a) dx (.xd ((k :: ks).zip vs).reverse) = upd w1.H dx (.xd ((k :: ks).zip vs).reverse) := by
        funext b
        by_cases h1 : b = dx
        · subst h1; rw [upd_same, upd_same]
        · rw [upd_ne h1, upd_ne h1]
          by_cases h2 : b = a
          · subst h2; rw [del_same, hn]
          · rw [del_ne h2, g4 b h2 h1, upd_ne h2]
      rw [this]
      exact e2 dx nd
end
end Z

/-! Z23h: isinstance of an exception that may have a dict. -/
namespace Z
open PySem PySem.W PySem.Spec PySem.Calls PyProof.Rows
section
variable {prog : Program} {w : World} {A : Around} {E : Value → Shared → Prop} {s : Shared} {K : Frag} {x D : Addr} {ox : Obj}
theorem clsAsk {od : Option Obj} {Q : Option Value → Shared → Prop} (C : L2.ExcC K D) (X : K.In s.heap) (I : InstAt s.heap x ox D od) (h : Q (some (.ref D)) { s with toks := s.toks + 1 }) : wpAny (model prog w) A (getAttr? (.ref x) "__class__") Q E s := by
  have isC : (clsIn K D).isSome = true := by
    obtain ⟨cd, hc, _⟩ := any_some C.hd
    rw [hc]
    rfl
  have fo : findObj K D od "__class__" = some (.bind (.builtin "getset_descriptor.__get__") (.builtin "object.__class__")) := by
    obtain ⟨cd, hc⟩ := Option.isSome_iff_exists.mp isC
    unfold findObj
    rw [hc, Option.bind_some, C.ha, Option.bind_some]
    simp [C.hn, C.ht]
  obtain ⟨hp, g, d, t, os⟩ := s
  have l0 := I.type (M := model prog w)
  have l1 := looks_findIn (M := model prog w) X C.hg
  have l2 := looks_findIn (M := model prog w) X C.hk
  have l3 := looks_find (M := model prog w) X I fo
  have isB : Looks (model prog w) hp (isInstance (.ref x) (.type "BaseException")) true := l0.andThen (looks_subIn X C.hs)
  have n0 : (false && onTheHeap (Value.builtin "BaseException.__getattribute__")) = false := rfl
  have n2 : (Value.builtin "BaseException.__getattribute__" == Value.builtin "object.__getattribute__") = false := by decide +kernel
  have n1 : (onTheHeap (Value.ref D) && Value.builtin "BaseException.__getattribute__" == Value.builtin "object.__getattribute__") = false := by rw [n2] <;> rfl
  unfold getAttr? getAttrBy?; unfold getAttrBy
  refine wpAny_bind (wpAny_mkText (wpAny_bind (wpAny_attempt (wpAny_holding (wpAny_bind (l0.at (wpAny_bind (l1.at ?_))))))))
  show wpAny _ _ (if (onTheHeap (Value.ref D) && Value.builtin "BaseException.__getattribute__" == Value.builtin "object.__getattribute__") = true then _ else _) _ _ ⟨hp, g, d, t + 1, os⟩
  rw [n1, if_neg Bool.false_ne_true]
  unfold getAttrByItsOwn; unfold hookBefore
  refine wpAny_bind ?_
  rw [if_pos (show onTheHeap (Value.ref D) = true by rfl)]
  refine l2.at ?_
  refine wpAny_bind (wpAny_attempt (wpAny_holding ?_))
  unfold callGetattribute
  rw [n0, if_neg Bool.false_ne_true]
  unfold boundAndCalled
  rw [PySem.F.excAttr_ValueError.ga.bind (Value.ref x)]
  refine wpAny_bind (wpAny_pure ?_)
  show wpAny _ _ (call (.builtin "BaseException.__getattribute__") [.ref x, .str "__class__" t]) _ _ ⟨hp, g, d, t + 1, os⟩
  refine wpAny_call (codeAny_call_builtin F.excAttr_ValueError.ga.plain F.entry_bexc_ga ?_)
  refine @check_slot (model prog w) _ _ ⟨hp, g, d, t + 1, os⟩ "BaseException.__getattribute__" "BaseException" "__getattribute__" (.ref x) [.str "__class__" t] [] _ (by decide +kernel) (by decide +kernel) isB (F.args_bexc_ga (.ref x) (.str "__class__" t)) ?_
  unfold Builtin.«object.__getattribute__»
  refine wpAny_bind (wpAny_of_eq (a := ((Value.ref x : Value), [Value.str "__class__" t])) (by first | (simp only [slotArgs]; rfl) | rfl) ?_)
  refine wpAny_bind (wpAny_pure (wpAny_bind (l0.at (wpAny_bind (l3.at ?_)))))
  show wpAny _ _ (holding [Value.builtin "object.__class__"] (call (.builtin "getset_descriptor.__get__") [.builtin "object.__class__", .ref x, .ref D]) >>= ret) _ _ ⟨hp, g, d, t + 1, os⟩
  refine wpAny_bind (wpAny_holding (wpAny_call (class_get (s := ⟨hp, g, d, t + 1, os⟩) (ox := ox) (od := od) X I C.hm ?_)))
  refine wpAny_pure ?_
  show wpAny _ _ (handedOut (.ref D)) _ _ ⟨hp, g, d, t + 1, os⟩
  rw [handedOut_of (show handedIn (.ref D) = true by rfl)]
  first
    | exact wpAny_pure (wpAny_bind (wpAny_pure (wpAny_pure h)))
    | exact wpAny_pure (wpAny_pure h)
    | exact wpAny_pure h
theorem kitxX (C : L2.ExcC K D) : KitX K (.ref x) (.ref D) (fun h => ∃ od, InstAt h x ox D od) where
  ty := fun _ _ _ ⟨_, I⟩ => I.type
  it := fun _ _ X _ => by
    obtain ⟨cdD, hcD, _⟩ := any_some C.hd
    unfold clsIn at hcD
    split at hcD
    case h_2 => cases hcD
    rename_i ho
    intro A' Q' E' s' k q
    unfold isType; unfold loadHead
    exact wpAny_bind (wpAny_loadPart (k _ _ (X _ _ ho)) (wpAny_pure q))
  ne := fun h tp dd its n sl X htp => by
    obtain ⟨cdD, hcD, _⟩ := any_some C.hd
    refine Bool.eq_false_iff.mpr fun q => ?_
    have e := Value.ref.inj (eq_of_beq q)
    subst e
    unfold clsIn at hcD
    split at hcD
    case h_2 => cases hcD
    rename_i ho
    exact absurd ((X _ _ ho).symm.trans htp) (fun z => by cases z)
  ca := fun X ⟨_, I⟩ k => clsAsk C X I k
end
end Z
namespace Z
open PySem L2 PySem.Spec PyProof.Rows
/-- isinstance(e, c), e the exception that the suite holds -/
theorem call_isX {X : Cx} {a C : Addr} {oe : Obj} {d : Option Addr} {pn : List (Addr × Obj)} {v : V} {cv : Value} {b : Bool} (T : ExcC X.K C) (hz : Zc (.ref C) d oe) (hf : ∃ vs, oe.data = .fields vs) (hcv : ∀ u, RelV v u → u = cv) (e : PySem.W.kitOne X.K (.ref C) cv = some b) :
    CallR (X.suite a ((a, oe) :: pn)) (.builtin "isinstance") (fun xs H Q => xs = [.ref a, v] ∧ (∀ dd, d = some dd → ∃ fs, H dd = some (.xd fs)) ∧ Q (.bl b) H) := by
  intro pins s σ H xs us Q I r h
  obtain ⟨rfl, hd, q⟩ := h
  cases r with
  | cons rx rr =>
    cases rr with
    | cons rt rr =>
      cases rr
      cases rx
      have ec := hcv _ rt
      subst ec
      obtain ⟨hget, _⟩ := I.pin (a, oe) (List.mem_append.mpr (.inl List.mem_cons_self))
      obtain ⟨vs, hv⟩ := hf
      have J : ∃ od, PySem.W.InstAt s.heap a oe C od := by
        cases d with
        | none => exact ⟨none, hget, hz.1, by unfold PySem.W.notCls; rw [hv] <;> rfl, by rw [hz.2]; trivial⟩
        | some dd =>
          obtain ⟨fs, ha⟩ := hd dd rfl
          have hx : ObjOk X.prog X.w H s.heap dd (.xd fs) := I.hok dd _ ha
          obtain ⟨mA, hns, hr⟩ := hx
          obtain ⟨od, ho, _⟩ := lookIn_ns hns
          exact ⟨some od, hget, hz.1, by unfold PySem.W.notCls; rw [hv] <;> rfl, by rw [hz.2]; exact ho⟩
      exact PySem.W.kia_one (kitxX T) I.kIn J e (fun z => nomatch z) fun tk => ⟨.bl b, H, I.kept (t' := tk) fun _ _ z => z, rfl, q⟩
end Z

/-! Z23i: in a suite; try. -/
namespace Z
open PySem L2 PySem.Spec PyProof.Rows
/-- the text, an exception in hand -/
def gx (g : G) (x : Exn) : G := { g with CA := ⟨g.CA.f, some x⟩ }
section
variable {g : G} {c : Cxt} {X : Cx} {W : WX} {cf : Nat → List D → CR}
theorem ex_dict {K : PySem.W.Frag} {CA : Cls} {σ : L2.St} {F : Hp} {x : Exn} (h : XAt K CA σ F x) : ∀ dd, x.d = some dd → ∃ fs, F dd = some (.xd fs) := fun dd e => by
  rcases h.2 with ⟨_, _, z⟩ | ⟨d2, vs, h1, h2, _⟩
  · rw [z] at e; cases e
  · rw [h1] at e; cases e; exact ⟨_, h2⟩
theorem c_xf {i : Nat} {n f : Str} {p pos : Pos} (hx : XOk g c X) (hh : c.hot = true) (hi : c.xi = some i) (hN : c.N[i]? = some n) (hv : visB c n = true) (hn : (n == ("__debug__" : Str)) = false) (hn2 : (n == ("__classdict__" : Str)) = false)
    (hf : ∀ k, k ∈ c.xcs → XfC g.K (g.CA k) ∧ PySem.W.findIn g.K (.ref (g.CA k)) f = some none) (hcf : ∀ x, g.CA.ex = some x → ∀ d o, cf xN [.str f] = .ok d o → ∃ j, fdIx x.ks f = some j ∧ x.fs[j]? = some d) :
    PE X (.Attribute (.Name n p) f pos) (tE g W [] (evE cf (.xf i f))) := by
  obtain ⟨x, ex⟩ := hx.hotx hh
  obtain ⟨e1, e2, X0, oe, pn, eX, hz, hfl⟩ := hx.exn x ex
  have hK := hx.K
  have pv : PE X (.Name n p) (tVar i) := pe_var (by rw [hx.N]; exact hN) (hx.vis hv) hn hn2
  subst eX
  obtain ⟨T, no⟩ := hf x.c e2
  have K0 : X0.K = g.K := hK
  refine pe_is (pe_xf (X := X0) (C := g.CA x.c) (by rw [K0]; exact T) (by rw [K0]; exact no) hz hfl pv rfl) fun σ H Q q => ?_
  obtain ⟨w, rfl, o, r⟩ := q
  have xs := o.xs x ex
  refine ⟨_, xs.1 i (e1.trans hi), rfl, rfl, ?_⟩
  rw [evE] at r
  split at r
  case h_2 => exact r.elim
  rename_i d o' hd
  obtain ⟨j, f1, f2⟩ := hcf x ex _ _ hd
  rcases xs.2 with ⟨z, _⟩ | ⟨dd, vs, h1, h2, h3, h4⟩
  · rw [z] at f1; cases f1
  · obtain ⟨u, k1, k2⟩ : ∃ u, vs[j]? = some u ∧ Rep g.K g.CA w.F w.F d u noAd := by
      clear h1 h2 f1
      generalize x.fs = ds at h3 f2 h4
      clear h4
      induction ds generalizing vs j with
      | nil => simp at f2
      | cons d0 ds ih =>
        obtain ⟨v, r', T1, T2, rfl, m1, m2, _, m5, m6⟩ := h3
        cases j with
        | zero =>
          cases f2
          exact ⟨v, rfl, m5.up (Le.refl _) (fun _ _ => rfl) m1⟩
        | succ j => exact ih j r' (m6.up (Le.refl _) (fun _ _ => rfl) m2) (by simpa using f2)
    exact ⟨dd, _, u, h1, o.le _ _ h2, fdIx_lookup f1 k1, r.ok o u noAd ⟨k2.pureH, Tmp.none⟩ fun _ z => z.elim⟩
theorem c_xis {i : Nat} {n y : Str} {yes no : List Nat} {p p1 p2 pos : Pos} (hx : XOk g c X) (hh : c.hot = true) (hi : c.xi = some i) (hN : c.N[i]? = some n) (hv : visB c n = true) (hn : (n == ("__debug__" : Str)) = false) (hn2 : (n == ("__classdict__" : Str)) = false)
    (hg : glB c "isinstance" = true) (hb : g.blt.contains "isinstance" = true) (hy : glB c y = true) (hyd : (y == ("__debug__" : Str)) = false)
    (hk : ∀ k b, ((k ∈ yes ∧ b = true) ∨ (k ∈ no ∧ b = false)) → ExcC g.K (g.CA k) ∧ ∃ (v : V) (cv : Value), (g.mg y = some cv ∨ (g.mg y = none ∧ bootBuiltins y = some cv ∧ y ≠ "__name__")) ∧ RelV v cv ∧ (∀ u, RelV v u → u = cv) ∧ PySem.W.kitOne g.K (.ref (g.CA k)) cv = some b)
    (hcf : ∀ x, g.CA.ex = some x → ∀ d o, cf xN [] = .ok d o → d = .int (x.c : Nat)) :
    PE X (.Call (.Name "isinstance" p) [.Name n p1, .Name y p2] [] pos) (tE g W [] (evE cf (.xis i y yes no))) := by
  obtain ⟨x, ex⟩ := hx.hotx hh
  obtain ⟨e1, e2, X0, oe, pn, eX, hz, hfl⟩ := hx.exn x ex
  have hK := hx.K
  have hm := hx.mg
  have pv : PE X (.Name n p1) (tVar i) := pe_var (by rw [hx.N]; exact hN) (hx.vis hv) hn hn2
  have key : ∀ b, ((x.c ∈ yes ∧ b = true) ∨ (x.c ∈ no ∧ b = false)) → PE X (.Call (.Name "isinstance" p) [.Name n p1, .Name y p2] [] pos) (fun σ H Q => tVar i σ H fun u H1 => u = .ref x.a ∧ (∀ dd, x.d = some dd → ∃ fs, H1 dd = some (.xd fs)) ∧ Q (.bl b) H1) := fun b hb' => by
    obtain ⟨T, v, cv, hm', rv, uq, kt⟩ := hk x.c b hb'
    have py : PE X (.Name y p2) (tC v) := by
      rcases hm' with h1 | ⟨h1, h2, h3⟩
      · exact pe_glob (hx.gl hy) (by rw [hm]; exact h1) rv hyd
      · exact pe_bltn (hx.gl hy) (by rw [hm]; exact h1) h2 rv h3 hyd
    have gl := hx.gl hg
    have nb := hx.no hb
    subst eX
    have K0 : X0.K = g.K := hK
    have cr := call_isX (X := X0) (a := x.a) (C := g.CA x.c) (oe := oe) (d := x.d) (pn := pn) (v := v) (cv := cv) (b := b) (by rw [K0]; exact T) hz hfl uq (by rw [K0]; exact kt)
    refine pe_is (pe_callB (p := p) (pos := pos) cr gl nb (by decide +kernel) (pa_cons pv (pa_cons py pa_nil) rfl) (by decide +kernel) (by decide +kernel) rfl rfl) fun σ H Q q => ?_
    obtain ⟨u, h1, h2, h3, h4⟩ := q
    subst h2
    exact ⟨_, h1, rfl, h3, h4⟩
  by_cases hy1 : x.c ∈ yes
  · refine pe_is (key true (.inl ⟨hy1, rfl⟩)) fun σ H Q q => ?_
    obtain ⟨w, rfl, o, r⟩ := q
    have xs := o.xs x ex
    refine ⟨_, xs.1 i (e1.trans hi), rfl, fun dd e => (ex_dict xs dd e).imp fun fs h => o.le _ _ h, ?_⟩
    rw [evE] at r
    split at r
    case h_2 => exact r.elim
    rename_i c' o' hd
    have := hcf x ex _ _ hd
    cases this
    rw [if_pos (by simpa using hy1)] at r
    exact r.ok o (.bl true) noAd ⟨rfl, Tmp.none⟩ fun _ z => z.elim
  · by_cases hn1 : x.c ∈ no
    · refine pe_is (key false (.inr ⟨hn1, rfl⟩)) fun σ H Q q => ?_
      obtain ⟨w, rfl, o, r⟩ := q
      have xs := o.xs x ex
      refine ⟨_, xs.1 i (e1.trans hi), rfl, fun dd e => (ex_dict xs dd e).imp fun fs h => o.le _ _ h, ?_⟩
      rw [evE] at r
      split at r
      case h_2 => exact r.elim
      rename_i c' o' hd
      have := hcf x ex _ _ hd
      cases this
      rw [if_neg (by simpa using hy1), if_pos (by simpa using hn1)] at r
      exact r.ok o (.bl false) noAd ⟨rfl, Tmp.none⟩ fun _ z => z.elim
    · refine ⟨fun pins s σ H Q I q => ?_⟩
      obtain ⟨w, rfl, o, r⟩ := q
      rw [evE] at r
      split at r
      case h_2 => exact r.elim
      rename_i c' o' hd
      have := hcf x ex _ _ hd
      cases this
      rw [if_neg (by simpa using hy1), if_neg (by simpa using hn1)] at r
      exact r.elim
/-! ### from one exception in hand to another -/
theorem Own.to {K : PySem.W.Frag} {CA CB : Cls} (hf : CA.f = CB.f) {σ σ' : L2.St} {w : Wd} {S' : Nat → Ad} {env' : Env} {F' : Hp} (o : Own K CA σ w) (hS : ∀ j a, S' j a → w.S j a) (he : ∀ j d, slot env' j = some d → slot w.env j = some d ∧ σ'[j]? = σ[j]? ∧ S' j = w.S j) (hl : env'.length = σ'.length) (f1 : Le w.F F') (f2 : Le F' w.H)
    (nF : ∀ j a, S' j a → F' a = none) (hx : Xs K CB σ' F') : Own K CB σ' ⟨F', w.H, S', env'⟩ where
  le := f2
  rep := fun i d h => by
    obtain ⟨h1, h2, h3⟩ := he i d h
    obtain ⟨v, k1, k2⟩ := o.rep i d h1
    refine ⟨v, h2.trans k1, ?_⟩
    show Rep K CB F' w.H d v (S' i)
    rw [h3]
    exact Rep.ca hf (k2.up f1 (fun _ _ => rfl) fun _ z => z)
  trk := fun i a h => ⟨(o.trk i a (hS i a h)).1, nF i a h⟩
  dis := fun i j a hij h1 h2 => o.dis i j a hij (hS i a h1) (hS j a h2)
  len := hl
  xs := hx
open Classical in
noncomputable def offW (i : Option Nat) (F : Hp) (w : Wd) (env : Env) : Wd := ⟨F, w.H, fun j => if i = some j then noAd else w.S j, env⟩
theorem offW_S {i : Option Nat} {F : Hp} {w : Wd} {env : Env} {j : Nat} {a : Addr} (h : (offW i F w env).S j a) : i ≠ some j ∧ w.S j a := by
  by_cases e : i = some j
  · rw [show (offW i F w env).S j = noAd from if_pos e] at h; exact h.elim
  · exact ⟨e, by rwa [show (offW i F w env).S j = w.S j from if_neg e] at h⟩
theorem offW_ne {i : Option Nat} {F : Hp} {w : Wd} {env : Env} {j : Nat} (e : i ≠ some j) : (offW i F w env).S j = w.S j := if_neg e
theorem clr_some {i : Option Nat} {env : Env} {j : Nat} {d : D} (h : slot (clr i.toList env) j = some d) : i ≠ some j ∧ slot env j = some d := by
  cases i with
  | none => exact ⟨(fun z => nomatch z), h⟩
  | some i =>
    by_cases e : j = i
    · subst e
      rw [show slot (clr (some j).toList env) j = none from clr_in List.mem_cons_self] at h
      cases h
    · exact ⟨fun z => e (Option.some.inj z).symm, by rwa [show slot (clr (some i).toList env) j = slot env j from clr_out (by simpa using e)] at h⟩
theorem clr_ne {i : Option Nat} {env : Env} {j : Nat} (h : i ≠ some j) : slot (clr i.toList env) j = slot env j := by
  cases i with
  | none => rfl
  | some i => exact clr_out (by simpa using fun e : j = i => h (by rw [e]))
def offS (σ : L2.St) : Option Nat → L2.St
  | none => σ
  | some i => σ.set i none
theorem offS_ne {σ : L2.St} {i : Option Nat} {j : Nat} (h : i ≠ some j) : (offS σ i)[j]? = σ[j]? := by
  cases i with
  | none => rfl
  | some i => exact List.getElem?_set_ne fun e => h (by rw [e])
theorem onE_ne {σ : L2.St} {a : Addr} {i : Option Nat} {j : Nat} (h : i ≠ some j) : (onE σ a i)[j]? = σ[j]? := by
  cases i with
  | none => rfl
  | some i => exact List.getElem?_set_ne fun e => h (by rw [e])
theorem offS_len {σ : L2.St} {i : Option Nat} : (offS σ i).length = σ.length := by
  cases i with
  | none => rfl
  | some i => exact List.length_set
theorem onE_len {σ : L2.St} {a : Addr} {i : Option Nat} : (onE σ a i).length = σ.length := by
  cases i with
  | none => rfl
  | some i => exact List.length_set
inductive HsOk (g : G) (X : Cx) (cf : Nat → List D → CR) (mu ms : List Nat) : HL → List ExceptHandler → Prop
  | nil : HsOk g X cf mu ms .nil []
  | cons {x n' : Str} {cv : Value} {n : Option Str} {np p2 : Pos} {b₀ : Stmt} {su : List Stmt} {yes no : List Nat} {i : Option Nat} {b : B} {r : HL} {hds : List ExceptHandler} (nm : Names X x cv) (nz : NmZ X i n)
      (hy : ∀ k, k ∈ yes → PySem.W.exmOne g.K (.ref (g.CA k)) cv = some true) (hn : ∀ k, k ∈ no → PySem.W.exmOne g.K (.ref (g.CA k)) cv = some false)
      (hsu : ∀ (oe : Obj) (pn : List (Addr × Obj)) (y : Exn), y.i = i → y.c ∈ yes → Zc (.ref (g.CA y.c)) y.d oe → (∃ vs, oe.data = .fields vs) → PSs (X.suite y.a ((y.a, oe) :: pn)) (b₀ :: su) (tS (gx g y) WN mu ms (evB (cfx cf y.c y.ks y.fs) b)))
      (hi : ∀ j, i = some j → j ∈ mu ∧ j ∈ ms) (hr : HsOk g X cf mu ms r hds) : HsOk g X cf mu ms (.cons n' yes no i b r) (.ExceptHandler (some (.Name x np)) n (b₀ :: su) p2 :: hds)
/-- the suite's reading, from the statement's -/
theorem su_rd {mu ms : List Nat} (h0 : g.CA.ex = none) {i : Option Nat} {b : B} {ci : Nat} {ks : List Str} {fs : List D} {σ σ' : L2.St} {w w' : Wd} {dx : Option Addr} {En : Ends} {a : Addr} (hi : ∀ j, i = some j → j ∈ mu ∧ j ∈ ms) (hl : ∀ j, i = some j → j < w'.env.length) (o : Own g.K g.CA σ' w') (gr : Grow mu w w') (kp : Kp ms σ σ')
    (x : ExcAt g.K g.CA (Zone mu w) w' ks fs dx) (r : ResS g W mu ms σ w (match evB (cfx cf ci ks fs) b (clr i.toList w'.env) with | .ok f env' => R.ok f (clr i.toList env') | _ => .stuck) (eQ g mu w En)) :
    tS (gx g ⟨i, a, ci, dx, ks, fs⟩) WN mu ms (evB (cfx cf ci ks fs) b) (offE En i) (onE σ' a i) w'.H := by
  have tD : Tmp w' (fun p => dx = some p) ∧ ∀ p, dx = some p → Zone mu w p := by
    rcases x with ⟨_, _, e⟩ | ⟨p, vs, e, _, _, _, t, z⟩
    · exact ⟨fun p hp => absurd (e.symm.trans hp) (fun z => nomatch z), fun p hp => absurd (e.symm.trans hp) (fun z => nomatch z)⟩
    · exact ⟨fun q hq => Option.some.inj (e.symm.trans hq) ▸ t p rfl, fun q hq => Option.some.inj (e.symm.trans hq) ▸ z⟩
  obtain ⟨t, z⟩ := tD
  have hT : ∀ p, dx = some p → w'.F p = none := fun p hp => (t p hp).2.1
  have F1 : Le w'.F (frzF w'.F w'.H fun p => dx = some p) := frzF_le o.le hT
  have F2 : Le (frzF w'.F w'.H fun p => dx = some p) w'.H := frzF_le2 o.le
  have o2 : Own (gx g ⟨i, a, ci, dx, ks, fs⟩).K (gx g ⟨i, a, ci, dx, ks, fs⟩).CA (onE σ' a i) (offW i (frzF w'.F w'.H fun p => dx = some p) w' (clr i.toList w'.env)) := by
    refine Own.to (CA := g.CA) (CB := (gx g ⟨i, a, ci, dx, ks, fs⟩).CA) (S' := (offW i (frzF w'.F w'.H fun p => dx = some p) w' (clr i.toList w'.env)).S) rfl o (fun j a h => (offW_S h).2) (fun j d h => ?_) ?_ F1 F2 (fun j p h => ?_) fun y ey => ?_
    · obtain ⟨n1, h1⟩ := clr_some h
      exact ⟨h1, onE_ne n1, offW_ne n1⟩
    · rw [clr_len, onE_len]
      exact o.len
    · obtain ⟨_, h1⟩ := offW_S h
      rw [frzF_out (T := fun p => dx = some p) fun hp => (t p hp).2.2 j h1]
      exact (o.trk j p h1).2
    · cases ey
      refine ⟨fun j hj => ?_, ?_⟩
      · have hj : i = some j := hj
        subst hj
        exact List.getElem?_set_self (by rw [← o.len]; exact hl j rfl)
      · rcases x with x | ⟨p, vs, e, x1, x2, x3, _, _⟩
        · exact .inl ⟨x.1, x.2.1, x.2.2⟩
        · exact .inr ⟨p, vs, e, (frzF_in (T := fun p => dx = some p) e).trans x1, RepL.ca (CA := g.CA) (CB := (gx g ⟨i, a, ci, dx, ks, fs⟩).CA) rfl (x2.up F1 (fun _ z => z.elim) fun _ z => z), x3⟩
  have g2 : Grow mu w (offW i (frzF w'.F w'.H fun p => dx = some p) w' (clr i.toList w'.env)) :=
    ⟨gr.fle.trans F1, gr.keep, fun j hj => (offW_ne fun e => hj (hi j e).1).trans (gr.oth j hj), fun j hj => (clr_ne fun e => hj (hi j e).1).trans (gr.env j hj), clr_len.trans gr.len, fun j p h => gr.new j p (offW_S h).2, fun p h => by
      by_cases hp : dx = some p
      · exact .inr (z p hp)
      · rw [show (offW i (frzF w'.F w'.H fun p => dx = some p) w' (clr i.toList w'.env)).F p = w'.F p from frzF_out (T := fun p => dx = some p) hp] at h
        exact gr.newF p h⟩
  refine ⟨offW i (frzF w'.F w'.H fun p => dx = some p) w' (clr i.toList w'.env), rfl, o2, ?_⟩
  show ResS (gx g ⟨i, a, ci, dx, ks, fs⟩) WN mu ms (onE σ' a i) _ (evB (cfx cf ci ks fs) b (clr i.toList w'.env)) _
  cases e : evB (cfx cf ci ks fs) b (clr i.toList w'.env) with
  | stuck => rw [e] at r; exact r.elim
  | exc _ _ _ _ => rw [e] at r; exact r.elim
  | ok f env3 =>
    rw [e] at r
    intro σ3 w3 e3 o3 g3 k3
    subst e3
    have o4 : Own g.K g.CA (offS σ3 i) (offW i w3.F w3 (clr i.toList w3.env)) := by
      refine Own.to (CA := (gx g ⟨i, a, ci, dx, ks, fs⟩).CA) (CB := g.CA) (S' := (offW i w3.F w3 (clr i.toList w3.env)).S) rfl o3 (fun j a h => (offW_S h).2) (fun j d h => ?_) ?_ (Le.refl _) o3.le (fun j p h => (o3.trk j p (offW_S h).2).2) (Xs.cold h0)
      · obtain ⟨n1, h1⟩ := clr_some h
        exact ⟨h1, offS_ne n1, offW_ne n1⟩
      · rw [clr_len, offS_len]
        exact o3.len
    have g4 : Grow mu w (offW i w3.F w3 (clr i.toList w3.env)) :=
      (g2.trans g3).trans ⟨Le.refl _, fun _ _ _ => rfl, fun j hj => offW_ne fun e => hj (hi j e).1, fun j hj => clr_ne fun e => hj (hi j e).1, clr_len, fun j p h => .inl (offW_S h).2, fun p h => .inl h⟩
    have k4 : Kp ms σ (offS σ3 i) := fun j hj => (offS_ne fun e => hj (hi j e).2).trans ((k3 j hj).trans ((onE_ne fun e => hj (hi j e).2).trans (kp j hj)))
    have q := r (offS σ3 i) (offW i w3.F w3 (clr i.toList w3.env)) rfl o4 g4 k4
    cases f with
    | nx => cases i <;> exact q
    | bk => cases i <;> exact q
    | ct => cases i <;> exact q
    | rt d =>
      intro v T rv tv zv
      have := q v T (Rep.ca (CA := (gx g ⟨i, a, ci, dx, ks, fs⟩).CA) (CB := g.CA) rfl rv) (fun p hp => ⟨(tv p hp).1, (tv p hp).2.1, fun j h => (tv p hp).2.2 j (offW_S h).2⟩) fun p hp => g2.zone (zv p hp)
      cases i <;> exact this
theorem hs_ok {mu ms : List Nat} (h0 : g.CA.ex = none) (hK : X.K = g.K) : ∀ {hl : HL} {hds : List ExceptHandler}, HsOk g X cf mu ms hl hds → ∃ l, HdZ X hds l ∧ ∀ {σ σ' : L2.St} {w w' : Wd} {En : Ends} {ci : Nat} {ks : List Str} {fs : List D} {dx : Option Addr},
    Own g.K g.CA σ' w' → Grow mu w w' → Kp ms σ σ' → ExcAt g.K g.CA (Zone mu w) w' ks fs dx → ResS g W mu ms σ w (evH cf hl ci ks fs w'.env) (eQ g mu w En) → wZ X.K W En l (.ref (g.CA ci)) dx σ' w'.H
  | _, _, .nil => ⟨[], .nil, fun o gr kp x r => by
    rw [evH] at r
    exact r _ _ _ rfl o gr kp x⟩
  | _, _, .cons (cv := cv) (yes := yes) (no := no) (i := i) (b := b) nm nz hy hn hsu hi hr => by
    obtain ⟨l, h1, h2⟩ := hs_ok h0 hK hr
    refine ⟨(cv, i, fun a cls d D σ H => ∃ y : Exn, y.a = a ∧ y.i = i ∧ y.c ∈ yes ∧ cls = .ref (g.CA y.c) ∧ y.d = d ∧ tS (gx g y) WN mu ms (evB (cfx cf y.c y.ks y.fs) b) D σ H) :: l, .cons nm nz (fun a oe cls d pn hz hf => ⟨fun pins s σ H D I q => ?_⟩) h1, fun {σ σ' w w' En ci ks fs dx} o gr kp x r => ?_⟩
    · obtain ⟨y, rfl, y2, y3, rfl, rfl, q⟩ := q
      exact (hsu oe pn y y2 y3 hz hf).run pins s σ H D I q
    · rw [evH] at r
      by_cases c1 : ci ∈ yes
      · split at r
        case isFalse =>
          split at r
          · rename_i hno
            have e1 := hy ci c1
            rw [hn ci (by simpa using hno)] at e1
            cases e1
          · exact r.elim
        rename_i hc
        rw [Bool.and_eq_true] at hc
        have hl : ∀ j, i = some j → j < w'.env.length := fun j e => by
          subst e
          simpa using hc.2
        exact ⟨true, by rw [hK]; exact hy ci c1, fun _ a _ => ⟨⟨i, a, ci, dx, ks, fs⟩, rfl, rfl, c1, rfl, rfl, su_rd h0 hi hl o gr kp x r⟩, fun z => by cases z⟩
      · rw [if_neg (by rw [Bool.and_eq_true]; exact fun z => c1 (by simpa using z.1))] at r
        split at r
        · rename_i hno
          exact ⟨false, by rw [hK]; exact hn ci (by simpa using hno), fun z => (by cases z), fun _ => h2 o gr kp x r⟩
        · exact r.elim
theorem c_try {b : B} {hl : HL} {body : List Stmt} {h1 : ExceptHandler} {hds : List ExceptHandler} {pos : Pos} {mu ms : List Nat} (hx : XOk g c X) (hh : c.hot = false) (st : X.stack = X.env :: X.outer) (fr : X.env.frame = some X.env.locals) (tk : Takes X W)
    (hb : ∀ (W : WX) (pn : List (Addr × Obj)) (xe : Value → Shared → Prop), Takes (X.tr pn xe) W → PassesOwn (model X.prog X.w) X.A X.env xe → PSs (X.tr pn xe) body (tS g W mu ms (evB cf b)))
    (hk : HsOk g X cf mu ms hl (h1 :: hds)) : PS X (.Try body (h1 :: hds) [] [] pos) (tS g W mu ms (evS cf (.try_ b hl))) := by
  obtain ⟨l, hz, hw⟩ := hs_ok (W := W) (hx.cold hh) hx.K hk
  refine ps_is (ps_tryZ st fr (by rw [hx.N]; exact hx.nd) tk hb hz) fun D σ H q => ?_
  obtain ⟨w, rfl, o, r⟩ := q
  refine ⟨w, rfl, o, ?_⟩
  rw [evS] at r
  cases e : evB cf b w.env with
  | stuck => rw [e] at r; exact r.elim
  | ok f env => rw [e] at r; exact r
  | exc ci ks fs env =>
    rw [e] at r
    intro σ' w' dx e' o' gr kp x
    subst e'
    exact hw o' gr kp x r
end
end Z

/-! Z24: the check of expressions and what it gives. -/
namespace Z
open PySem L2 PySem.Spec PyProof.Rows
structure Sig where
  fn : List (Str × Nat)
  ar : Nat → Nat
  nf : Nat
  flds : List (Nat × Str)
  mts : List (Nat × Str × Nat)
  mks : List (Str × Nat × Nat)
  cs : List (Str × D)
  blt : List Str
  /-- exceptions that are raised: name, number, fields; names in clauses: does it take class c; fields that are asked; isinstance in suites -/
  xcs : List (Str × Nat × List Str) := []
  xnm : List (Str × Nat × Bool) := []
  xfl : List (Nat × Str) := []
  xis : List (Str × Nat × Bool) := []
/-- a name's value -/
def NmV (g : G) (x : Str) (cv : Value) : Prop := g.mg x = some cv ∨ (g.mg x = none ∧ bootBuiltins x = some cv ∧ x ≠ "__name__")
theorem NmV.uniq {g : G} {x : Str} {a b : Value} (h : NmV g x a) (k : NmV g x b) : a = b := by
  rcases h with h | ⟨h, h2, _⟩ <;> rcases k with k | ⟨k, k2, _⟩
  · rw [h] at k; cases k; rfl
  · rw [h] at k; cases k
  · rw [h] at k; cases k
  · rw [h2] at k2; cases k2; rfl
/-- what the text's exceptions say -/
structure XSig (g : G) (s : Sig) : Prop where
  xc : ∀ p ∈ s.xcs, XcOk g p.1 p.2.1 p.2.2
  xn : ∀ p ∈ s.xnm, ∃ cv, NmV g p.1 cv ∧ PySem.W.exmOne g.K (.ref (g.CA p.2.1)) cv = some p.2.2
  xf : ∀ p ∈ s.xfl, XfC g.K (g.CA p.1) ∧ PySem.W.findIn g.K (.ref (g.CA p.1)) p.2 = some none
  xs : ∀ p ∈ s.xis, ExcC g.K (g.CA p.2.1) ∧ ∃ (v : V) (cv : Value), NmV g p.1 cv ∧ RelV v cv ∧ (∀ u, RelV v u → u = cv) ∧ PySem.W.kitOne g.K (.ref (g.CA p.2.1)) cv = some p.2.2
structure SigOk (g : G) (k : Nat) (cf : Nat → List D → CR) (s : Sig) : Prop where
  fn : ∀ p ∈ s.fn, g.mg p.1 = some (.ref (g.FA p.2))
  ok : g.CA.ex = none → ∀ fi, fi < s.nf → FOk g k cf fi
  k1 : 1 ≤ k
  xg : XSig g s
  xv : ∀ x, g.CA.ex = some x → (∀ f d o, cf xN [.str f] = .ok d o → ∃ j, fdIx x.ks f = some j ∧ x.fs[j]? = some d) ∧ ∀ d o, cf xN [] = .ok d o → d = .int (x.c : Nat)
  ar : ∀ fi, fi < s.nf → (g.PN fi).length = s.ar fi
  flds : ∀ p ∈ s.flds, L2.Cls g.K (g.CA p.1) ∧ NoAttr g.K (g.CA p.1) p.2
  mts : ∀ p ∈ s.mts, L2.Cls g.K (g.CA p.1) ∧ Meth g.K (g.CA p.1) p.2.1 (g.FA p.2.2)
  mks : ∀ p ∈ s.mks, g.mg p.1 = some (.ref (g.CA p.2.1)) ∧ Mk g.K (g.CA p.2.1) (g.FA p.2.2)
  cs : ∀ p ∈ s.cs, ∃ v u, g.mg p.1 = some u ∧ RelV v u ∧ ∀ F H, Rep g.K g.CA F H p.2 v noAd
  blt : s.blt = g.blt
def flN : Fl → Nat
  | .own => 0
  | .frz => 1
  | .scr => 2
theorem flN_ok {a b : Fl} (h : (flN a == flN b) = true) : a = b := by
  cases a <;> cases b <;> first | rfl | cases h
mutual
def sameD : D → D → Bool
  | .non, .non => true
  | .bl a, .bl b => a == b
  | .int a, .int b => decide (a = b)
  | .str a, .str b => decide (a = b)
  | .tup a, .tup b => sameDs a b
  | .lst f a, .lst f' b => flN f == flN f' && sameDs a b
  | .ins f c ks a, .ins f' c' ks' b => flN f == flN f' && decide (c = c') && decide (ks = ks') && sameDs a b
  | _, _ => false
def sameDs : List D → List D → Bool
  | [], [] => true
  | a :: as, b :: bs => sameD a b && sameDs as bs
  | _, _ => false
end
mutual
theorem sameD_ok : ∀ {a b : D}, sameD a b = true → a = b
  | .non, b, h => by cases b <;> first | rfl | cases h
  | .bl a, b, h => by
    cases b <;> try (cases h; done)
    rw [eq_of_beq (show (a == _) = true from h)]
  | .int a, b, h => by
    cases b <;> try (cases h; done)
    rw [of_decide_eq_true (show decide (a = _) = true from h)]
  | .str a, b, h => by
    cases b <;> try (cases h; done)
    rw [of_decide_eq_true (show decide (a = _) = true from h)]
  | .tup a, b, h => by
    cases b <;> try (cases h; done)
    rename_i b
    rw [sameDs_ok (show sameDs a b = true from h)]
  | .lst f a, b, h => by
    cases b <;> try (cases h; done)
    rename_i f' b
    have h : (flN f == flN f' && sameDs a b) = true := h
    rw [Bool.and_eq_true] at h
    rw [flN_ok h.1, sameDs_ok h.2]
  | .ins f c ks a, b, h => by
    cases b <;> try (cases h; done)
    rename_i f' c' ks' b
    have h : (flN f == flN f' && decide (c = c') && decide (ks = ks') && sameDs a b) = true := h
    rw [Bool.and_eq_true, Bool.and_eq_true, Bool.and_eq_true] at h
    rw [flN_ok h.1.1.1, of_decide_eq_true h.1.1.2, of_decide_eq_true h.1.2, sameDs_ok h.2]
theorem sameDs_ok : ∀ {a b : List D}, sameDs a b = true → a = b
  | [], b, h => by cases b <;> first | rfl | cases h
  | a :: as, b, h => by
    cases b <;> try (cases h; done)
    rename_i b bs
    have h : (sameD a b && sameDs as bs) = true := h
    rw [Bool.and_eq_true] at h
    rw [sameD_ok h.1, sameDs_ok h.2]
end
/-! ### what is changed -/
mutual
def muP : P → List Nat
  | .v _ => []
  | .fd p _ _ => muP p
  | .ix p e => muP p ++ muE e
def muE : E → List Nat
  | .c _ => []
  | .g _ _ => []
  | .rd _ => []
  | .fz p => [rootP p]
  | .mv i => [i]
  | .pk _ => []
  | .pr _ as => muA as
  | .lst as => muA as
  | .tup as => muA as
  | .cond t a b => muT t ++ (muE a ++ muE b)
  | .andV a b => muE a ++ muE b
  | .orV a b => muE a ++ muE b
  | .notV a => muE a
  | .chn _ _ a b c => muE a ++ (muE b ++ muE c)
  | .mt _ p as => rootP p :: muA as
  | .call _ as => muA as ++ refA as
  | .meth _ _ _ r as => (muE r ++ muA as) ++ (refE r ++ refA as)
  | .new _ _ as => muA as ++ refA as
  | .lc _ e _ it t => muI it ++ (muT t ++ muE e)
  | .xf _ _ => []
  | .xis _ _ _ _ => []
  | .ded => []
  | .frz e => muE e
def muA : A → List Nat
  | .nil => []
  | .cons e r => muE e ++ muA r
def muT : T → List Nat
  | .val e => muE e
  | .and a b => muT a ++ muT b
  | .or a b => muT a ++ muT b
  | .not a => muT a
  | .yes => []
def muI : I → List Nat
  | .lst e => muE e
  | .tup e => muE e
  | .str e => muE e
  | .rng1 e => muE e
  | .rng2 a b => muE a ++ muE b
  | .rngD a b d => muE a ++ (muE b ++ muE d)
  | .enm e => muE e
  | .zip a b => muE a ++ muE b
  | .zipT a b => muE a ++ muE b
end
def out (l m : List Nat) : Bool := l.all fun i => !m.contains i
theorem out_ok {l m : List Nat} (h : out l m = true) : ∀ i, i ∈ l → i ∉ m := fun i hi hm => by
  have := List.all_eq_true.mp h i hi
  simp [hm] at this
def inn (l m : List Nat) : Bool := l.all fun i => m.contains i
theorem inn_ok {l m : List Nat} (h : inn l m = true) : ∀ i, i ∈ l → i ∈ m := fun i hi => by
  have := List.all_eq_true.mp h i hi
  simpa using this
def notDbg (x : Str) : Bool := !(x == ("__debug__" : Str))
def nmOk (x : Str) : Bool := notDbg x && !(x == ("__classdict__" : Str))
def ckV (c : Cxt) (i : Nat) : Expr → Bool
  | .Name x _ => decide (c.N[i]? = some x) && visB c x && nmOk x
  | _ => false
def ckC : D → Expr → Bool
  | .non, .Constant .none _ _ => true
  | .bl b, .Constant (.bool b') _ _ => b == b'
  | .int b, .Constant (.int b') _ _ => decide (b = b')
  | .str b, .Constant (.str b') _ _ => decide (b = b')
  | _, _ => false
/-- what stands behind the first of and / or -/
def tl (op : BoolOp) (y : Expr) (r : List Expr) (pos : Pos) : Expr := match r with
  | [] => y
  | _ :: _ => .BoolOp op (y :: r) pos
def ownN (c : Cxt) (own : List Nat) : List (Str × Nat) := own.map fun i => ((c.N[i]?).getD Str.empty, i)
theorem ownN_snd (c : Cxt) : ∀ own : List Nat, (ownN c own).map (·.2) = own
  | [] => rfl
  | i :: r => congrArg (i :: ·) (ownN_snd c r)
def isTup : Expr → Bool
  | .Tuple _ _ _ => true
  | _ => false
mutual
def ckP (s : Sig) : P → Cxt → Expr → Bool
  | .v i, c, x => ckV c i x
  | .fd p cl f, c, x => match x with
    | .Attribute o a _ => decide (f = a) && ckP s p c o && s.flds.contains (cl, f) && mtBase o
    | _ => false
  | .ix p e, c, x => match x with
    | .Subscript o k _ => ckP s p c o && ckE s e c k && (muE e).isEmpty && !isSlice k
    | _ => false
def ckE (s : Sig) : E → Cxt → Expr → Bool
  | .c d, _, x => ckC d x
  | .g y d, c, x => match x with
    | .Name z _ => decide (y = z) && s.cs.any (fun p => decide (p.1 = y) && sameD p.2 d) && glB c y && notDbg y
    | _ => false
  | .rd p, c, x => ckP s p c x
  | .fz p, c, x => ckP s p c x
  | .pk p, c, x => ckP s p c x
  | .mv i, c, x => ckV c i x
  | .pr op as, c, x => match prCk c s.blt op x with
    | some es => ckA s as c es
    | none => false
  | .lst as, c, x => match x with
    | .List es _ => ckA s as c es && es.all noStar
    | _ => false
  | .tup as, c, x => match x with
    | .Tuple es _ _ => ckA s as c es && es.all noStar
    | _ => false
  | .cond t a b, c, x => match x with
    | .IfExp x y z _ => ckT s t c x && ckE s a c y && ckE s b c z
    | _ => false
  | .andV a b, c, x => match x with
    | .BoolOp .And (x :: y :: r) pos => ckE s a c x && ckE s b c (tl .And y r pos)
    | _ => false
  | .orV a b, c, x => match x with
    | .BoolOp .Or (x :: y :: r) pos => ckE s a c x && ckE s b c (tl .Or y r pos)
    | _ => false
  | .notV a, c, x => match x with
    | .UnaryOp .Not x _ => ckE s a c x
    | _ => false
  | .chn op op2 a b d, c, x => match x with
    | .Compare x [o, o2] [y, z] _ => decide (copOf op = some o) && decide (copOf op2 = some o2) && !(lastMarks [o, o2] [y, z]) && ckE s a c x && ckE s b c y && ckE s d c z
    | _ => false
  | .mt op p as, c, x => match x with
    | .Call (.Attribute o m apos) es [] cpos => decide (m = mtName op) && ckP s p c o && ckA s as c es && es.all noStar && decide (mtAr op = some es.length) && mtBase o && (apos.endLine == cpos.line) && out (deepE (.pk p)) (muA as)
    | _ => false
  | .call f as, c, x => match x with
    | .Call (.Name y _) es [] _ => !c.hot && s.fn.contains (y, f) && decide (f < s.nf) && glB c y && notDbg y && decide (lenA as = s.ar f) && ckA s as c es && es.all noStar
    | _ => false
  | .meth ci f m r as, c, x => match x with
    | .Call (.Attribute o y apos) es [] pos => !c.hot && decide (m = y) && s.mts.contains (ci, m, f) && decide (f < s.nf) && decide (lenA as + 1 = s.ar f) && ckE s r c o && ckA s as c es && es.all noStar && mtBase o && decide (es.length < 30) && (apos.endLine == pos.line) && out (deepE r) (muA as)
    | _ => false
  | .new ci f as, c, x => match x with
    | .Call (.Name y _) es [] _ => !c.hot && s.mks.contains (y, ci, f) && decide (f < s.nf) && glB c y && notDbg y && decide (lenA as + 1 = s.ar f) && ckA s as c es && es.all noStar
    | _ => false
  | .lc own e tg it t, c, x => match x with
    | .ListComp elt [⟨tgx, iter, ifs, 0⟩] scope _ => !c.hot && ckI s it c (muT t ++ muE e) tgx iter && blkC c.N c.sc scope (ownN c own) && ckG (blkX c scope) tg tgx && (match ifs with | [] => yesT t | [x] => ckT s t (blkX c scope) x | _ => false) && ckE s e (blkX c scope) elt && noSet iter && inn (tgS tg) own
    | _ => false
  | .xf i f, c, x => match x with
    | .Attribute (.Name n _) y _ => c.hot && decide (c.xi = some i) && decide (c.N[i]? = some n) && visB c n && nmOk n && decide (f = y) && c.xcs.all (fun k => s.xfl.contains (k, f))
    | _ => false
  | .xis i z yes no, c, x => match x with
    | .Call (.Name r _) [.Name n _, .Name y _] [] _ => c.hot && decide (c.xi = some i) && decide (c.N[i]? = some n) && visB c n && nmOk n && decide (r = "isinstance") && glB c "isinstance" && s.blt.contains "isinstance" && decide (z = y) && glB c y && notDbg y && yes.all (fun k => s.xis.contains (y, k, true)) && no.all (fun k => s.xis.contains (y, k, false))
    | _ => false
  | .ded, _, _ => true
  | .frz e, c, x => ckE s e c x
def ckA (s : Sig) : A → Cxt → List Expr → Bool
  | .nil, _, es => es.isEmpty
  | .cons e r, c, es => match es with
    | x :: xs => ckE s e c x && ckA s r c xs && out (deepE e) (muA r)
    | [] => false
def ckT (s : Sig) : T → Cxt → Expr → Bool
  | .yes, _, _ => false
  | .val e, c, x => ckE s e c x && (plainT x || (match e, x with
    | .pr _ _, .Compare _ _ _ _ => true
    | .chn _ _ _ _ _, _ => true
    | _, _ => false))
  | .and a b, c, x => match x with
    | .BoolOp .And (x :: y :: r) pos => ckT s a c x && ckT s b c (tl .And y r pos)
    | _ => false
  | .or a b, c, x => match x with
    | .BoolOp .Or (x :: y :: r) pos => ckT s a c x && ckT s b c (tl .Or y r pos)
    | _ => false
  | .not a, c, x => match x with
    | .UnaryOp .Not x _ => ckT s a c x
    | _ => false
def ckI (s : Sig) : I → Cxt → List Nat → Expr → Expr → Bool
  | .lst e, c, mb, _, x => ckE s e c x && out (refE e) mb
  | .tup e, c, _, _, x => ckE s e c x
  | .str e, c, _, _, x => ckE s e c x
  | .rng1 e, c, _, _, x => match x with
    | .Call (.Name r _) [x] [] _ => decide (r = "range") && glB c "range" && s.blt.contains "range" && noStar x && ckE s e c x
    | _ => false
  | .rng2 a b, c, _, _, x => match x with
    | .Call (.Name r _) [x, y] [] _ => decide (r = "range") && glB c "range" && s.blt.contains "range" && noStar x && noStar y && ckE s a c x && ckE s b c y
    | _ => false
  | .rngD a b d, c, _, _, x => match x with
    | .Call (.Name r _) [x, y, z] [] _ => decide (r = "range") && glB c "range" && s.blt.contains "range" && noStar x && noStar y && noStar z && ckE s a c x && ckE s b c y && ckE s d c z
    | _ => false
  | .enm e, c, mb, tg, x => match x with
    | .Call (.Name r _) [x] [] _ => isTup tg && decide (r = "enumerate") && glB c "enumerate" && s.blt.contains "enumerate" && noStar x && ckE s e c x && out (refE e) mb
    | _ => false
  | .zip a b, c, mb, tg, x => match x with
    | .Call (.Name r _) [x, y] [] _ => isTup tg && decide (r = "zip") && glB c "zip" && s.blt.contains "zip" && noStar x && noStar y && ckE s a c x && ckE s b c y && out (deepE a) (muE b) && out (refE a) mb && out (refE b) mb
    | _ => false
  | .zipT a b, c, mb, tg, x => match x with
    | .Call (.Name r _) [x, y] [] _ => isTup tg && decide (r = "zip") && glB c "zip" && s.blt.contains "zip" && noStar x && noStar y && ckE s a c x && ckE s b c y
    | _ => false
end
end Z

/-! Z25: what the check of expressions gives. -/
namespace Z
open PySem L2 PySem.Spec PyProof.Rows
section
variable {g : G} {cf : Nat → List D → CR} {k : Nat} {s : Sig}
theorem notDbg_ok {x : Str} (h : notDbg x = true) : (x == ("__debug__" : Str)) = false := by
  unfold notDbg at h
  rw [Bool.not_eq_true'] at h
  exact h
theorem nmOk_ok {x : Str} (h : nmOk x = true) : (x == ("__debug__" : Str)) = false ∧ (x == ("__classdict__" : Str)) = false := by
  unfold nmOk at h
  rw [Bool.and_eq_true] at h
  exact ⟨notDbg_ok h.1, by have := h.2; rw [Bool.not_eq_true'] at this; exact this⟩
theorem pe_tl {X : Cx} {op : BoolOp} {y : Expr} {r : List Expr} {pos : Pos} {t : TE} (h : PE X (tl op y r pos) t) : PE X (.BoolOp op (y :: r) pos) t := by
  cases r with
  | nil => exact pe_one h
  | cons _ _ => exact h
theorem pw_tlA {X : Cx} {y : Expr} {r : List Expr} {pos : Pos} {t : TT} (h : PT X (tl .And y r pos) t) : PW X (.BoolOp .And (y :: r) pos) t := by
  cases r with
  | nil => exact pw_and1 h
  | cons _ _ => exact pw_of h
theorem pw_tlO {X : Cx} {y : Expr} {r : List Expr} {pos : Pos} {t : TT} (h : PT X (tl .Or y r pos) t) : PW X (.BoolOp .Or (y :: r) pos) t := by
  cases r with
  | nil => exact pw_or1 h
  | cons _ _ => exact pw_of h
theorem attrBase' {o : Expr} {m : Str} {env : PySem.Env} (h : mtBase o = true) : attributeBase o m env (eval o env) = eval o env := attrBase h
theorem apl {l r : List Nat} : ∀ i, i ∈ l → i ∈ l ++ r := fun _ => List.mem_append_left _
theorem apr {l r : List Nat} : ∀ i, i ∈ r → i ∈ l ++ r := fun _ => List.mem_append_right _
theorem apm {l m r : List Nat} : ∀ i, i ∈ m → i ∈ l ++ (m ++ r) := fun _ h => List.mem_append_right _ (List.mem_append_left _ h)
theorem apz {l m r : List Nat} : ∀ i, i ∈ r → i ∈ l ++ (m ++ r) := fun _ h => List.mem_append_right _ (List.mem_append_right _ h)
mutual
theorem sP (S : SigOk g k cf s) : ∀ (p : P) {c : Cxt} {X : Cx} {W : WX} {x : Expr}, XOk g c X → (c.hot = false → Room (k + 1) X.A) → Takes X W → ckP s p c x = true → PE X x (tPg g W cf p)
  | .v i, c, X, W, x, hx, hr, tk, h => by
    rw [ckP] at h
    unfold ckV at h
    split at h
    case h_2 => cases h
    simp only [Bool.and_eq_true, decide_eq_true_eq] at h
    obtain ⟨⟨h1, h2⟩, h3⟩ := h
    obtain ⟨h4, h5⟩ := nmOk_ok h3
    exact c_pv hx h1 h2 h4 h5
  | .fd p cl f, c, X, W, x, hx, hr, tk, h => by
    rw [ckP.eq_def] at h
    dsimp only at h
    split at h
    case h_2 => cases h
    simp only [Bool.and_eq_true, decide_eq_true_eq, List.contains_iff_mem] at h
    obtain ⟨⟨⟨rfl, h1⟩, h2⟩, h3⟩ := h
    obtain ⟨h4, h5⟩ := S.flds _ h2
    exact c_pfd hx (sP S p hx hr tk h1) h4 h5 (attrBase' h3)
  | .ix p e, c, X, W, x, hx, hr, tk, h => by
    rw [ckP.eq_def] at h
    dsimp only at h
    split at h
    case h_2 => cases h
    simp only [Bool.and_eq_true, List.isEmpty_iff, Bool.not_eq_true'] at h
    obtain ⟨⟨⟨h1, h2⟩, h3⟩, h4⟩ := h
    have he := sE S e hx hr tk h2
    rw [h3] at he
    exact c_pix hx (sP S p hx hr tk h1) he h4
theorem sE (S : SigOk g k cf s) : ∀ (e : E) {c : Cxt} {X : Cx} {W : WX} {x : Expr}, XOk g c X → (c.hot = false → Room (k + 1) X.A) → Takes X W → ckE s e c x = true → PE X x (tE g W (muE e) (evE cf e))
  | .c d, c, X, W, x, hx, hr, tk, h => by
    rw [ckE] at h
    unfold ckC at h
    split at h
    · exact c_const pe_non fun _ _ => rfl
    · rw [eq_of_beq h]; exact c_const pe_bl fun _ _ => rfl
    · rw [of_decide_eq_true h]; exact c_const pe_int fun _ _ => rfl
    · rw [of_decide_eq_true h]; exact c_const pe_str fun _ _ => rfl
    · cases h
  | .g y d, c, X, W, x, hx, hr, tk, h => by
    rw [ckE.eq_def] at h
    dsimp only at h
    split at h
    case h_2 => cases h
    simp only [Bool.and_eq_true, decide_eq_true_eq, List.any_eq_true] at h
    obtain ⟨⟨⟨rfl, p, h1, h2, h3⟩, h4⟩, h5⟩ := h
    obtain ⟨v, u, k1, k2, k3⟩ := S.cs p h1
    rw [sameD_ok h3] at k3
    rw [h2, ← hx.mg] at k1
    exact c_const (pe_glob (hx.gl h4) k1 k2 (notDbg_ok h5)) k3
  | .rd p, c, X, W, x, hx, hr, tk, h => c_rd (sP S p hx hr tk (by rw [ckE] at h; exact h))
  | .fz p, c, X, W, x, hx, hr, tk, h => c_fz (sP S p hx hr tk (by rw [ckE] at h; exact h))
  | .pk p, c, X, W, x, hx, hr, tk, h => c_pk (sP S p hx hr tk (by rw [ckE] at h; exact h))
  | .mv i, c, X, W, x, hx, hr, tk, h => by
    rw [ckE] at h
    unfold ckV at h
    split at h
    case h_2 => cases h
    simp only [Bool.and_eq_true, decide_eq_true_eq] at h
    obtain ⟨⟨h1, h2⟩, h3⟩ := h
    obtain ⟨h4, h5⟩ := nmOk_ok h3
    exact c_mv hx h1 h2 h4 h5
  | .pr op as, c, X, W, x, hx, hr, tk, h => by
    rw [ckE.eq_def] at h
    dsimp only at h
    split at h
    case h_2 => cases h
    rename_i es he
    rw [S.blt] at he
    rw [muE]
    exact c_pr hx he (sA S as hx hr tk h)
  | .lst as, c, X, W, x, hx, hr, tk, h => by
    rw [ckE.eq_def] at h
    dsimp only at h
    split at h
    case h_2 => cases h
    rw [Bool.and_eq_true] at h
    rw [muE]
    exact c_lst (sA S as hx hr tk h.1) h.2
  | .tup as, c, X, W, x, hx, hr, tk, h => by
    rw [ckE.eq_def] at h
    dsimp only at h
    split at h
    case h_2 => cases h
    rw [Bool.and_eq_true] at h
    rw [muE]
    exact c_tup (sA S as hx hr tk h.1) h.2
  | .cond t a b, c, X, W, x, hx, hr, tk, h => by
    rw [ckE.eq_def] at h
    dsimp only at h
    split at h
    case h_2 => cases h
    rw [Bool.and_eq_true, Bool.and_eq_true] at h
    rw [muE]
    exact c_cond (sT S t hx hr tk h.1.1) (sE S a hx hr tk h.1.2) (sE S b hx hr tk h.2) apl apm apz
  | .andV a b, c, X, W, x, hx, hr, tk, h => by
    rw [ckE.eq_def] at h
    dsimp only at h
    split at h
    case h_2 => cases h
    rw [Bool.and_eq_true] at h
    rw [muE]
    exact c_and (sE S a hx hr tk h.1) (pe_tl (sE S b hx hr tk h.2)) apl apr
  | .orV a b, c, X, W, x, hx, hr, tk, h => by
    rw [ckE.eq_def] at h
    dsimp only at h
    split at h
    case h_2 => cases h
    rw [Bool.and_eq_true] at h
    rw [muE]
    exact c_or (sE S a hx hr tk h.1) (pe_tl (sE S b hx hr tk h.2)) apl apr
  | .notV a, c, X, W, x, hx, hr, tk, h => by
    rw [ckE.eq_def] at h
    dsimp only at h
    split at h
    case h_2 => cases h
    rw [muE]
    exact c_not (sE S a hx hr tk h)
  | .chn op op2 a b d, c, X, W, x, hx, hr, tk, h => by
    rw [ckE.eq_def] at h
    dsimp only at h
    split at h
    case h_2 => cases h
    simp only [Bool.and_eq_true, decide_eq_true_eq, Bool.not_eq_true'] at h
    obtain ⟨⟨⟨⟨⟨h1, h2⟩, h3⟩, h4⟩, h5⟩, h6⟩ := h
    rw [muE]
    exact c_chn hx h1 h2 h3 (sE S a hx hr tk h4) (sE S b hx hr tk h5) (sE S d hx hr tk h6) apl apm apz
  | .mt op p as, c, X, W, x, hx, hr, tk, h => by
    rw [ckE.eq_def] at h
    dsimp only at h
    split at h
    case h_2 => cases h
    simp only [Bool.and_eq_true, decide_eq_true_eq] at h
    obtain ⟨⟨⟨⟨⟨⟨⟨rfl, h1⟩, h2⟩, h3⟩, h4⟩, h5⟩, h6⟩, h7⟩ := h
    rw [muE]
    exact c_mt hx (sP S p hx hr tk h1) (sA S as hx hr tk h2) h3 h4 h5 h6 (out_ok h7) (fun _ => List.mem_cons_of_mem _) List.mem_cons_self
  | .call f as, c, X, W, x, hx, hr, tk, h => by
    rw [ckE.eq_def] at h
    dsimp only at h
    split at h
    case h_2 => cases h
    simp only [Bool.and_eq_true, decide_eq_true_eq, List.contains_iff_mem] at h
    obtain ⟨⟨⟨⟨⟨⟨⟨hh, h1⟩, h2⟩, h3⟩, h4⟩, h5⟩, h6⟩, h7⟩ := h
    rw [Bool.not_eq_true'] at hh
    rw [muE]
    exact c_call hx hh ((hr hh).mono (Nat.le_succ k)) tk (S.ok (hx.cold hh) f h2) h3 (S.fn _ h1) (notDbg_ok h4) (by rw [h5, S.ar f h2]) (sA S as hx hr tk h6) h7 apl apr
  | .meth ci f m r as, c, X, W, x, hx, hr, tk, h => by
    rw [ckE.eq_def] at h
    dsimp only at h
    split at h
    case h_2 => cases h
    simp only [Bool.and_eq_true, decide_eq_true_eq, List.contains_iff_mem] at h
    obtain ⟨⟨⟨⟨⟨⟨⟨⟨⟨⟨⟨hh, rfl⟩, k1⟩, k2⟩, k3⟩, k4⟩, k5⟩, k6⟩, k7⟩, k8⟩, k9⟩, k10⟩ := h
    rw [Bool.not_eq_true'] at hh
    obtain ⟨hC, hm⟩ := S.mts _ k1
    rw [muE]
    exact c_meth hx hh ((hr hh).mono (Nat.le_succ k)) tk (S.ok (hx.cold hh) f k2) hC hm (by rw [k3, S.ar f k2]) (sE S r hx hr tk k4) (sA S as hx hr tk k5) k6 k7 k8 k9 (out_ok k10)
      (fun j hj => List.mem_append_left _ (List.mem_append_left _ hj)) (fun j hj => List.mem_append_left _ (List.mem_append_right _ hj)) (fun j hj => List.mem_append_right _ (List.mem_append_left _ hj)) (fun j hj => List.mem_append_right _ (List.mem_append_right _ hj))
  | .new ci f as, c, X, W, x, hx, hr, tk, h => by
    rw [ckE.eq_def] at h
    dsimp only at h
    split at h
    case h_2 => cases h
    simp only [Bool.and_eq_true, decide_eq_true_eq, List.contains_iff_mem] at h
    obtain ⟨⟨⟨⟨⟨⟨⟨hh, k1⟩, k2⟩, k3⟩, k4⟩, k5⟩, k6⟩, k7⟩ := h
    rw [Bool.not_eq_true'] at hh
    obtain ⟨hg, hM⟩ := S.mks _ k1
    rw [muE]
    exact c_new hx hh (hr hh) tk (S.ok (hx.cold hh) f k2) hM k3 hg (notDbg_ok k4) (by rw [k5, S.ar f k2]) (sA S as hx hr tk k6) k7 apl apr
  | .lc own e tg it t, c, X, W, x, hx, hr, tk, h => by
    rw [ckE.eq_def] at h
    dsimp only at h
    split at h
    case h_2 => cases h
    simp only [Bool.and_eq_true] at h
    rename_i elt tgx iter ifs scope pos
    obtain ⟨⟨⟨⟨⟨⟨⟨hh, h1⟩, h2⟩, h3⟩, h4⟩, h5⟩, h6⟩, h7⟩ := h
    rw [Bool.not_eq_true'] at hh
    rw [muE]
    have ht : ∀ X', X'.A = X.A → XOk g (blkX c scope) X' → PTs X' ifs (tTs g WN (muT t) (evT cf t)) := fun X' hA hx' => by
      split at h4
      · cases t <;> try (cases h4; done)
        exact pts_yes
      · exact pts_one (sT S t hx' (fun _ => by rw [hA]; exact hr hh) takesN h4)
      · cases h4
    have := c_lc (pos := pos) (mu := muI it ++ (muT t ++ muE e)) (W := W) (mt := muT t) (me := muE e) hx hh (sI S it (mb := muT t ++ muE e) hx hr tk h1) h2 h3 ht (fun X' hA hx' => sE S e hx' (fun _ => by rw [hA]; exact hr hh) takesN h5) h6 (by rw [ownN_snd]; exact inn_ok h7) apl apm apz
    rw [ownN_snd] at this
    exact this
  | .xf i f, c, X, W, x, hx, hr, tk, h => by
    rw [ckE.eq_def] at h
    dsimp only at h
    split at h
    case h_2 => cases h
    simp only [Bool.and_eq_true, decide_eq_true_eq] at h
    obtain ⟨⟨⟨⟨⟨⟨hh, h1⟩, h2⟩, h3⟩, h4⟩, rfl⟩, h5⟩ := h
    obtain ⟨h6, h7⟩ := nmOk_ok h4
    rw [muE]
    exact c_xf hx hh h1 h2 h3 h6 h7 (fun k hk => S.xg.xf _ (by simpa using List.all_eq_true.mp h5 k hk)) fun y ey d o hd => (S.xv y ey).1 _ d o hd
  | .xis i z yes no, c, X, W, x, hx, hr, tk, h => by
    rw [ckE.eq_def] at h
    dsimp only at h
    split at h
    case h_2 => cases h
    simp only [Bool.and_eq_true, decide_eq_true_eq] at h
    obtain ⟨⟨⟨⟨⟨⟨⟨⟨⟨⟨⟨⟨hh, h1⟩, h2⟩, h3⟩, h4⟩, rfl⟩, h5⟩, h6⟩, rfl⟩, h7⟩, h8⟩, h9⟩, h10⟩ := h
    obtain ⟨n1, n2⟩ := nmOk_ok h4
    rw [muE]
    rw [S.blt] at h6
    exact c_xis hx hh h1 h2 h3 n1 n2 h5 h6 h7 (notDbg_ok h8) (fun k b hb => by
      have := S.xg.xs (z, k, b) (by
        rcases hb with ⟨h, rfl⟩ | ⟨h, rfl⟩
        · simpa using List.all_eq_true.mp h9 k h
        · simpa using List.all_eq_true.mp h10 k h)
      exact this) fun y ey d o hd => (S.xv y ey).2 d o hd
  | .ded, c, X, W, x, hx, hr, tk, h => ⟨fun pins s σ H Q I q => by
    obtain ⟨w, _, _, r⟩ := q
    rw [evE] at r
    exact r.elim⟩
  | .frz e, c, X, W, x, hx, hr, tk, h => by
    rw [ckE] at h
    rw [muE]
    exact c_frz (sE S e hx hr tk h)
theorem sA (S : SigOk g k cf s) : ∀ (as : A) {c : Cxt} {X : Cx} {W : WX} {es : List Expr}, XOk g c X → (c.hot = false → Room (k + 1) X.A) → Takes X W → ckA s as c es = true → ArgsRd g X W (muA as) (evA cf as) es
  | .nil, c, X, W, es, hx, hr, tk, h => by
    rw [ckA] at h
    rw [List.isEmpty_iff.mp h]
    exact args_nil
  | .cons e r, c, X, W, es, hx, hr, tk, h => by
    rw [ckA.eq_def] at h
    dsimp only at h
    split at h
    case h_2 => cases h
    simp only [Bool.and_eq_true] at h
    rw [muA]
    exact args_cons (sE S e hx hr tk h.1.1) (sA S r hx hr tk h.1.2) (out_ok h.2) apl apr
theorem sT (S : SigOk g k cf s) : ∀ (t : T) {c : Cxt} {X : Cx} {W : WX} {x : Expr}, XOk g c X → (c.hot = false → Room (k + 1) X.A) → Takes X W → ckT s t c x = true → PT X x (tTs g W (muT t) (evT cf t))
  | .yes, c, X, W, x, hx, hr, tk, h => by rw [ckT] at h; cases h
  | .val e, c, X, W, x, hx, hr, tk, h => by
    rw [ckT.eq_def] at h
    dsimp only at h
    rw [Bool.and_eq_true, Bool.or_eq_true] at h
    rw [muT]
    obtain ⟨h1, h2 | h2⟩ := h
    · exact t_plain (sE S e hx hr tk h1) h2
    · split at h2
      · rename_i op as a os bs pos
        rw [ckE.eq_def] at h1
        dsimp only at h1
        split at h1
        case h_2 => cases h1
        rename_i es he
        rw [S.blt] at he
        rw [muE]
        exact t_cmp hx he (sA S as hx hr tk h1)
      · rename_i op op2 a b d
        rw [ckE.eq_def] at h1
        dsimp only at h1
        split at h1
        case h_2 => cases h1
        simp only [Bool.and_eq_true, decide_eq_true_eq, Bool.not_eq_true'] at h1
        obtain ⟨⟨⟨⟨⟨h1, h2⟩, h3⟩, h4⟩, h5⟩, h6⟩ := h1
        rw [muE]
        exact t_chn hx h1 h2 h3 (sE S a hx hr tk h4) (sE S b hx hr tk h5) (sE S d hx hr tk h6) apl apm apz
      · cases h2
  | .and a b, c, X, W, x, hx, hr, tk, h => by
    rw [ckT.eq_def] at h
    dsimp only at h
    split at h
    case h_2 => cases h
    rw [Bool.and_eq_true] at h
    rw [muT]
    exact t_and (sT S a hx hr tk h.1) (pw_tlA (sT S b hx hr tk h.2)) apl apr
  | .or a b, c, X, W, x, hx, hr, tk, h => by
    rw [ckT.eq_def] at h
    dsimp only at h
    split at h
    case h_2 => cases h
    rw [Bool.and_eq_true] at h
    rw [muT]
    exact t_or (sT S a hx hr tk h.1) (pw_tlO (sT S b hx hr tk h.2)) apl apr
  | .not a, c, X, W, x, hx, hr, tk, h => by
    rw [ckT.eq_def] at h
    dsimp only at h
    split at h
    case h_2 => cases h
    rw [muT]
    exact t_not (sT S a hx hr tk h)
theorem sI (S : SigOk g k cf s) : ∀ (it : I) {mb : List Nat} {c : Cxt} {X : Cx} {W : WX} {tg x : Expr}, XOk g c X → (c.hot = false → Room (k + 1) X.A) → Takes X W → ckI s it c mb tg x = true → PI X tg x (tIt g W (muI it) mb (evI cf it))
  | .lst e, mb, c, X, W, tg, x, hx, hr, tk, h => by
    rw [ckI, Bool.and_eq_true] at h
    rw [muI]
    exact i_lst hx (sE S e hx hr tk h.1) (out_ok h.2)
  | .tup e, mb, c, X, W, tg, x, hx, hr, tk, h => by
    rw [ckI] at h
    rw [muI]
    exact i_tup hx (sE S e hx hr tk h)
  | .str e, mb, c, X, W, tg, x, hx, hr, tk, h => by
    rw [ckI] at h
    rw [muI]
    exact i_str (sE S e hx hr tk h)
  | .rng1 e, mb, c, X, W, tg, x, hx, hr, tk, h => by
    rw [ckI.eq_def] at h
    dsimp only at h
    split at h
    case h_2 => cases h
    simp only [Bool.and_eq_true, decide_eq_true_eq] at h
    obtain ⟨⟨⟨⟨rfl, h1⟩, h2⟩, h3⟩, h4⟩ := h
    rw [muI]
    rw [S.blt] at h2
    exact i_rng1 hx h1 h2 (sE S e hx hr tk h4) h3
  | .rng2 a b, mb, c, X, W, tg, x, hx, hr, tk, h => by
    rw [ckI.eq_def] at h
    dsimp only at h
    split at h
    case h_2 => cases h
    simp only [Bool.and_eq_true, decide_eq_true_eq] at h
    obtain ⟨⟨⟨⟨⟨⟨rfl, h1⟩, h2⟩, h3⟩, h4⟩, h5⟩, h6⟩ := h
    rw [muI]
    rw [S.blt] at h2
    exact i_rng2 hx h1 h2 (sE S a hx hr tk h5) (sE S b hx hr tk h6) h3 h4 apl apr
  | .rngD a b d, mb, c, X, W, tg, x, hx, hr, tk, h => by
    rw [ckI.eq_def] at h
    dsimp only at h
    split at h
    case h_2 => cases h
    simp only [Bool.and_eq_true, decide_eq_true_eq] at h
    obtain ⟨⟨⟨⟨⟨⟨⟨⟨rfl, h1⟩, h2⟩, h3⟩, h4⟩, h5⟩, h6⟩, h7⟩, h8⟩ := h
    rw [muI]
    rw [S.blt] at h2
    exact i_rngD hx h1 h2 (sE S a hx hr tk h6) (sE S b hx hr tk h7) (sE S d hx hr tk h8) h3 h4 h5 apl apm apz
  | .enm e, mb, c, X, W, tg, x, hx, hr, tk, h => by
    rw [ckI.eq_def] at h
    dsimp only at h
    split at h
    case h_2 => cases h
    simp only [Bool.and_eq_true, decide_eq_true_eq] at h
    obtain ⟨⟨⟨⟨⟨⟨h0, rfl⟩, h1⟩, h2⟩, h3⟩, h4⟩, h5⟩ := h
    rw [muI]
    rw [S.blt] at h2
    cases tg <;> try (cases h0; done)
    exact i_enum hx h1 h2 (sE S e hx hr tk h4) h3 (out_ok h5)
  | .zip a b, mb, c, X, W, tg, x, hx, hr, tk, h => by
    rw [ckI.eq_def] at h
    dsimp only at h
    split at h
    case h_2 => cases h
    simp only [Bool.and_eq_true, decide_eq_true_eq] at h
    obtain ⟨⟨⟨⟨⟨⟨⟨⟨⟨⟨h0, rfl⟩, h1⟩, h2⟩, h3⟩, h4⟩, h5⟩, h6⟩, h7⟩, h8⟩, h9⟩ := h
    rw [muI]
    rw [S.blt] at h2
    cases tg <;> try (cases h0; done)
    exact i_zip hx h1 h2 (sE S a hx hr tk h5) (sE S b hx hr tk h6) h3 h4 apl apr (out_ok h7) (out_ok h8) (out_ok h9)
  | .zipT a b, mb, c, X, W, tg, x, hx, hr, tk, h => by
    rw [ckI.eq_def] at h
    dsimp only at h
    split at h
    case h_2 => cases h
    simp only [Bool.and_eq_true, decide_eq_true_eq] at h
    obtain ⟨⟨⟨⟨⟨⟨⟨h0, rfl⟩, h1⟩, h2⟩, h3⟩, h4⟩, h5⟩, h6⟩ := h
    rw [muI]
    rw [S.blt] at h2
    cases tg <;> try (cases h0; done)
    exact i_zipT hx h1 h2 (sE S a hx hr tk h5) (sE S b hx hr tk h6) h3 h4 apl apr
end
end
end Z

/-! Z26: the check of statements and what it gives. -/
namespace Z
open PySem L2 PySem.Spec PyProof.Rows
mutual
def muS : S → List Nat
  | .asg tg e => tgS tg ++ muE e
  | .par i j a b => i :: j :: (muE a ++ muE b)
  | .stoI p k e => rootP p :: (muE e ++ muE k)
  | .stoF p _ _ e => rootP p :: muE e
  | .aug i _ e => i :: muE e
  | .augI p k _ e => rootP p :: (muE k ++ muE e)
  | .augF p _ _ _ e => rootP p :: muE e
  | .exp e => muE e
  | .iff t a b => muT t ++ (muB a ++ muB b)
  | .for tg it b => muI it ++ (tgS tg ++ muB b)
  | .whl t b => muT t ++ muB b
  | .ret e => muE e
  | .retN => []
  | .rse _ _ _ as => muA as
  | .try_ b h => muB b ++ muH h
  | .ded => []
  | .brk => []
  | .cnt => []
  | .pas => []
def muB : B → List Nat
  | .nil => []
  | .cons s r => muS s ++ muB r
def muH : HL → List Nat
  | .nil => []
  | .cons _ _ _ i b r => i.toList ++ (muB b ++ muH r)
end
mutual
/-- the slots that are stored to -/
def asS : S → List Nat
  | .asg tg _ => tgS tg
  | .par i j _ _ => [i, j]
  | .aug i _ _ => [i]
  | .iff _ a b => asB a ++ asB b
  | .for tg _ b => tgS tg ++ asB b
  | .whl _ b => asB b
  | .try_ b h => asB b ++ asH h
  | _ => []
def asB : B → List Nat
  | .nil => []
  | .cons s r => asS s ++ asB r
def asH : HL → List Nat
  | .nil => []
  | .cons _ _ _ i b r => i.toList ++ (asB b ++ asH r)
end
def notComp : Expr → Bool
  | .ListComp _ _ _ _ => false
  | .SetComp _ _ _ _ => false
  | .DictComp _ _ _ _ _ => false
  | _ => true
def plainAsg (y v : Expr) : Bool := notComp v && (match y, v with
  | .Name _ _, _ => true
  | .Tuple _ _ _, .Tuple _ _ _ => false
  | .Tuple _ _ _, _ => true
  | _, _ => false)
def isFun : ScopeKind → Bool
  | .function => true
  | _ => false
/-- a clause's name and its slot -/
def nmI (c : Cxt) : Option Nat → Option Str → Bool
  | none, none => true
  | some i, some n => decide (c.N[i]? = some n) && c.sc.names.lookup n == some .local
  | _, _ => false
mutual
def ckS (s : Sig) : S → Cxt → Stmt → Bool
  | .asg tg e, c, x => match x with
    | .Assign [y] v pos => (noTup tg || !c.hot) && ckG c tg y && ckE s e c v && (plainAsg y v || (match tg, e, y, v with
        | .nm i, .lc _ _ _ _ _, .Name n py, .ListComp _ [⟨_, _, _, 0⟩] scope pos => !c.hot && c.sc.names.lookup n == some .local && isFun c.sc.kind && (py.line == pos.line) && !(scope.names.any fun (m, k) => m == n && (k == .local || k == .cell))
        | _, _, _, _ => false))
    | _ => false
  | .par i j a b, c, z => match z with
    | .Assign [.Tuple [.Name x px, .Name y py] _ _] (.Tuple [xa, xb] _ _) _ => !c.hot && decide (c.N[i]? = some x) && decide (c.N[j]? = some y) && decide (i ≠ j) && c.sc.names.lookup x == some .local && c.sc.names.lookup y == some .local && isFun c.sc.kind && (py.line == px.line) && !(x == y) && noStar xa && noStar xb && !([xa, xb].all (foldedForSure 8)) && !([xa, xb].all (constantsAlone 8)) && ckE s a c xa && ckE s b c xb && out (deepE a) (muE b)
    | _ => false
  | .stoI p k e, c, x => match x with
    | .Assign [.Subscript o kx _] v _ => ckP s p c o && ckE s k c kx && ckE s e c v && (muE k).isEmpty && !isSlice kx && notComp v
    | _ => false
  | .stoF p ci f e, c, x => match x with
    | .Assign [.Attribute o y _] v _ => decide (f = y) && s.flds.contains (ci, f) && ckP s p c o && ckE s e c v && notComp v
    | _ => false
  | .aug i op e, c, x => match x with
    | .AugAssign (.Name y _) o v _ => nmB c i y && decide (augO op = some o) && ckE s e c v
    | _ => false
  | .augI p k op e, c, x => match x with
    | .AugAssign (.Subscript o kx _) o' v _ => decide (augO op = some o') && ckP s p c o && ckE s k c kx && ckE s e c v && (muE k).isEmpty && (muE e).isEmpty && !isSlice kx
    | _ => false
  | .augF p ci f op e, c, x => match x with
    | .AugAssign (.Attribute o y _) o' v _ => decide (f = y) && decide (augO op = some o') && s.flds.contains (ci, f) && ckP s p c o && ckE s e c v && (muE e).isEmpty
    | _ => false
  | .exp e, c, x => match x with
    | .Expr v _ => notComp v && ckE s e c v
    | _ => false
  | .iff t a b, c, x => match x with
    | .If v as bs _ => ckT s t c v && ckB s a c as && ckB s b c bs
    | _ => false
  | .for tg it b, c, x => match x with
    | .For tgx iter bs [] _ => !c.hot && ckI s it c (tgS tg ++ muB b) tgx iter && ckG c tg tgx && ckB s b c bs && noSet iter
    | _ => false
  | .whl t b, c, x => match x with
    | .While v bs [] _ => ckT s t c v && ckB s b c bs
    | _ => false
  | .ret e, c, x => match x with
    | .Return (some v) _ => ckE s e c v
    | _ => false
  | .retN, _, x => match x with
    | .Return none _ => true
    | _ => false
  | .rse n ci ks as, c, x => match x with
    | .Raise (some (.Call (.Name y _) es [] _)) none _ => !c.hot && decide (n = y) && s.xcs.contains (y, ci, ks) && glB c y && notDbg y && ckA s as c es && es.all noStar && decide (es.length = ks.length) && !ks.isEmpty && decide (ks.length < 900)
    | _ => false
  | .try_ b hl, c, x => match x with
    | .Try body (h :: hs) [] [] _ => !c.hot && ckB s b c body && ckH s hl c (h :: hs)
    | _ => false
  | .ded, _, _ => true
  | .brk, _, x => match x with
    | .Break _ => true
    | _ => false
  | .cnt, _, x => match x with
    | .Continue _ => true
    | _ => false
  | .pas, _, x => match x with
    | .Pass _ => true
    | .Expr (.Constant (.str _) _ _) _ => true
    | _ => false
def ckB (s : Sig) : B → Cxt → List Stmt → Bool
  | .nil, _, xs => xs.isEmpty
  | .cons st r, c, xs => match xs with
    | x :: xs => ckS s st c x && ckB s r c xs
    | [] => false
def ckH (s : Sig) : HL → Cxt → List ExceptHandler → Bool
  | .nil, _, hs => hs.isEmpty
  | .cons y yes no i b r, c, hs => match hs with
    | .ExceptHandler (some (.Name x _)) n (b₀ :: su) _ :: hs => decide (y = x) && glB c x && notDbg x && !yes.isEmpty && yes.all (fun k => s.xnm.contains (x, k, true)) && no.all (fun k => s.xnm.contains (x, k, false)) && nmI c i n && ckB s b { c with hot := true, xi := i, xcs := yes } (b₀ :: su) && ckH s r c hs
    | _ => false
end
section
variable {k : Nat} {s : Sig}
def FrOk (X : Cx) : Prop := X.stack = X.env :: X.outer ∧ X.env.frame = some X.env.locals
/-- what the text says, an exception in hand -/
theorem SigOk.gx {g : G} {cf : Nat → List D → CR} (S0 : SigOk g k cf s) (y : Exn) : SigOk (gx g y) k (cfx cf y.c y.ks y.fs) s where
  fn := S0.fn
  ok := fun h => nomatch h
  k1 := S0.k1
  xg := ⟨fun p hp => by
    obtain ⟨h1, h2, h3, h4⟩ := S0.xg.xc p hp
    exact ⟨h1, h2, h3, h4⟩, S0.xg.xn, S0.xg.xf, S0.xg.xs⟩
  xv := fun x ex => by
    cases ex
    refine ⟨fun f d o h => ?_, fun d o h => ?_⟩
    · unfold cfx at h
      rw [if_pos rfl] at h
      dsimp only at h
      split at h
      · cases h
        rename_i hd
        obtain ⟨j, h1, h2⟩ := Option.bind_eq_some_iff.mp hd
        exact ⟨j, h1, h2⟩
      · cases h
    · unfold cfx at h
      rw [if_pos rfl] at h
      cases h
      rfl
  ar := S0.ar
  flds := S0.flds
  mts := S0.mts
  mks := S0.mks
  cs := fun p hp => by
    obtain ⟨v, u, h1, h2, h3⟩ := S0.cs p hp
    exact ⟨v, u, h1, h2, fun F H => Rep.ca (CA := g.CA) (CB := (Z.gx g y).CA) rfl (h3 F H)⟩
  blt := S0.blt
theorem XOk.try_ {g : G} {c : Cxt} {X : Cx} (hx : XOk g c X) (hh : c.hot = false) (pn : List (Addr × Obj)) (xe : Value → Shared → Prop) : XOk g c (X.tr pn xe) :=
  ⟨hx.P, hx.w, hx.K, hx.mg, hx.base, hx.blt, hx.N, hx.nd, hx.sc, hx.fn, hx.calm, hx.cold, hx.hotx, fun x ex => (by rw [hx.cold hh] at ex; cases ex), hx.gd, hx.un, hx.hd⟩
theorem XOk.suite {g : G} {c : Cxt} {X : Cx} (hx : XOk g c X) {yes : List Nat} {y : Exn} {oe : Obj} {pn : List (Addr × Obj)} (hy : y.c ∈ yes) (hz : Zc (.ref (g.CA y.c)) y.d oe) (hf : ∃ vs, oe.data = .fields vs) :
    XOk (gx g y) { c with hot := true, xi := y.i, xcs := yes } (X.suite y.a ((y.a, oe) :: pn)) :=
  ⟨hx.P, hx.w, hx.K, hx.mg, hx.base, hx.blt, hx.N, hx.nd, hx.sc, hx.fn, fun z => (by cases z), fun z => (by cases z), fun _ => ⟨y, rfl⟩, fun x ex => by cases ex; exact ⟨rfl, hy, X, oe, pn, rfl, hz, hf⟩, hx.gd, hx.un, fun z => (by cases z)⟩
theorem sw_no {v : Expr} {t : Option Expr} {l : Nat} {env : PySem.Env} (h : notComp v = true) : swapsWith v t l env = pure false := by
  cases v <;> first | rfl | cases h
theorem app_l {a b m : List Nat} (h : ∀ j, j ∈ a ++ b → j ∈ m) : ∀ j, j ∈ a → j ∈ m := fun j hj => h j (List.mem_append_left _ hj)
theorem app_r {a b m : List Nat} (h : ∀ j, j ∈ a ++ b → j ∈ m) : ∀ j, j ∈ b → j ∈ m := fun j hj => h j (List.mem_append_right _ hj)
mutual
theorem sS : ∀ (st : S) {g : G} {cf : Nat → List D → CR} (S0 : SigOk g k cf s) {mu ms : List Nat} {c : Cxt} {X : Cx} {W : WX} {x : Stmt}, FrOk X → (∀ j, j ∈ muS st → j ∈ mu) → (∀ j, j ∈ asS st → j ∈ ms) → XOk g c X → (c.hot = false → Room (k + 1) X.A) → Takes X W → PassesOwn (model X.prog X.w) X.A X.env X.xe → ckS s st c x = true → PS X x (tS g W mu ms (evS cf st))
  | .asg tg e, g, cf, S0, mu, ms, c, X, W, x, fo, hm, ha, hx, hr, tk, hp, h => by
    rw [ckS.eq_def] at h
    dsimp only at h
    split at h
    case h_2 => cases h
    rename_i y v pos
    rw [muS] at hm
    simp only [Bool.and_eq_true] at h
    obtain ⟨⟨⟨h0, h1⟩, h2⟩, h3⟩ := h
    rw [Bool.or_eq_true, Bool.not_eq_true'] at h0
    rw [Bool.or_eq_true] at h3
    rcases h3 with h3 | h3
    · unfold plainAsg at h3
      rw [Bool.and_eq_true] at h3
      refine s_asg hx h0 (sE S0 e hx hr tk h2) h1 (sw_no h3.1) ?_ (app_r hm) (app_l hm) (by rw [asS] at ha; exact ha)
      have h4 := h3.2
      split at h4
      · rfl
      · cases h4
      · rename_i hh
        cases v <;> first | rfl | (exact absurd rfl (hh _ _ _))
      · cases h4
    · split at h3
      case h_2 => cases h3
      rename_i i own elt tg' it t n py eltx tgx iter ifs scope lpos
      simp only [Bool.and_eq_true, Bool.not_eq_true'] at h3
      obtain ⟨⟨⟨⟨hh, k1⟩, k2⟩, k3⟩, k4⟩ := h3
      rw [ckE.eq_def] at h2
      dsimp only at h2
      split at h2
      case h_2 => cases h2
      rename_i he
      cases he
      simp only [Bool.and_eq_true] at h2
      obtain ⟨⟨⟨⟨⟨⟨⟨_, l1⟩, l2⟩, l3⟩, l4⟩, l5⟩, l6⟩, l7⟩ := h2
      rw [ckG] at h1
      unfold nmB at h1
      simp only [Bool.and_eq_true, decide_eq_true_eq] at h1
      have ht : ∀ X', X'.A = X.A → XOk g (blkX c scope) X' → PTs X' ifs (tTs g WN (muT t) (evT cf t)) := fun X' hA hx' => by
        split at l4
        · cases t <;> try (cases l4; done)
          exact pts_yes
        · exact pts_one (sT S0 t hx' (fun _ => by rw [hA]; exact hr hh) takesN l4)
        · cases l4
      have kk : c.sc.kind = .function := by
        cases e : c.sc.kind <;> first | rfl | (rw [e] at k2; cases k2)
      have hm2 := app_r hm
      rw [muE] at hm2
      have := s_asgLc (spos := pos) (W := W) (mt := muT t) (me := muE elt) (mu := mu) (ms := ms) hx hh h1.1.1.2 (eq_of_beq k1) kk k3 k4 (sI S0 it (mb := muT t ++ muE elt) hx hr tk l1) l2 l3 ht (fun X' hA hx' => sE S0 elt hx' (fun _ => by rw [hA]; exact hr hh) takesN l5) l6 (by rw [ownN_snd]; exact inn_ok l7) (app_l hm2) (app_l (app_r hm2)) (app_r (app_r hm2)) (app_l hm i (by rw [tgS]; exact List.mem_cons_self)) (ha i (by rw [asS, tgS]; exact List.mem_cons_self))
      rw [ownN_snd] at this
      exact this
  | .par i j a b, g, cf, S0, mu, ms, c, X, W, x, fo, hm, ha, hx, hr, tk, hp, h => by
    rw [ckS.eq_def] at h
    dsimp only at h
    split at h
    case h_2 => cases h
    simp only [Bool.and_eq_true, decide_eq_true_eq, Bool.not_eq_true'] at h
    obtain ⟨⟨⟨⟨⟨⟨⟨⟨⟨⟨⟨⟨⟨⟨⟨hh, h1⟩, h2⟩, h3⟩, h4⟩, h5⟩, h6⟩, h7⟩, h8⟩, h9⟩, h10⟩, h11⟩, h12⟩, h13⟩, h14⟩, h15⟩ := h
    rw [muS] at hm
    rw [asS] at ha
    have kk : c.sc.kind = .function := by
      cases e : c.sc.kind <;> first | rfl | (rw [e] at h6; cases h6)
    have l1 := eq_of_beq h4
    have l2 := eq_of_beq h5
    exact s_par hx hh (sE S0 a hx hr tk h13) (sE S0 b hx hr tk h14) h9 h10 h1 h2 h3 l1 l2 (sw_two (by rw [hx.sc]; exact kk) (by rw [hx.sc]; exact l1) (by rw [hx.sc]; exact l2) h7 h8 h9 h10 h11 h12) (out_ok h15)
      (fun q hq => hm q (List.mem_cons_of_mem _ (List.mem_cons_of_mem _ (List.mem_append_left _ hq)))) (fun q hq => hm q (List.mem_cons_of_mem _ (List.mem_cons_of_mem _ (List.mem_append_right _ hq)))) (hm _ List.mem_cons_self) (hm _ (List.mem_cons_of_mem _ List.mem_cons_self)) (ha _ List.mem_cons_self) (ha _ (List.mem_cons_of_mem _ List.mem_cons_self))
  | .stoI p k e, g, cf, S0, mu, ms, c, X, W, x, fo, hm, ha, hx, hr, tk, hp, h => by
    rw [ckS.eq_def] at h
    dsimp only at h
    split at h
    case h_2 => cases h
    simp only [Bool.and_eq_true, List.isEmpty_iff, Bool.not_eq_true'] at h
    obtain ⟨⟨⟨⟨⟨h1, h2⟩, h3⟩, h4⟩, h5⟩, h6⟩ := h
    rw [muS] at hm
    have hk := sE S0 k hx hr tk h2
    rw [h4] at hk
    exact s_stoI hx (sE S0 e hx hr tk h3) (sP S0 p hx hr tk h1) hk h5 (sw_no h6) (fun j hj => hm j (List.mem_cons_of_mem _ (List.mem_append_left _ hj))) (hm _ List.mem_cons_self)
  | .stoF p ci f e, g, cf, S0, mu, ms, c, X, W, x, fo, hm, ha, hx, hr, tk, hp, h => by
    rw [ckS.eq_def] at h
    dsimp only at h
    split at h
    case h_2 => cases h
    simp only [Bool.and_eq_true, decide_eq_true_eq, List.contains_iff_mem] at h
    obtain ⟨⟨⟨⟨rfl, h1⟩, h2⟩, h3⟩, h4⟩ := h
    obtain ⟨hC, hn⟩ := S0.flds _ h1
    rw [muS] at hm
    exact s_stoF hx (sE S0 e hx hr tk h3) (sP S0 p hx hr tk h2) hC hn (sw_no h4) (fun j hj => hm j (List.mem_cons_of_mem _ hj)) (hm _ List.mem_cons_self)
  | .aug i op e, g, cf, S0, mu, ms, c, X, W, x, fo, hm, ha, hx, hr, tk, hp, h => by
    rw [ckS.eq_def] at h
    dsimp only at h
    split at h
    case h_2 => cases h
    simp only [Bool.and_eq_true, decide_eq_true_eq] at h
    rw [muS] at hm
    exact s_aug hx h.1.1 h.1.2 (sE S0 e hx hr tk h.2) (fun j hj => hm j (List.mem_cons_of_mem _ hj)) (hm i List.mem_cons_self) (ha i (by rw [asS]; exact List.mem_cons_self))
  | .augI p k op e, g, cf, S0, mu, ms, c, X, W, x, fo, hm, ha, hx, hr, tk, hp, h => by
    rw [ckS.eq_def] at h
    dsimp only at h
    split at h
    case h_2 => cases h
    simp only [Bool.and_eq_true, decide_eq_true_eq, List.isEmpty_iff, Bool.not_eq_true'] at h
    obtain ⟨⟨⟨⟨⟨⟨h1, h2⟩, h3⟩, h4⟩, h5⟩, h6⟩, h7⟩ := h
    rw [muS] at hm
    have hk := sE S0 k hx hr tk h3
    have he := sE S0 e hx hr tk h4
    rw [h5] at hk
    rw [h6] at he
    exact s_augI hx h1 (sP S0 p hx hr tk h2) hk he h7 (hm _ List.mem_cons_self)
  | .augF p ci f op e, g, cf, S0, mu, ms, c, X, W, x, fo, hm, ha, hx, hr, tk, hp, h => by
    rw [ckS.eq_def] at h
    dsimp only at h
    split at h
    case h_2 => cases h
    simp only [Bool.and_eq_true, decide_eq_true_eq, List.isEmpty_iff, List.contains_iff_mem] at h
    obtain ⟨⟨⟨⟨⟨rfl, h1⟩, h2⟩, h3⟩, h4⟩, h5⟩ := h
    obtain ⟨hC, hn⟩ := S0.flds _ h2
    rw [muS] at hm
    have he := sE S0 e hx hr tk h4
    rw [h5] at he
    exact s_augF hx h1 (sP S0 p hx hr tk h3) he hC hn (hm _ List.mem_cons_self)
  | .exp e, g, cf, S0, mu, ms, c, X, W, x, fo, hm, ha, hx, hr, tk, hp, h => by
    rw [ckS.eq_def] at h
    dsimp only at h
    split at h
    case h_2 => cases h
    rw [Bool.and_eq_true] at h
    rw [muS] at hm
    exact s_exp (sE S0 e hx hr tk h.2) hm (sw_no h.1)
  | .iff t a b, g, cf, S0, mu, ms, c, X, W, x, fo, hm, ha, hx, hr, tk, hp, h => by
    rw [ckS.eq_def] at h
    dsimp only at h
    split at h
    case h_2 => cases h
    rw [Bool.and_eq_true, Bool.and_eq_true] at h
    rw [muS] at hm
    rw [asS] at ha
    exact s_if (sT S0 t hx hr tk h.1.1) (sB a S0 fo (app_l (app_r hm)) (app_l ha) hx hr tk hp h.1.2) (sB b S0 fo (app_r (app_r hm)) (app_r ha) hx hr tk hp h.2) (app_l hm)
  | .for tg it b, g, cf, S0, mu, ms, c, X, W, x, fo, hm, ha, hx, hr, tk, hp, h => by
    rw [ckS.eq_def] at h
    dsimp only at h
    split at h
    case h_2 => cases h
    simp only [Bool.and_eq_true] at h
    obtain ⟨⟨⟨⟨hh, h1⟩, h2⟩, h3⟩, h4⟩ := h
    rw [Bool.not_eq_true'] at hh
    rw [muS] at hm
    rw [asS] at ha
    exact s_for hx hh hp (sI S0 it hx hr tk h1) h2 (sB b S0 (mu := tgS tg ++ muB b) (ms := asB b) fo (fun _ => List.mem_append_right _) (fun _ z => z) hx hr tk hp h3) (app_l hm) (app_r hm) (fun _ => List.mem_append_left _) (app_l ha) (app_r ha) (noSet_ok h4)
  | .whl t b, g, cf, S0, mu, ms, c, X, W, x, fo, hm, ha, hx, hr, tk, hp, h => by
    rw [ckS.eq_def] at h
    dsimp only at h
    split at h
    case h_2 => cases h
    rw [Bool.and_eq_true] at h
    rw [muS] at hm
    rw [asS] at ha
    exact s_whl hp (sT S0 t hx hr tk h.1) (sB b S0 fo (app_r hm) ha hx hr tk hp h.2) (app_l hm)
  | .ret e, g, cf, S0, mu, ms, c, X, W, x, fo, hm, ha, hx, hr, tk, hp, h => by
    rw [ckS.eq_def] at h
    dsimp only at h
    split at h
    case h_2 => cases h
    rw [muS] at hm
    exact s_ret (sE S0 e hx hr tk h) hm
  | .retN, g, cf, S0, mu, ms, c, X, W, x, fo, hm, ha, hx, hr, tk, hp, h => by
    rw [ckS.eq_def] at h
    dsimp only at h
    split at h
    case h_2 => cases h
    exact s_retN
  | .rse n ci ks as, g, cf, S0, mu, ms, c, X, W, x, fo, hm, ha, hx, hr, tk, hp, h => by
    rw [ckS.eq_def] at h
    dsimp only at h
    split at h
    case h_2 => cases h
    simp only [Bool.and_eq_true, decide_eq_true_eq, List.contains_iff_mem, Bool.not_eq_true'] at h
    obtain ⟨⟨⟨⟨⟨⟨⟨⟨⟨hh, rfl⟩, h1⟩, h2⟩, h3⟩, h4⟩, h5⟩, h6⟩, h7⟩, h8⟩ := h
    cases ks with
    | nil => cases h7
    | cons k0 ks =>
      rw [muS] at hm
      exact c_rse hx hh ((hr hh).mono (by have := S0.k1; omega)) tk (S0.xg.xc _ h1) h2 (notDbg_ok h3) (sA S0 as hx hr tk h4) h5 h6 (by rw [List.length_cons] at h8; omega) hm
  | .try_ b hl, g, cf, S0, mu, ms, c, X, W, x, fo, hm, ha, hx, hr, tk, hp, h => by
    rw [ckS.eq_def] at h
    dsimp only at h
    split at h
    case h_2 => cases h
    simp only [Bool.and_eq_true, Bool.not_eq_true'] at h
    obtain ⟨⟨hh, h1⟩, h2⟩ := h
    rw [muS] at hm
    rw [asS] at ha
    exact c_try hx hh fo.1 fo.2 tk (fun W pn xe tk2 hp2 => sB b S0 (X := X.tr pn xe) fo (app_l hm) (app_l ha) (hx.try_ hh pn xe) hr tk2 hp2 h1) (sH hl S0 fo (app_r hm) (app_r ha) hx h2)
  | .ded, g, cf, S0, mu, ms, c, X, W, x, fo, hm, ha, hx, hr, tk, hp, h => ⟨fun pins s σ H D I q => by
    obtain ⟨w, _, _, r⟩ := q
    rw [evS] at r
    exact r.elim⟩
  | .brk, g, cf, S0, mu, ms, c, X, W, x, fo, hm, ha, hx, hr, tk, hp, h => by
    rw [ckS.eq_def] at h
    dsimp only at h
    split at h
    case h_2 => cases h
    exact s_brk
  | .cnt, g, cf, S0, mu, ms, c, X, W, x, fo, hm, ha, hx, hr, tk, hp, h => by
    rw [ckS.eq_def] at h
    dsimp only at h
    split at h
    case h_2 => cases h
    exact s_cnt
  | .pas, g, cf, S0, mu, ms, c, X, W, x, fo, hm, ha, hx, hr, tk, hp, h => by
    rw [ckS.eq_def] at h
    dsimp only at h
    split at h
    · exact s_pas ps_pass
    · exact s_pas ps_doc
    · cases h
theorem sB : ∀ (b : B) {g : G} {cf : Nat → List D → CR} (S0 : SigOk g k cf s) {mu ms : List Nat} {c : Cxt} {X : Cx} {W : WX} {xs : List Stmt}, FrOk X → (∀ j, j ∈ muB b → j ∈ mu) → (∀ j, j ∈ asB b → j ∈ ms) → XOk g c X → (c.hot = false → Room (k + 1) X.A) → Takes X W → PassesOwn (model X.prog X.w) X.A X.env X.xe → ckB s b c xs = true → PSs X xs (tS g W mu ms (evB cf b))
  | .nil, g, cf, S0, mu, ms, c, X, W, xs, fo, hm, ha, hx, hr, tk, hp, h => by
    rw [ckB] at h
    rw [List.isEmpty_iff.mp h]
    exact s_nil
  | .cons st r, g, cf, S0, mu, ms, c, X, W, xs, fo, hm, ha, hx, hr, tk, hp, h => by
    rw [ckB.eq_def] at h
    dsimp only at h
    split at h
    case h_2 => cases h
    rw [Bool.and_eq_true] at h
    rw [muB] at hm
    rw [asB] at ha
    exact s_cons (sS st S0 fo (app_l hm) (app_l ha) hx hr tk hp h.1) (sB r S0 fo (app_r hm) (app_r ha) hx hr tk hp h.2)
theorem sH : ∀ (hl : HL) {g : G} {cf : Nat → List D → CR} (S0 : SigOk g k cf s) {mu ms : List Nat} {c : Cxt} {X : Cx} {hs : List ExceptHandler}, FrOk X → (∀ j, j ∈ muH hl → j ∈ mu) → (∀ j, j ∈ asH hl → j ∈ ms) → XOk g c X → ckH s hl c hs = true → HsOk g X cf mu ms hl hs
  | .nil, g, cf, S0, mu, ms, c, X, hs, fo, hm, ha, hx, h => by
    rw [ckH] at h
    rw [List.isEmpty_iff.mp h]
    exact .nil
  | .cons y yes no i b r, g, cf, S0, mu, ms, c, X, hs, fo, hm, ha, hx, h => by
    rw [ckH.eq_def] at h
    dsimp only at h
    split at h
    case h_2 => cases h
    rename_i x np n b₀ su p2 hs
    simp only [Bool.and_eq_true, decide_eq_true_eq, Bool.not_eq_true'] at h
    obtain ⟨⟨⟨⟨⟨⟨⟨⟨rfl, h1⟩, h2⟩, h3⟩, h4⟩, h5⟩, h6⟩, h7⟩, h8⟩ := h
    rw [muH] at hm
    rw [asH] at ha
    have hy : ∀ k, k ∈ yes → ∃ cv, NmV g y cv ∧ PySem.W.exmOne g.K (.ref (g.CA k)) cv = some true := fun k hk => S0.xg.xn (y, k, true) (by simpa using List.all_eq_true.mp h4 k hk)
    have hn : ∀ k, k ∈ no → ∃ cv, NmV g y cv ∧ PySem.W.exmOne g.K (.ref (g.CA k)) cv = some false := fun k hk => S0.xg.xn (y, k, false) (by simpa using List.all_eq_true.mp h5 k hk)
    obtain ⟨cv, hv⟩ : ∃ cv, NmV g y cv := by
      cases yes with
      | nil => cases h3
      | cons k0 r0 =>
        obtain ⟨cv, hv, _⟩ := hy k0 List.mem_cons_self
        exact ⟨cv, hv⟩
    refine .cons (cv := cv) ⟨hx.gl h1, notDbg_ok h2, ?_⟩ ?_ (fun k hk => ?_) (fun k hk => ?_) (fun oe pn y2 e1 e2 hz hf => ?_) (fun j hj => ?_) (sH r S0 fo (app_r (app_r hm)) (app_r (app_r ha)) hx h8)
    · rw [hx.mg]
      exact hv
    · unfold nmI at h6
      split at h6
      · trivial
      · rw [Bool.and_eq_true] at h6
        refine ⟨by rw [hx.N]; exact of_decide_eq_true h6.1, ?_⟩
        show X.env.scope.names.lookup _ = _
        rw [hx.sc]
        exact eq_of_beq h6.2
      · cases h6
    · obtain ⟨c2, k1, k2⟩ := hy k hk
      rw [hv.uniq k1]
      exact k2
    · obtain ⟨c2, k1, k2⟩ := hn k hk
      rw [hv.uniq k1]
      exact k2
    · subst e1
      exact sB b (S0.gx y2) (X := X.suite y2.a ((y2.a, oe) :: pn)) fo (app_l (app_r hm)) (app_l (app_r ha)) (hx.suite e2 hz hf) (fun z => nomatch z) takesN PassesOwn.never h7
    · subst hj
      exact ⟨hm j (List.mem_append_left _ List.mem_cons_self), ha j (List.mem_append_left _ List.mem_cons_self)⟩
end
end
end Z

/-! Z27: a def by its body; the evaluator's promise. -/
namespace Z
open PySem L2 PySem.Spec PyProof.Rows
/-- a def (as HandS's own rule, with no repr under way) -/
theorem fnG_of {g : G} {k : Nat} {f : Addr} {fd : FuncData} {name qual : Str} {st : Stmt} {N ps : List Str} {sp : Sp} (F : Fun g.K name qual st f fd) (S : FnScope N ps (defScope st)) (len : ∀ vs H Q E, sp vs H Q E → vs.length = ps.length)
    (hbody : ∀ (cdv : Value) (A : Around) (outer : List PySem.Env) (s : Shared) (H : Hp) (vs : List V) (Q : VK) (E : XK), Room k (A.deeper (envOfC qual (defScope st) s.heap.objs.size f cdv)) → A.guards = some [] → sp vs H Q E →
      ∃ t, PSs (cxOf (L2.CX g.P g.w) g.P g.w g.K g.mg g.base N qual (defScope st) f cdv A outer s H E) (defBody st) t ∧ t { nx := fun _ H' => Q .non H', rt := Q } (start N vs) H) : FnG g (k + 1) f fd ps sp := by
  obtain ⟨oc, od, kV, doc, pm, an, cdv, ct, osl, rfl, lookF, codeK⟩ := F.ex
  refine ⟨len, fun A outer s H args us vs Q E room1 grd env0 bnds r prom => ?_⟩
  have lenV := len _ _ _ _ prom
  have inS : g.K.In s.heap := env0.mod.kin.keeps fun b o e => (env0.bs b o e).1
  have noLim : s.heap.NoLimit := env0.mod.nolimit.keeps fun b o e => (env0.bs b o e).1
  have kinds : ∀ y ∈ ps.zip us, (defScope st).names.lookup y.1 = some .local ∨ ((defScope st).names.lookup y.1 = some .cell ∧ ((cellsFrom (s.heap.objs.size + 1) (defScope st).names []).lookup y.1).isSome = true) := fun ⟨n, v⟩ hy => by
    rcases S.par n (List.of_mem_zip hy).1 with q | q
    · exact .inl q
    · exact .inr ⟨q, PySem.W.cellsFrom_some _ _ _ (.inl q)⟩
  refine codeAny_call_function room1.depth (inS _ _ lookF) rfl S.co S.gen rfl (PySem.W.codeRec_of inS codeK) (bnds _ _ _ _ ?_)
  refine wpAny_newFunctionEnv_cells S.kind kinds fun env he s1 x => ?_
  subst he
  refine ⟨noLim.keeps x.toInCall.keep, codeAny_func ?_⟩
  obtain ⟨t, rule1, rdg⟩ := hbody cdv A outer s H vs Q E (room1.deeper _) grd prom
  have I : Inv (cxOf (L2.CX g.P g.w) g.P g.w g.K g.mg g.base N qual (defScope st) f cdv A outer s H E) [] (start N vs) H s1 := inv_start S room1.hd env0 lenV r x
  refine wpAny_mono (rule1.run [] s1 (start N vs) H _ I rdg) (fun fl s' hs => ?_) fun e s' hs => hs
  have endOf : ∀ {σ' : L2.St} {H' : Hp} {v : V} {u : Value}, Inv (cxOf (L2.CX g.P g.w) g.P g.w g.K g.mg g.base N qual (defScope st) f cdv A outer s H E) [] σ' H' s' → RelV v u → Q v H' → CE outer g.P g.w H s Q u s' :=
    fun {σ' H' v u} J rv q => ⟨v, H', J.os, J.bare, J.base, J.hok, rv, q⟩
  cases fl with
  | ret u =>
    obtain ⟨v, σ', H', J, rv, q⟩ := hs
    exact endOf J rv q
  | next =>
    obtain ⟨σ', H', J, q⟩ := hs
    exact endOf (v := V.non) (u := Value.none) J rfl q
  | brk =>
    obtain ⟨_, _, _, q⟩ := hs
    exact False.elim q
  | cont =>
    obtain ⟨_, _, _, q⟩ := hs
    exact False.elim q
section
variable {K : PySem.W.Frag} {CA : Cls}
theorem outS_len : ∀ {ks : List Bool} {ds : List D} {env : Env} {os : List D}, outS ks ds env = some os → os.length = ds.length ∧ ks.length = ds.length
  | [], [], _, _, h => by rw [outS] at h; cases h; exact ⟨rfl, rfl⟩
  | k :: ks, d :: ds, [], _, h => by rw [outS] at h; cases h
  | k :: ks, d :: ds, x :: env, os, h => by
    rw [outS] at h
    obtain ⟨o, h1, h2⟩ := Option.bind_eq_some_iff.mp h
    obtain ⟨os', h3, h4⟩ := Option.map_eq_some_iff.mp h2
    subst h4
    obtain ⟨e1, e2⟩ := outS_len h3
    exact ⟨congrArg (· + 1) e1, congrArg (· + 1) e2⟩
  | [], _ :: _, _, _, h => by simp [outS] at h
  | _ :: _, [], _, _, h => by simp [outS] at h
theorem outS_at : ∀ {ks : List Bool} {ds : List D} {env : Env} {os : List D} {j : Nat} {o : D}, outS ks ds env = some os → os[j]? = some o → (ks[j]? = some true ∧ slot env j = some o) ∨ (ks[j]? = some false ∧ ds[j]? = some o ∧ pureD o = true)
  | [], [], _, _, j, o, h, e => by rw [outS] at h; cases h; simp at e
  | k :: ks, d :: ds, [], _, _, _, h, _ => by rw [outS] at h; cases h
  | k :: ks, d :: ds, x :: env, os, j, o, h, e => by
    rw [outS] at h
    obtain ⟨o1, h1, h2⟩ := Option.bind_eq_some_iff.mp h
    obtain ⟨os', h3, h4⟩ := Option.map_eq_some_iff.mp h2
    subst h4
    cases j with
    | zero =>
      cases (show o1 = o by simpa using e)
      cases k with
      | true => exact .inl ⟨rfl, h1⟩
      | false =>
        rw [if_neg (by decide)] at h1
        split at h1
        · cases h1; exact .inr ⟨rfl, rfl, by assumption⟩
        · cases h1
    | succ j => exact outS_at (j := j) h3 (by simpa using e)
  | [], _ :: _, _, _, _, _, h, _ => by simp [outS] at h
  | _ :: _, [], _, _, _, _, h, _ => by simp [outS] at h
open Classical in
/-- the world at a body's start; behind it -/
noncomputable def inW (np : Nat) (w : Wd) (env : Env) : Wd := ⟨w.F, w.H, fun j => if j < np then w.S j else noAd, env⟩
open Classical in
noncomputable def outW (np : Nat) (ks : List Bool) (w w' : Wd) (env : Env) : Wd := ⟨w'.F, w'.H, fun j => if j < np then (if ks[j]? = some true then w'.S j else noAd) else w.S j, env⟩
theorem slot_maps (ds : List D) (j : Nat) : slot (ds.map some) j = ds[j]? := by
  unfold slot
  rw [List.getElem?_map]
  cases ds[j]? <;> rfl
theorem inW_S {np : Nat} {w : Wd} {env : Env} {j : Nat} {a : Addr} (h : (inW np w env).S j a) : j < np ∧ w.S j a := by
  by_cases e : j < np
  · exact ⟨e, by rwa [show (inW np w env).S j = w.S j from if_pos e] at h⟩
  · rw [show (inW np w env).S j = noAd from if_neg e] at h; exact h.elim
theorem start_at {N : List Str} {vs : List V} {j : Nat} (h : j < vs.length) : (start N vs)[j]? = (vs.map some)[j]? := by
  unfold L2.start
  rw [List.getElem?_append_left (by rw [List.length_map]; exact h)]
theorem inW_own (h0 : CA.ex = none) {w : Wd} {ds : List D} {vs : List V} {N : List Str} (o : Own K CA (vs.map some) w) (he : w.env = ds.map some) (hN : vs.length ≤ N.length) :
    Own K CA (start N vs) (inW vs.length w (ds.map some ++ List.replicate (N.length - ds.length) none)) := by
  have hl : ds.length = vs.length := by
    have := o.len
    rw [he, List.length_map, List.length_map] at this
    exact this
  refine ⟨o.le, fun i d h => ?_, fun i a h => o.trk i a (inW_S h).2, fun i j a hij h1 h2 => o.dis i j a hij (inW_S h1).2 (inW_S h2).2, ?_, Xs.cold h0⟩
  · have hi : i < vs.length := by
      by_cases hi : i < vs.length
      · exact hi
      · have h : slot (ds.map some ++ List.replicate (N.length - ds.length) none) i = some d := h
        unfold slot at h
        rw [List.getElem?_append_right (by rw [List.length_map]; omega)] at h
        rw [List.getElem?_replicate] at h
        split at h <;> cases h
    have h : slot (ds.map some ++ List.replicate (N.length - ds.length) none) i = some d := h
    have e : slot (ds.map some ++ List.replicate (N.length - ds.length) none) i = slot w.env i := by
      rw [he]
      unfold slot
      rw [List.getElem?_append_left (by rw [List.length_map]; omega)]
    rw [e] at h
    obtain ⟨v, h1, h2⟩ := o.rep i d h
    refine ⟨v, (start_at hi).trans h1, ?_⟩
    rw [show (inW vs.length w _).S i = w.S i from if_pos hi]
    exact h2
  · show (ds.map some ++ List.replicate (N.length - ds.length) none).length = _
    unfold L2.start
    rw [List.length_append, List.length_append, List.length_map, List.length_map, List.length_replicate, List.length_replicate, hl]
/-- behind the body -/
theorem out_own (h0 : CA.ex = none) {w w' : Wd} {ds os : List D} {vs : List V} {N : List Str} {ks : List Bool} {mu ms : List Nat} {σ' : L2.St} {env0 : Env} (o : Own K CA (vs.map some) w) (he : w.env = ds.map some) (o' : Own K CA σ' w') (gr : Grow mu (inW vs.length w env0) w') (kp : Kp ms (start N vs) σ')
    (hk : ∀ j, ks[j]? = some true → j ∉ ms) (ho : outS ks ds w'.env = some os) :
    Own K CA (vs.map some) (outW vs.length ks w w' (os.map some)) ∧ Grow (List.range vs.length) w (outW vs.length ks w w' (os.map some)) ∧
      (∀ T, Tmp w' T → (∀ a, T a → Zone mu (inW vs.length w env0) a) → Tmp (outW vs.length ks w w' (os.map some)) T ∧ ∀ a, T a → Zone (List.range vs.length) w a) := by
  have hl : ds.length = vs.length := by
    have := o.len
    rw [he, List.length_map, List.length_map] at this
    exact this
  have lo := outS_len ho
  have inS : ∀ {j a}, (outW vs.length ks w w' (os.map some)).S j a → (j < vs.length ∧ ks[j]? = some true ∧ w'.S j a) ∨ (¬ j < vs.length ∧ w.S j a) := fun {j a} h => by
    by_cases e : j < vs.length
    · have h2 : (if ks[j]? = some true then w'.S j else noAd : Ad) a := by rwa [show (outW vs.length ks w w' (os.map some)).S j = _ from if_pos e] at h
      by_cases e2 : ks[j]? = some true
      · rw [if_pos e2] at h2; exact .inl ⟨e, e2, h2⟩
      · rw [if_neg e2] at h2; exact h2.elim
    · rw [show (outW vs.length ks w w' (os.map some)).S j = w.S j from if_neg e] at h
      exact .inr ⟨e, h⟩
  have zz : ∀ a, Zone mu (inW vs.length w env0) a → Zone (List.range vs.length) w a := fun a z => by
    rcases z with ⟨j, h1, h2⟩ | z
    · obtain ⟨k1, k2⟩ := inW_S h2
      exact .inl ⟨j, List.mem_range.mpr k1, k2⟩
    · exact .inr z
  have nz : ∀ {j a}, ¬ j < vs.length → w.S j a → Zone (List.range vs.length) w a → False := fun {j a} hj hs z => by
    rcases z with ⟨i, h1, h2⟩ | z
    · exact o.dis i j a (fun e => hj (e ▸ List.mem_range.mp h1)) h2 hs
    · exact (o.trk j a hs).1 z
  have kH : ∀ {j a}, ¬ j < vs.length → w.S j a → w'.H a = w.H a := fun {j a} hj hs => gr.keep a (o.trk j a hs).1 fun i _ hi => by
    obtain ⟨k1, k2⟩ := inW_S hi
    exact o.dis i j a (fun e => hj (e ▸ k1)) k2 hs
  have mix : ∀ {i j a}, ¬ j < vs.length → w.S j a → w'.S i a → i < vs.length → False := fun {i j a} hj hs h hi => by
    rcases gr.new i a h with z | z
    · exact o.dis i j a (fun e => hj (e ▸ hi)) (inW_S z).2 hs
    · exact nz hj hs (zz a z)
  refine ⟨⟨o'.le, fun j d h => ?_, fun j a h => ?_, fun i j a hij h1 h2 => ?_, ?_, Xs.cold h0⟩, ⟨gr.fle, fun a hn hk2 => ?_, fun j hj => ?_, fun j hj => ?_, ?_, fun j a h => ?_, fun a h => ?_⟩, fun T t z => ⟨fun a ha => ⟨(t a ha).1, (t a ha).2.1, fun j h => ?_⟩, fun a ha => zz a (z a ha)⟩⟩
  · have hj : os[j]? = some d := by rw [← slot_maps]; exact h
    have hjl : j < vs.length := by
      have := (List.getElem?_eq_some_iff.mp hj).1
      omega
    rcases outS_at ho hj with ⟨k1, k2⟩ | ⟨k1, k2, k3⟩
    · obtain ⟨v, h1, h2⟩ := o'.rep j d k2
      refine ⟨v, ?_, ?_⟩
      · rw [kp j (hk j k1), start_at hjl] at h1
        exact h1
      · have : (outW vs.length ks w w' (os.map some)).S j = w'.S j := by
          show (if j < vs.length then (if ks[j]? = some true then w'.S j else noAd) else w.S j : Ad) = _
          rw [if_pos hjl, if_pos k1]
        rw [this]
        exact h2
    · obtain ⟨v, h1, h2⟩ := o.rep j d (by rw [he, slot_maps]; exact k2)
      exact ⟨v, h1, ((h2.pure k3).up (H' := w'.F) gr.fle (fun _ z => z.elim) fun _ z => z).pureH⟩
  · rcases inS h with ⟨_, _, z⟩ | ⟨hj, z⟩
    · exact o'.trk j a z
    · refine ⟨by show w'.H a ≠ none; rw [kH hj z]; exact (o.trk j a z).1, ?_⟩
      show w'.F a = none
      by_cases q : w'.F a = none
      · exact q
      · rcases gr.newF a q with q | q
        · exact absurd (o.trk j a z).2 q
        · exact (nz hj z (zz a q)).elim
  · rcases inS h1 with ⟨a1, a2, a3⟩ | ⟨a1, a3⟩ <;> rcases inS h2 with ⟨b1, b2, b3⟩ | ⟨b1, b3⟩
    · exact o'.dis i j a hij a3 b3
    · exact mix b1 b3 a3 a1
    · exact mix a1 a3 b3 b1
    · exact o.dis i j a hij a3 b3
  · show (os.map some).length = (vs.map some).length
    rw [List.length_map, List.length_map, lo.1, hl]
  · exact gr.keep a hn fun i _ hi => hk2 i (List.mem_range.mpr (inW_S hi).1) (inW_S hi).2
  · exact if_neg fun h => hj (List.mem_range.mpr h)
  · have hj : ¬ j < vs.length := fun h => hj (List.mem_range.mpr h)
    rw [he]
    show slot (os.map some) j = _
    rw [slot_maps, slot_maps, List.getElem?_eq_none (by omega), List.getElem?_eq_none (by omega)]
  · show (os.map some).length = _
    rw [he, List.length_map, List.length_map, lo.1]
  · rcases inS h with ⟨_, _, z⟩ | ⟨_, z⟩
    · exact (gr.new j a z).imp (fun z => (inW_S z).2) (zz a)
    · exact .inl z
  · exact (gr.newF a h).imp id (zz a)
  · rcases inS h with ⟨_, _, z3⟩ | ⟨hj, z3⟩
    · exact (t a ha).2.2 j z3
    · exact nz hj z3 (zz a (z a ha))
end
/-! ### all defs -/
structure SigS (g : G) (s : Sig) : Prop where
  fn : ∀ p ∈ s.fn, g.mg p.1 = some (.ref (g.FA p.2))
  ar : ∀ fi, fi < s.nf → (g.PN fi).length = s.ar fi
  flds : ∀ p ∈ s.flds, L2.Cls g.K (g.CA p.1) ∧ NoAttr g.K (g.CA p.1) p.2
  mts : ∀ p ∈ s.mts, L2.Cls g.K (g.CA p.1) ∧ Meth g.K (g.CA p.1) p.2.1 (g.FA p.2.2)
  mks : ∀ p ∈ s.mks, g.mg p.1 = some (.ref (g.CA p.2.1)) ∧ Mk g.K (g.CA p.2.1) (g.FA p.2.2)
  cs : ∀ p ∈ s.cs, ∃ v u, g.mg p.1 = some u ∧ RelV v u ∧ ∀ F H, Rep g.K g.CA F H p.2 v noAd
  blt : s.blt = g.blt
  cold : g.CA.ex = none
  xg : XSig g s
  no : ∀ x ∈ g.blt, g.mg x = none
structure DefOk (g : G) (s : Sig) (ft : Nat → Option Fn) (fi : Nat) : Prop where
  ex : ∃ fn name qual st N, ft fi = some fn ∧ Fun g.K name qual st (g.FA fi) (g.FD fi) ∧ FnScope N (g.PN fi) (defScope st) ∧ N.length = fn.ns ∧ (g.PN fi).length = fn.np ∧ (∀ j, fn.keep[j]? = some true → j ∉ asB fn.body) ∧ ckB s fn.body ⟨N, defScope st, fun _ => true, false, none, []⟩ (defBody st) = true
  bd : Binds g.K (g.FD fi) (g.PN fi) []
section
variable {g : G} {s : Sig} {ft : Nat → Option Fn}
theorem run_fn {k n fi : Nat} (h0 : g.CA.ex = none) (S0 : SigOk g k (run ft n) s) (no : ∀ x ∈ g.blt, g.mg x = none) (d : DefOk g s ft fi) : FnG g (k + 2) (g.FA fi) (g.FD fi) (g.PN fi) (spF g.K g.CA (run ft (n + 1)) fi (g.PN fi).length) := by
  obtain ⟨fn, name, qual, st, N, hft, F, S, hN, hP, hk, ck⟩ := d.ex
  refine fnG_of F S (fun vs H Q E h => ?_) fun cdv A outer s' H vs Q E hr hgd h => ?_
  · obtain ⟨ds, w, _, _, _, h, _⟩ := h
    exact h
  · obtain ⟨ds, w, rfl, he, o, hlen, h⟩ := h
    have hX : XOk g ⟨N, defScope st, fun _ => true, false, none, []⟩ (cxOf (L2.CX g.P g.w) g.P g.w g.K g.mg g.base N qual (defScope st) (g.FA fi) cdv A outer s' w.H E) :=
      ⟨rfl, rfl, rfl, rfl, rfl, no, rfl, S.nd, rfl, fun _ _ => .inl rfl, fun _ => rfl, fun _ => h0, (fun z => nomatch z), fun x ex => absurd (h0.symm.trans ex) (fun z => nomatch z), hgd, by have := hr.un; show (A.deeper _).units + 200 < cLine; omega, fun _ => hr.hd⟩
    refine ⟨_, sB fn.body S0 (mu := muB fn.body) (ms := asB fn.body) ⟨rfl, rfl⟩ (fun _ z => z) (fun _ z => z) hX (fun _ => hr) (takes_of (E := E) rfl rfl rfl rfl) (passes_of rfl) ck, ?_⟩
    have hl : ds.length = vs.length := by
      have := o.len
      rw [he, List.length_map, List.length_map] at this
      exact this
    have hle : vs.length ≤ N.length := by
      have : ((N.take (g.PN fi).length)).length = (g.PN fi).length := by rw [S.pre]
      rw [List.length_take] at this
      omega
    rw [run, hft] at h
    have h : (match (if ds.length = fn.np then
        match evB (run ft n) fn.body (ds.map some ++ List.replicate (fn.ns - fn.np) none) with
        | .ok (.rt d) env => match outS fn.keep ds env with
          | some os => CR.ok d os
          | none => .stuck
        | .ok .nx env => match outS fn.keep ds env with
          | some os => .ok .non os
          | none => .stuck
        | .exc c ks fs env => match outS fn.keep ds env with
          | some os => .exc c ks fs os
          | none => .stuck
        | _ => .stuck
      else .stuck) with
      | .ok d outs => ∀ w' v T, w'.env = outs.map some → Own g.K g.CA (vs.map some) w' → Grow (List.range (g.PN fi).length) w w' → Rep g.K g.CA w'.F w'.H d v T → Tmp w' T → (∀ a, T a → Zone (List.range (g.PN fi).length) w a) → Q v w'.H
      | .exc c ks fs outs => ∀ w' dx, w'.env = outs.map some → Own g.K g.CA (vs.map some) w' → Grow (List.range (g.PN fi).length) w w' → ExcAt g.K g.CA (Zone (List.range (g.PN fi).length) w) w' ks fs dx → E (.ref (g.CA c)) dx w'.H
      | .stuck => False) := h
    rw [if_pos (by omega), ← hlen, show fn.ns - fn.np = N.length - ds.length by omega] at h
    refine ⟨inW vs.length w (ds.map some ++ List.replicate (N.length - ds.length) none), rfl, inW_own h0 o he hle, ?_⟩
    show ResS g _ _ _ _ _ (evB (run ft n) fn.body (ds.map some ++ List.replicate (N.length - ds.length) none)) _
    cases e : evB (run ft n) fn.body (ds.map some ++ List.replicate (N.length - ds.length) none) with
    | stuck => rw [e] at h; exact h.elim
    | exc c ks fs env =>
      rw [e] at h
      intro σ' w' dx e' o' gr kp x
      subst e'
      simp only at h
      cases ho : outS fn.keep ds w'.env with
      | none => simp only [ho] at h
      | some os =>
        simp only [ho] at h
        obtain ⟨o2, g2, ht⟩ := out_own h0 o he o' gr kp hk ho
        refine h (outW vs.length fn.keep w w' (os.map some)) dx rfl o2 g2 ?_
        rcases x with x | ⟨a, us, h1, h2, h3, h4, h5, h6⟩
        · exact .inl x
        · obtain ⟨t2, z2⟩ := ht _ h5 fun b hb => by cases hb; exact h6
          exact .inr ⟨a, us, h1, h2, h3, h4, t2, z2 a rfl⟩
    | ok f env =>
      rw [e] at h
      intro σ' w' e' o' gr kp
      subst e'
      cases f with
      | bk => exact h.elim
      | ct => exact h.elim
      | nx =>
        simp only at h
        cases ho : outS fn.keep ds w'.env with
        | none => simp only [ho] at h
        | some os =>
          simp only [ho] at h
          obtain ⟨o2, g2, ht⟩ := out_own h0 o he o' gr kp hk ho
          exact h (outW vs.length fn.keep w w' (os.map some)) .non noAd rfl o2 g2 rfl Tmp.none fun _ z => z.elim
      | rt d =>
        intro v T r t z
        simp only at h
        cases ho : outS fn.keep ds w'.env with
        | none => simp only [ho] at h
        | some os =>
          simp only [ho] at h
          obtain ⟨o2, g2, ht⟩ := out_own h0 o he o' gr kp hk ho
          obtain ⟨t2, z2⟩ := ht T t z
          exact h (outW vs.length fn.keep w w' (os.map some)) v T rfl o2 g2 r t2 z2
theorem run_ok (S : SigS g s) (D : ∀ fi, fi < s.nf → DefOk g s ft fi) : ∀ (n fi : Nat), fi < s.nf → FOk g (2 * n + 1) (run ft n) fi
  | 0, fi, h => by
    obtain ⟨fn, name, qual, st, N, hft, F, _⟩ := (D fi h).ex
    exact ⟨⟨fun vs H Q E ⟨_, _, _, _, _, h, _⟩ => h, fun A outer s H args us vs Q E _ _ _ _ _ ⟨_, _, _, _, _, _, h⟩ => h.elim⟩, (D fi h).bd, F.kp⟩
  | n + 1, fi, h => by
    obtain ⟨fn, name, qual, st, N, hft, F, _⟩ := (D fi h).ex
    exact ⟨run_fn S.cold ⟨S.fn, fun _ fi h => run_ok S D n fi h, by omega, S.xg, fun x ex => absurd (S.cold.symm.trans ex) (fun z => nomatch z), S.ar, S.flds, S.mts, S.mks, S.cs, S.blt⟩ S.no (D fi h), (D fi h).bd, F.kp⟩
end
end Z

/-! Z28: the law's end (as HandS's own head, with no repr under way). -/
namespace Z
open PySem L2 PySem.Spec PyProof.Rows
def keepOk (ks : List Bool) (m : List Nat) : Bool := (List.range ks.length).all fun j => !((ks[j]?).getD false) || !m.contains j
theorem keep_ok {ks : List Bool} {m : List Nat} (h : keepOk ks m = true) : ∀ j, ks[j]? = some true → j ∉ m := fun j hj hm => by
  have := List.all_eq_true.mp h j (List.mem_range.mpr (List.getElem?_eq_some_iff.mp hj).1)
  rw [hj] at this
  simp [hm] at this
theorem ints_repL {K : PySem.W.Frag} {CA : Cls} {F H : Hp} : ∀ (ns : List Int), RepL K CA F H (ns.map D.int) (ns.map V.int) noAd
  | [] => rfl
  | n :: ns => ⟨V.int n, ns.map V.int, noAd, noAd, rfl, fun _ z => z, fun _ z => z, fun _ z _ => z, rfl, ints_repL ns⟩
/-- the script as it is handed in -/
def scriptD (ns : List Int) : D := .lst .scr (ns.map D.int)
theorem law_sp {K : PySem.W.Frag} {CA : Cls} {cf : Nat → List D → CR} {f : Nat} {H : Hp} {a : Addr} {ns : List Int} {outs : List D} {E : XK} (h0 : CA.ex = none) (h : cf f [scriptD ns] = .ok (.bl true) outs) (hS : SqL K H a (ns.map V.int)) : spF K CA cf f 1 [.ref a] H (fun v _ => v = .bl true) E := by
  refine ⟨[scriptD ns], ⟨H, H, fun _ => noAd, [some (scriptD ns)]⟩, rfl, rfl, ⟨Le.refl _, fun i d hd => ?_, fun _ _ z => z.elim, fun _ _ _ _ z => z.elim, rfl, Xs.cold h0⟩, rfl, ?_⟩
  · cases i with
    | zero =>
      cases hd
      exact ⟨.ref a, rfl, a, ns.map V.int, rfl, hS, ints_repL ns⟩
    | succ i => cases hd
  · rw [h]
    exact fun w' v T _ _ _ r _ _ => r
theorem law_end {g0 : Heap → G} {P : Program} {w : World} {K : PySem.W.Frag} {mg mb : Str → Option Value} {k : Nat} {fa a : Addr} {fd : FuncData} {x : Str} {sp : Sp} {sT : Shared} {vs : List Value} {ns : List Int}
    (gP : ∀ b, (g0 b).P = P) (gw : ∀ b, (g0 b).w = w) (gK : ∀ b, (g0 b).K = K) (gm : ∀ b, (g0 b).mg = mg) (gb : ∀ b, (g0 b).base = b)
    (inT : K.In sT.heap) (nsG : sT.heap.Ns mainGlobals mg) (nsB : sT.heap.Ns builtinsNs mb) (bltAt : ∀ x : Str, x ≠ "__name__" → mb x = bootBuiltins x) (noLim : sT.heap.NoLimit) (noGen : sT.gens = #[])
    (atA : sT.heap.get? a = some { cls := .type "list", data := .seq vs.toArray }) (areI : IntsAre vs ns) (lenI : ns.length ≤ sizeLine) (room1 : Room k callerA)
    (F : ∀ base : Heap, K.In base → base.Ns mainGlobals mg → FnG (g0 base) k fa fd [x] sp) (bnds : ∀ (s : Shared) (u : Value), BindsTo s fd ⟨[u], []⟩ [(x, u)])
    (prom : ∀ H : Hp, SqL K H a (ns.map V.int) → sp [.ref a] H (fun v _ => v = .bl true) fun _ _ _ => False) :
    codeAny (model P w) callerA (.call (.ref fa) ⟨[.ref a], []⟩) (fun r s' => r = .ok (.ret (.bool true)) ∧ OldK sT.heap s'.heap ∧ s'.os = sT.os ∧ AllBare s'.gens) sT := by
  have valsNs := vals_ints areI
  have lenNs := areI.length
  have mainly : ∀ H : Hp, Only H → SqL K H a (ns.map V.int) → HOk P w H sT.heap → (∀ b, H b ≠ none → b = a) → (H a ≠ none → K.lookup a = none) →
      codeAny (model P w) callerA (.call (.ref fa) ⟨[.ref a], []⟩) (fun r s' => r = .ok (.ret (.bool true)) ∧ OldK sT.heap s'.heap ∧ s'.os = sT.os ∧ AllBare s'.gens) sT := by
    intro H only1 seq1 okH onlyA notK
    have at_a : ∀ {b : Addr} {u : HO}, H b = some u → b = a := fun {b u} q => onlyA b (by rw [q]; exact fun z => nomatch z)
    have noDict : ∀ {b : Addr} {o : Obj} {es : Array DictEntry} {ep : Nat}, sT.heap.get? b = some o → o.data = .dict es ep → H b = none := fun {b o es ep} e d => by
      cases q : H b with
      | none => rfl
      | some u =>
        rw [at_a q, atA] at e
        cases e
        cases d
    have nsBase : ∀ {b : Addr} {m : Str → Option Value}, sT.heap.Ns b m → (hidT sT.heap H).Ns b m := fun {b m} ⟨o, es, ep, e, d, r⟩ => ⟨o, es, ep, hidT_get e (noDict e d), d, r⟩
    have inBase : K.In (hidT sT.heap H) := fun b o e => hidT_get (inT b o e) (by
      cases q : H b with
      | none => rfl
      | some u =>
        have e' := at_a q
        subst e'
        rw [notK (by rw [q]; exact fun z => nomatch z)] at e
        cases e)
    have modB : Mod K mg (hidT sT.heap H) := ⟨inBase, nsBase nsG, ⟨mb, nsBase nsB, bltAt⟩, let ⟨mc, h1, h2⟩ := noLim; ⟨mc, nsBase h1, h2⟩⟩
    have e0 : Env0 P w K mg (hidT sT.heap H) callerA [] sT H := ⟨rfl, modB, fun b o e => of_hidT e, Nat.le_of_eq (hidT_size _ _), trivial, fun b nsB => absurd (show b ∈ ([] : List Addr) from nsB) (fun z => nomatch z), okH, .of_eq noGen⟩
    have run := (F _ inBase (nsBase nsG)).run callerA [] sT H ⟨[.ref a], []⟩ [.ref a] [.ref a] (fun v _ => v = .bl true) (fun _ _ _ => False) room1 rfl (by rw [gP, gw, gK, gm, gb]; exact e0) (bnds sT (.ref a)) (.cons rfl .nil) (prom H seq1)
    rw [gP, gw] at run
    refine codeAny_mono run fun r s' h => ?_
    cases r with
    | error e =>
      obtain ⟨_, _, _, _, _, _, _, _, _, _, _, _, z⟩ := h
      exact z.elim
    | ok fl =>
      cases fl with
      | next => exact h.elim
      | brk => exact h.elim
      | cont => exact h.elim
      | ret u =>
        obtain ⟨v, H', os1, bare1, unch, hok', r', q⟩ := h
        have q' : v = .bl true := q
        subst q'
        obtain rfl : u = Value.bool true := r'
        refine ⟨rfl, OldK.of_keep fun b o e => ?_, os1, bare1⟩
        cases q : H b with
        | none => exact unch.keep b o e q (fun z => nomatch z) (fun z => nomatch z)
        | some u =>
          rcases only1 b with z | ⟨ob, xs, z⟩
          · rw [q] at z; cases z
          · obtain ⟨e1, _⟩ := okH b _ z
            obtain ⟨e2, _⟩ := hok' b _ (unch.frzs b ob _ z)
            rw [e] at e1
            cases e1
            exact e2
  cases hk : K.lookup a with
  | some o =>
    have e := inT a o hk
    rw [atA] at e
    cases e
    exact mainly (fun _ => none) (fun _ => .inl rfl) (.inr ⟨_, vs.toArray, _, hk, rfl, rfl, rfl, by rw [List.size_toArray, lenNs]; exact lenI, by simpa using valsNs⟩) (fun _ _ z => nomatch z) (fun b z => absurd rfl z) fun z => absurd rfl z
  | none =>
    refine mainly (fun b => if b = a then some (.frz { cls := .type "list", data := .seq vs.toArray } (.lst (ns.map V.int))) else none) (fun b => ?_) (.inl (.inr ⟨{ cls := .type "list", data := .seq vs.toArray }, if_pos rfl⟩)) (fun b u z => ?_) (fun b z => ?_) fun _ => hk
    · by_cases nsB : b = a
      · exact .inr ⟨_, _, if_pos nsB⟩
      · exact .inl (if_neg nsB)
    · by_cases nsB : b = a
      · have z' := (if_pos nsB).symm.trans z
        cases z'
        subst nsB
        exact ⟨atA, by rw [List.length_map]; exact lenI, vs, _, valsNs, atA⟩
      · cases (if_neg nsB).symm.trans z
    · by_cases nsB : b = a
      · exact nsB
      · exact absurd (if_neg nsB) z
/-- the walk that the head asks for -/
theorem law_walk {l : PySem.W.OpenLaw} {n k : Nat} {q : Program} {loose : List Str} {XP : (Str → Option Value) → Heap → Prop} {YP : World → Heap → Prop} {d : DefRec} {K : Params → PySem.W.Frag} {cf : Nat → List D → CR} {f : Nat}
    (hn : l.most = some n) (hn2 : n ≤ sizeLine) (hdf : d.params.defaults = []) (hr : Room k callerA) (hY : ∀ (w : World) (h : Heap), YP w h → (K w.params).In h)
    (F : ∀ (w : World) (mg : Str → Option Value) (fa : Addr) (h : Heap), (K w.params).In h → h.Ns mainGlobals mg → mg d.name = some (.ref fa) →
      ∃ (fd : FuncData) (CA : Cls) (g0 : Heap → G), (∀ (s : Shared) (u : Value), BindsTo s fd ⟨[u], []⟩ [("script", u)]) ∧ CA.ex = none ∧ (∀ b, (g0 b).P = l.prog ∧ (g0 b).w = w ∧ (g0 b).K = K w.params ∧ (g0 b).mg = mg ∧ (g0 b).base = b) ∧
        ∀ base : Heap, (K w.params).In base → base.Ns mainGlobals mg → FnG (g0 base) k fa fd ["script"] (spF (K w.params) CA cf f 1))
    (hL : ∀ ns : List Int, ns.length ≤ n → ∃ outs, cf f [scriptD ns] = .ok (.bl true) outs) :
    PySem.W.WalkO q loose XP YP l.row.toRowW d [] (fun f vs => PySem.call f vs) := by
  refine Att.attach_call hn hdf fun w s₀ s₁ mg mb fa o pm cd doc a vs ns G Y ho hd hcd hmg hobj hints hlen hg => ?_
  have KX := hY w _ Y
  obtain ⟨fd, CA, g0, hb, h0, hg0, hF⟩ := F w mg fa _ KX G.T.g hmg
  obtain ⟨outs, ho⟩ := hL ns hlen
  exact law_end (g0 := g0) (fun b => (hg0 b).1) (fun b => (hg0 b).2.1) (fun b => (hg0 b).2.2.1) (fun b => (hg0 b).2.2.2.1) (fun b => (hg0 b).2.2.2.2) KX G.T.g G.T.b G.T.builtins G.T.nolimit hg hobj hints (Nat.le_trans hlen hn2) hr hF hb fun H hS => law_sp h0 ho hS
end Z

/-! Z30: lemmas for what runs compute. -/
namespace Z
open PySem L2
abbrev dI (xs : List Int) : List D := xs.map D.int
theorem ints?_dI : ∀ xs : List Int, ints? (dI xs) = some xs
  | [] => rfl
  | x :: xs => by show (ints? (dI xs)).map (x :: ·) = _; rw [ints?_dI xs]; rfl
theorem pures_dI (xs : List Int) : pures (dI xs) = true := by
  unfold pures
  rw [List.all_eq_true]
  intro d hd
  obtain ⟨i, _, rfl⟩ := List.mem_map.mp hd
  rfl
theorem frzDs_dI : ∀ xs : List Int, frzDs (dI xs) = dI xs
  | [] => rfl
  | x :: xs => by show frzD (.int x) :: frzDs (dI xs) = _; rw [frzDs_dI xs]; rfl
theorem slot_0 {x : Option D} {e : Env} : slot (x :: e) 0 = x := rfl
theorem slot_s {x : Option D} {e : Env} {i : Nat} : slot (x :: e) (i + 1) = slot e i := rfl
theorem bok {α β : Type} {a : α} {e : Env} {k : α → Env → R β} : (R.ok a e).bind k = k a e := rfl
theorem pures_map {α : Type} {f : α → D} (h : ∀ x, pureD (f x) = true) : ∀ l : List α, pures (l.map f) = true
  | [] => rfl
  | x :: l => by
    have := pures_map h l
    unfold pures at this ⊢
    rw [List.map_cons, List.all_cons, h x, this]
    rfl
theorem pures_app {a b : List D} (h : pures a = true) (k : pures b = true) : pures (a ++ b) = true := by
  unfold pures at *
  rw [List.all_append, h, k]
  rfl
theorem frzDs_map {α : Type} {f : α → D} (h : ∀ x, frzD (f x) = f x) : ∀ l : List α, frzDs (l.map f) = l.map f
  | [] => rfl
  | x :: l => by show frzD (f x) :: frzDs (l.map f) = _; rw [frzDs_map h l, h x]; rfl
theorem dep_s {n : Nat} {d : D} {ds : List D} : depDs n (d :: ds) = (depD n d && depDs n ds) := by cases n <;> rfl
theorem dep_map {α : Type} {f : α → D} {n : Nat} (h : ∀ x, depD n (f x) = true) : ∀ l : List α, depDs n (l.map f) = true
  | [] => by cases n <;> rfl
  | x :: l => by rw [List.map_cons, dep_s, h x, dep_map h l]; rfl
theorem dep_n {n : Nat} : depDs n [] = true := by cases n <;> rfl
theorem dep_i {n : Nat} {i : Int} : depD n (.int i) = true := by cases n <;> rfl
theorem dep_b {n : Nat} {i : Bool} : depD n (.bl i) = true := by cases n <;> rfl
theorem dep_dI {n : Nat} (xs : List Int) : depDs n (dI xs) = true := dep_map (fun _ => dep_i) xs
theorem dep_t {n : Nat} {ds : List D} : depD (n + 1) (.tup ds) = depDs n ds := rfl
theorem dep_l {n : Nat} {f : Fl} {ds : List D} : depD (n + 1) (.lst f ds) = depDs n ds := rfl
theorem eqS_int {a b : Int} : eqS (.int a) (.int b) = some (.bl (decide (a = b))) := by
  show (if (depD 60 (.int a) && depD 60 (.int b)) = true then some (D.bl (a == b)) else none) = _
  rw [dep_i, dep_i]
  rfl
theorem neS_int {a b : Int} : neS (.int a) (.int b) = some (.bl (!decide (a = b))) := by
  show (if (depD 60 (.int a) && depD 60 (.int b)) = true then some (D.bl (!(a == b))) else none) = _
  rw [dep_i, dep_i]
  rfl
theorem eqv_self {d : D} (h : depD 60 d = true) : eqv d d = true := PySem.SeqAt.eqv_refl _ (dep_lay h).1
theorem neS_self {d : D} (h : depD 60 d = true) : neS d d = some (.bl false) := by
  cases d with
  | str s => show some (D.bl (!decide (s = s))) = _; rw [decide_eq_true rfl]; rfl
  | _ => unfold neS; simp only [h, eqv_self h, Bool.and_self, if_true, Bool.not_true]
theorem eqS_self {d : D} (h : depD 60 d = true) : eqS d d = some (.bl true) := by
  cases d with
  | str s => show some (D.bl (decide (s = s))) = _; rw [decide_eq_true rfl]
  | _ => unfold eqS; simp only [h, eqv_self h, Bool.and_self, if_true]
theorem neS_str {s : Str} : neS (.str s) (.str s) = some (.bl false) := by
  show some (D.bl (!decide (s = s))) = _
  rw [decide_eq_true rfl]
  rfl
theorem eqS_str {s : Str} : eqS (.str s) (.str s) = some (.bl true) := by
  show some (D.bl (decide (s = s))) = _
  rw [decide_eq_true rfl]
theorem atI_nat {α : Type} {xs : List α} {k : Nat} {x : α} (h : xs[k]? = some x) : atI xs (k : Int) = some x := by
  have hk := (List.getElem?_eq_some_iff.mp h).1
  unfold atI ixN
  rw [if_pos (Int.natCast_nonneg k), if_pos (by omega), Option.bind_some, Int.toNat_natCast, h]
theorem atI_dI {xs : List Int} {k : Nat} {x : Int} (h : xs[k]? = some x) : atI (dI xs) (k : Int) = some (.int x) :=
  atI_nat (by rw [List.getElem?_map, h]; rfl)
theorem bd_nat {n : Nat} (h : n ≤ 1000000) : bd (n : Int) = true :=
  decide_eq_true (Nat.lt_of_le_of_lt h (by decide))
theorem min_nat {a b : Nat} : (if (b : Int) < (a : Int) then (b : Int) else (a : Int)) = ((min a b : Nat) : Int) := by
  split <;> omega
theorem smallLt {n : Nat} (h : n ≤ 1000000) : szLt n = true := decide_eq_true (Nat.lt_of_le_of_lt h (by decide))
theorem smallOk {n : Nat} (h : n ≤ 1000000) : szOk n = true := decide_eq_true (Nat.le_trans h (by decide))
theorem atI_0 {α : Type} {x : α} {l : List α} : atI (x :: l) 0 = some x := by
  unfold atI ixN
  rw [if_pos (by decide), if_pos (by rw [List.length_cons]; omega)]
  rfl
theorem atI_1 {α : Type} {x y : α} {l : List α} : atI (x :: y :: l) 1 = some y := by
  unfold atI ixN
  rw [if_pos (by decide), if_pos (by rw [List.length_cons, List.length_cons]; omega)]
  rfl
theorem atI_2 {α : Type} {x y z : α} {l : List α} : atI (x :: y :: z :: l) 2 = some z := by
  unfold atI ixN
  rw [if_pos (by decide), if_pos (by rw [List.length_cons, List.length_cons, List.length_cons]; omega)]
  rfl
theorem stoS_0 {x y : D} {l : List D} : stoS (.lst .own (x :: l)) (.int 0) y = some (.lst .own (y :: l)) := by
  unfold stoS ixN
  simp only []
  rw [if_pos (by decide), if_pos (by rw [List.length_cons]; omega)]
  rfl
theorem stoS_1 {x z y : D} {l : List D} : stoS (.lst .own (x :: z :: l)) (.int 1) y = some (.lst .own (x :: y :: l)) := by
  unfold stoS ixN
  simp only []
  rw [if_pos (by decide), if_pos (by rw [List.length_cons, List.length_cons]; omega)]
  rfl
theorem mt_app {ds : List D} {d : D} (h : szLt ds.length = true) : mtS .append (.lst .own ds) [d] = some (.non, .lst .own (ds ++ [d])) := by
  show (if szLt ds.length = true then some (D.non, D.lst .own (ds ++ [d])) else none) = _
  rw [h, if_pos rfl]
theorem mt_pop' {ds : List D} {d : D} : mtS .pop (.lst .own (ds ++ [d])) [] = some (d, .lst .own ds) := by
  show (((ds ++ [d])[(ds ++ [d]).length - 1]?).map fun x => (x, D.lst .own (ds ++ [d]).dropLast)) = _
  rw [List.length_append, List.length_singleton, Nat.add_sub_cancel, List.getElem?_concat_length, List.dropLast_concat]
  rfl
theorem cut_map {α β : Type} {f : α → β} {l : List α} {lo hi : Option Int} : cut (l.map f) lo hi = (cut l lo hi).map f := by
  unfold cut
  rw [List.length_map, List.map_take, List.map_drop]
theorem cut_len {α : Type} {l : List α} {lo hi : Option Int} : (cut l lo hi).length ≤ l.length := by
  unfold cut
  rw [List.length_take, List.length_drop]
  omega
theorem cut_mem {α : Type} {l : List α} {lo hi : Option Int} {x : α} (h : x ∈ cut l lo hi) : x ∈ l := List.mem_of_mem_drop (List.mem_of_mem_take h)
theorem c_pow1060 : (0 ≤ (60 : Int) ∧ (Builtin.Int.intBits 10 : Int) * 60 ≤ 2 ^ 27) = True := eq_true (by decide +kernel)
theorem c_pos1060 : (0 < (10 : Int) ^ (60 : Int).toNat) = True := eq_true (by decide +kernel)
theorem c_div1000 : (0 < (1000 : Int) ∧ (1000 : Int).natAbs.log2 < 9000) = True := eq_true (by decide +kernel)
theorem c_pos1000 : (0 < (1000 : Int)) = True := eq_true (by decide)
theorem c_pos997 : (0 < (997 : Int)) = True := eq_true (by decide)
theorem cut_take {α : Type} {l : List α} {k : Int} (h : 0 ≤ k) : cut l none (some k) = l.take k.toNat := by
  unfold cut HT.sIx
  simp only [List.drop_zero, Nat.sub_zero]
  rw [if_neg (by omega)]
  rw [List.take_eq_take_iff]
  omega
theorem neS_lst {f f' : Fl} {ds : List D} (h : depDs 59 ds = true) : neS (.lst f ds) (.lst f' ds) = some (.bl false) := by
  have e : eqv (.lst f ds) (.lst f' ds) = true := PySem.SeqAt.eqv_refl _ (dep_lay (d := .lst f ds) (n := 60) h).1
  unfold neS
  simp only [dep_l, h, e, Bool.and_self, if_true, Bool.not_true]
/-- a comprehension, turn by turn -/
theorem lc_go {el : Env → R Itm} {ts : Env → R Bool} {tg : Tg} {own : List Nat} (P : List D → List D → Env → Prop)
    (hs : ∀ x xs acc env, P (x :: xs) acc env → ∃ env1 b env2, bindT tg x (clr own env) = some env1 ∧ ts env1 = .ok b env2 ∧ (if b = true then ∃ d env3, el env2 = .ok (.tmp d) env3 ∧ szLt acc.length = true ∧ P xs (acc ++ [d]) env3 else P xs acc env2)) :
    ∀ {xs acc : List D} {env : Env}, P xs acc env → ∃ acc' env', lcGo el ts tg own xs acc env = .ok acc' env' ∧ P [] acc' env'
  | [], acc, env, h => ⟨acc, env, by rw [lcGo], h⟩
  | x :: xs, acc, env, h => by
    obtain ⟨env1, b, env2, h1, h2, h3⟩ := hs x xs acc env h
    cases b with
    | false =>
      rw [if_neg (by decide)] at h3
      obtain ⟨a', e', h4, h5⟩ := lc_go P hs h3
      refine ⟨a', e', ?_, h5⟩
      rw [lcGo, h1]
      simp only [h2, h4]
    | true =>
      rw [if_pos rfl] at h3
      obtain ⟨d, env3, h6, h7, h8⟩ := h3
      obtain ⟨a', e', h4, h5⟩ := lc_go P hs h8
      refine ⟨a', e', ?_, h5⟩
      rw [lcGo, h1]
      simp only [h2, h6, h7, if_true, h4]
/-! ### repr -/
mutual
def smD : D → Bool
  | .int i => decide (i.natAbs < 10 ^ 12)
  | .str s => PyData.strOk s
  | .tup ds => smDs ds
  | .lst _ ds => smDs ds
  | .ins _ _ _ _ => false
  | _ => true
def smDs : List D → Bool
  | [] => true
  | d :: ds => smD d && smDs ds
end
mutual
theorem sm_ok : ∀ {d : D}, smD d = true → (toPy d).showable = true ∧ (toPy d).leavesShort 13 = true
  | .non, _ => ⟨rfl, rfl⟩
  | .bl _, _ => ⟨rfl, rfl⟩
  | .int i, h => by
    have h : i.natAbs < 10 ^ 12 := of_decide_eq_true h
    refine ⟨decide_eq_true ?_, decide_eq_true ?_⟩
    · by_cases hz : i.natAbs = 0
      · rw [hz]; decide
      · have : i.natAbs.log2 < 40 := (Nat.log2_lt hz).mpr (Nat.lt_of_lt_of_le h (by decide))
        omega
    · show (Str.ofString (toString i)).length ≤ 13
      rw [ofString_length]
      exact int_text_length_le10 (k := 12) (by decide) h
  | .str s, h => by
    refine ⟨rfl, ?_⟩
    show s.cps.toList.all (fun c => decide (c < 16 ^ 8)) = true
    have h : s.cps.all (fun c => decide (c < 0x110000)) = true := h
    rw [← Array.all_toList] at h
    rw [List.all_eq_true] at h ⊢
    intro c hc
    have := of_decide_eq_true (h c hc)
    exact decide_eq_true (Nat.lt_trans this (by decide))
  | .tup ds, h => sms_ok (ds := ds) h
  | .lst _ ds, h => sms_ok (ds := ds) h
  | .ins _ _ _ _, h => by cases h
theorem sms_ok : ∀ {ds : List D}, smDs ds = true → PyData.showableAll (toPys ds) = true ∧ PyData.leavesShortAll 13 (toPys ds) = true
  | [], _ => ⟨rfl, rfl⟩
  | d :: ds, h => by
    have h : (smD d && smDs ds) = true := h
    rw [Bool.and_eq_true] at h
    obtain ⟨a1, a2⟩ := sm_ok h.1
    obtain ⟨b1, b2⟩ := sms_ok h.2
    refine ⟨?_, ?_⟩
    · show (PyData.showable _ && PyData.showableAll _) = true
      rw [a1, b1]; rfl
    · show (PyData.leavesShort _ _ && PyData.leavesShortAll _ _) = true
      rw [a2, b2]; rfl
end
abbrev bkD (d : D) : Nat := (toPy d).bulk
abbrev bkDs (ds : List D) : Nat := PyData.bulkAll (toPys ds)
theorem repr_ok {d : D} (h1 : depD 60 d = true) (h2 : smD d = true) (h3 : bkD d ≤ 2 ^ 20) : reprS d = some (.str (toPy d).shown) := by
  obtain ⟨a, b⟩ := sm_ok h2
  unfold reprS
  rw [h1, a]
  have := PyData.shown_fits_bulk (B := 13) (by decide) (by decide) b h3
  rw [show szOk (toPy d).shown.length = true from decide_eq_true this]
  rfl
theorem bk_dI : ∀ xs : List Int, bkDs (dI xs) = xs.length
  | [] => rfl
  | x :: xs => by
    show (0 + 1 + bkDs (dI xs)) = _
    rw [bk_dI xs, List.length_cons]
    omega
theorem sm_dI : ∀ xs : List Int, (∀ x ∈ xs, x.natAbs < 10 ^ 12) → smDs (dI xs) = true
  | [], _ => rfl
  | x :: xs, h => by
    show (smD (.int x) && smDs (dI xs)) = true
    rw [sm_dI xs fun y hy => h y (List.mem_cons_of_mem _ hy), show smD (.int x) = true from decide_eq_true (h x List.mem_cons_self)]
    rfl
theorem sm_map {α : Type} {f : α → D} : ∀ l : List α, (∀ x ∈ l, smD (f x) = true) → smDs (l.map f) = true
  | [], _ => rfl
  | x :: l, h => by
    show (smD (f x) && smDs (l.map f)) = true
    rw [h x List.mem_cons_self, sm_map l fun y hy => h y (List.mem_cons_of_mem _ hy)]
    rfl
def RB (r : R Fw) (Q : Fw → Env → Prop) : Prop := ∃ f e, r = .ok f e ∧ Q f e
section
variable {cf : Nat → List D → CR} {Q : Fw → Env → Prop} {env : Env}
theorem RB.ok {f : Fw} (h : Q f env) : RB (.ok f env) Q := ⟨f, env, rfl, h⟩
theorem RB.nil (h : Q .nx env) : RB (evB cf .nil env) Q := ⟨.nx, env, by rw [evB], h⟩
/-- the end of a block's first statement -/
def nxt (cf : Nat → List D → CR) (r : B) (Q : Fw → Env → Prop) : Fw → Env → Prop
  | .nx, e => RB (evB cf r e) Q
  | f, e => Q f e
theorem RB.seq {s : S} {r : B} (h : RB (evS cf s env) (nxt cf r Q)) : RB (evB cf (.cons s r) env) Q := by
  obtain ⟨f, e, h1, h2⟩ := h
  rw [evB, h1]
  cases f with
  | nx => exact h2
  | bk => exact ⟨_, _, rfl, h2⟩
  | ct => exact ⟨_, _, rfl, h2⟩
  | rt d => exact ⟨_, _, rfl, h2⟩
/-- a loop's turn -/
def trn (P : Env → Prop) (Q : Fw → Env → Prop) : Fw → Env → Prop
  | .nx, e => P e
  | .ct, e => P e
  | .bk, e => Q .nx e
  | .rt d, e => Q (.rt d) e
theorem RB.go {tg : Tg} {b : Env → R Fw} {Q : Fw → Env → Prop} (P : List D → Env → Prop) (hs : ∀ x xs env, P (x :: xs) env → ∃ env1, bindT tg x env = some env1 ∧ RB (b env1) (trn (P xs) Q)) (hd : ∀ env, P [] env → Q .nx env) :
    ∀ {xs : List D} {env : Env}, P xs env → RB (forGo tg b xs env) Q
  | [], env, h => ⟨_, _, by rw [forGo], hd env h⟩
  | x :: xs, env, h => by
    obtain ⟨env1, h1, f, e, h2, h3⟩ := hs x xs env h
    rw [forGo, h1]
    show RB ((b env1).bind _) Q
    rw [h2]
    cases f with
    | nx => exact RB.go P hs hd h3
    | ct => exact RB.go P hs hd h3
    | bk => exact ⟨_, _, rfl, h3⟩
    | rt d => exact ⟨_, _, rfl, h3⟩
/-- over a range -/
theorem RB.goN {tg : Tg} {b : Env → R Fw} {Q : Fw → Env → Prop} {lo c : Int} {n : Nat} (P : Nat → Env → Prop) (h0 : P 0 env) (hs : ∀ i env, i < n → P i env → ∃ env1, bindT tg (.int (lo + (i : Nat) * c)) env = some env1 ∧ RB (b env1) (trn (P (i + 1)) Q)) (hd : ∀ env, P n env → Q .nx env) : RB (forGo tg b (rangeD lo n c) env) Q := by
  refine RB.go (fun xs env => ∃ i, i ≤ n ∧ xs = (rangeD lo n c).drop i ∧ P i env) ?_ ?_ ⟨0, Nat.zero_le _, rfl, h0⟩
  · rintro x xs env ⟨i, hi, e, p⟩
    have hlt : i < n := by
      by_cases h : i < n
      · exact h
      · rw [List.drop_eq_nil_of_le (by rw [rangeD_length]; omega)] at e
        cases e
    have e2 : (rangeD lo n c).drop i = .int (lo + (i : Nat) * c) :: (rangeD lo n c).drop (i + 1) := by
      rw [List.drop_eq_getElem_cons (by rw [rangeD_length]; exact hlt)]
      congr 1
      exact (List.getElem?_eq_some_iff.mp (rangeD_at hlt)).2
    rw [e2] at e
    cases e
    obtain ⟨env1, h1, h2⟩ := hs i env hlt p
    refine ⟨env1, h1, ?_⟩
    obtain ⟨f, e, h3, h4⟩ := h2
    refine ⟨f, e, h3, ?_⟩
    cases f with
    | nx => exact ⟨i + 1, hlt, rfl, h4⟩
    | ct => exact ⟨i + 1, hlt, rfl, h4⟩
    | bk => exact h4
    | rt d => exact h4
  · rintro env ⟨i, hi, e, p⟩
    have : i = n := by
      by_cases h : i < n
      · have := congrArg List.length e
        rw [List.length_drop, rangeD_length, List.length_nil] at this
        omega
      · omega
    subst this
    exact hd env p
theorem RB.goR {tg : Tg} {b : Env → R Fw} {Q : Fw → Env → Prop} {n : Nat} (P : Nat → Env → Prop) (h0 : P 0 env) (hs : ∀ i env, i < n → P i env → ∃ env1, bindT tg (.int (i : Nat)) env = some env1 ∧ RB (b env1) (trn (P (i + 1)) Q)) (hd : ∀ env, P n env → Q .nx env) : RB (forGo tg b (rangeD 0 n 1) env) Q :=
  RB.goN P h0 (fun i env hi p => by rw [Int.zero_add, Int.mul_one]; exact hs i env hi p) hd
/-- over the images of a list -/
theorem RB.goM {α : Type} {f : α → D} {tg : Tg} {b : Env → R Fw} {Q : Fw → Env → Prop} (P : List α → Env → Prop) (hs : ∀ x xs env, P (x :: xs) env → ∃ env1, bindT tg (f x) env = some env1 ∧ RB (b env1) (trn (P xs) Q)) (hd : ∀ env, P [] env → Q .nx env) {l : List α} (h0 : P l env) : RB (forGo tg b (l.map f) env) Q := by
  refine RB.go (fun xs env => ∃ l, xs = l.map f ∧ P l env) ?_ ?_ ⟨l, rfl, h0⟩
  · rintro x xs env ⟨l, e, p⟩
    cases l with
    | nil => cases e
    | cons y l =>
      cases e
      obtain ⟨env1, h1, g, e, h3, h4⟩ := hs y l env p
      refine ⟨env1, h1, g, e, h3, ?_⟩
      cases g with
      | nx => exact ⟨l, rfl, h4⟩
      | ct => exact ⟨l, rfl, h4⟩
      | bk => exact h4
      | rt d => exact h4
  · rintro env ⟨l, e, p⟩
    cases l with
    | nil => exact hd env p
    | cons y l => cases e
theorem RB.for {tg : Tg} {it : I} {b : B} {xs : List D} {env1 : Env} (hI : evI cf it env = .ok xs env1) (h : RB (forGo tg (fun env => evB cf b env) xs env1) Q) : RB (evS cf (.for tg it b) env) Q := by
  rw [evS, hI]
  exact h
/-- a while, its turns bounded by m -/
theorem RB.whl {t : Env → R Bool} {b : Env → R Fw} {Q : Fw → Env → Prop} (P : Nat → Env → Prop) (hs : ∀ m env, P m env → ∃ c env1, t env = .ok c env1 ∧ (if c = true then RB (b env1) (trn (fun e => ∃ m', m' < m ∧ P m' e) Q) else Q .nx env1)) :
    ∀ {n m : Nat} {env : Env}, m < n → P m env → RB (whlGo t b n env) Q
  | 0, m, env, h, _ => absurd h (Nat.not_lt_zero m)
  | n + 1, m, env, h, p => by
    obtain ⟨c, env1, h1, h2⟩ := hs m env p
    rw [whlGo, h1]
    cases c with
    | false => exact ⟨_, _, rfl, h2⟩
    | true =>
      rw [if_pos rfl] at h2
      obtain ⟨f, e, h3, h4⟩ := h2
      show RB ((b env1).bind _) Q
      rw [h3]
      cases f with
      | nx => obtain ⟨m', l, p'⟩ := h4; exact RB.whl P hs (n := n) (by omega) p'
      | ct => obtain ⟨m', l, p'⟩ := h4; exact RB.whl P hs (n := n) (by omega) p'
      | bk => exact ⟨_, _, rfl, h4⟩
      | rt d => exact ⟨_, _, rfl, h4⟩
end
/-- a def's end -/
def fin (ks : List Bool) (ds : List D) (P : D → List D → Prop) : Fw → Env → Prop
  | .rt d, e => ∃ os, outS ks ds e = some os ∧ P d os
  | .nx, e => ∃ os, outS ks ds e = some os ∧ P .non os
  | _, _ => False
theorem run_of {ft : Nat → Option Fn} {n f : Nat} {fn : Fn} {ds : List D} {P : D → List D → Prop} (hf : ft f = some fn) (hl : ds.length = fn.np) (h : RB (evB (run ft n) fn.body (ds.map some ++ List.replicate (fn.ns - fn.np) none)) (fin fn.keep ds P)) : ∃ d os, run ft (n + 1) f ds = .ok d os ∧ P d os := by
  obtain ⟨fw, e, h1, h2⟩ := h
  rw [run, hf]
  simp only [hl, if_true]
  rw [h1]
  cases fw with
  | rt d =>
    obtain ⟨os, h3, h4⟩ := h2
    exact ⟨d, os, by simp only [h3], h4⟩
  | nx =>
    obtain ⟨os, h3, h4⟩ := h2
    exact ⟨.non, os, by simp only [h3], h4⟩
  | bk => exact h2.elim
  | ct => exact h2.elim
theorem run_eq {ft : Nat → Option Fn} {n f : Nat} {fn : Fn} {ds : List D} {d : D} {os : List D} (hf : ft f = some fn) (hl : ds.length = fn.np) (h : RB (evB (run ft n) fn.body (ds.map some ++ List.replicate (fn.ns - fn.np) none)) (fin fn.keep ds fun d' os' => d' = d ∧ os' = os)) : run ft (n + 1) f ds = .ok d os := by
  obtain ⟨d', os', h1, rfl, rfl⟩ := run_of hf hl h
  exact h1
end Z

/-! Z31: running straight on, exceptions too. -/
namespace Z
open PySem L2
abbrev XP := Nat → List Str → List D → Env → Prop
def noX : XP := fun _ _ _ _ => False
def RE (r : R Fw) (Q : Fw → Env → Prop) (E : XP) : Prop := match r with
  | .ok f e => Q f e
  | .exc c ks fs e => E c ks fs e
  | .stuck => False
def nx2 (cf : Nat → List D → CR) (r : B) (Q : Fw → Env → Prop) (E : XP) : Fw → Env → Prop
  | .nx, e => RE (evB cf r e) Q E
  | f, e => Q f e
section
variable {cf : Nat → List D → CR} {Q : Fw → Env → Prop} {E : XP} {env : Env}
theorem RE_ok {f : Fw} : RE (.ok f env) Q E = Q f env := rfl
theorem RE_exc {c : Nat} {ks : List Str} {fs : List D} : RE (.exc c ks fs env) Q E = E c ks fs env := rfl
theorem RE_stuck : RE .stuck Q E = False := rfl
theorem RE_nil : RE (evB cf .nil env) Q E = Q .nx env := by rw [evB]; rfl
theorem RE_cons {s : S} {r : B} : RE (evB cf (.cons s r) env) Q E = RE (evS cf s env) (nx2 cf r Q E) E := by
  rw [evB]
  cases evS cf s env with
  | stuck => rfl
  | exc _ _ _ _ => rfl
  | ok g e1 => cases g <;> rfl
theorem RE_try {b : B} {h : HL} : RE (evS cf (.try_ b h) env) Q E = RE (evB cf b env) Q (fun c ks fs e => RE (evH cf h c ks fs e) Q E) := by
  rw [evS]
  cases evB cf b env <;> rfl
theorem RE_handN {c : Nat} {ks : List Str} {fs : List D} : RE (evH cf .nil c ks fs env) Q E = E c ks fs env := by rw [evH]; rfl
theorem RE_hand {n : Str} {yes no : List Nat} {i : Option Nat} {b : B} {r : HL} {c : Nat} {ks : List Str} {fs : List D} : RE (evH cf (.cons n yes no i b r) c ks fs env) Q E =
    if (yes.contains c && i.toList.all (fun j => decide (j < env.length))) = true then RE (evB (cfx cf c ks fs) b (clr i.toList env)) (fun f e => Q f (clr i.toList e)) noX
    else if no.contains c = true then RE (evH cf r c ks fs env) Q E else False := by
  rw [evH]
  split
  · cases evB (cfx cf c ks fs) b (clr i.toList env) <;> rfl
  · split <;> rfl
theorem RE_ite {c : Prop} [Decidable c] {a b : R Fw} : RE (if c then a else b) Q E = if c then RE a Q E else RE b Q E := by split <;> rfl
theorem bind_ite {α β : Type} {c : Prop} [Decidable c] {a b : R α} {k : α → Env → R β} : (if c then a else b).bind k = if c then a.bind k else b.bind k := by split <;> rfl
theorem bind_exc {α β : Type} {c : Nat} {ks : List Str} {fs : List D} {k : α → Env → R β} : (R.exc c ks fs env : R α).bind k = .exc c ks fs env := rfl
theorem nx2_nx {r : B} {e : Env} : nx2 cf r Q E .nx e = RE (evB cf r e) Q E := rfl
theorem nx2_rt {r : B} {e : Env} {d : D} : nx2 cf r Q E (.rt d) e = Q (.rt d) e := rfl
theorem nx2_bk {r : B} {e : Env} : nx2 cf r Q E .bk e = Q .bk e := rfl
theorem nx2_ct {r : B} {e : Env} : nx2 cf r Q E .ct e = Q .ct e := rfl
theorem trn_nx {P : Env → Prop} {e : Env} : trn P Q .nx e = P e := rfl
theorem trn_ct {P : Env → Prop} {e : Env} : trn P Q .ct e = P e := rfl
theorem trn_bk {P : Env → Prop} {e : Env} : trn P Q .bk e = Q .nx e := rfl
theorem trn_rt {P : Env → Prop} {e : Env} {d : D} : trn P Q (.rt d) e = Q (.rt d) e := rfl
theorem RE.mono {r : R Fw} {Q' : Fw → Env → Prop} {E' : XP} (h : RE r Q E) (k : ∀ f e, Q f e → Q' f e) (x : ∀ c ks fs e, E c ks fs e → E' c ks fs e) : RE r Q' E' := by
  cases r with
  | ok f e => exact k f e h
  | exc c ks fs e => exact x c ks fs e h
  | stuck => exact h
/-! ### loops -/
theorem RE.go {tg : Tg} {b : Env → R Fw} (P : List D → Env → Prop) (hs : ∀ x xs env, P (x :: xs) env → ∃ env1, bindT tg x env = some env1 ∧ RE (b env1) (trn (P xs) Q) E) (hd : ∀ env, P [] env → Q .nx env) :
    ∀ {xs : List D} {env : Env}, P xs env → RE (forGo tg b xs env) Q E
  | [], env, h => by rw [forGo]; exact hd env h
  | x :: xs, env, h => by
    obtain ⟨env1, h1, h2⟩ := hs x xs env h
    rw [forGo, h1]
    show RE ((b env1).bind _) Q E
    cases e : b env1 with
    | stuck => rw [e] at h2; exact h2
    | exc _ _ _ _ => rw [e] at h2; exact h2
    | ok f e' =>
      rw [e] at h2
      cases f with
      | nx => exact RE.go P hs hd h2
      | ct => exact RE.go P hs hd h2
      | bk => exact h2
      | rt d => exact h2
theorem RE.goM {α : Type} {f : α → D} {tg : Tg} {b : Env → R Fw} (P : List α → Env → Prop) (hs : ∀ x xs env, P (x :: xs) env → ∃ env1, bindT tg (f x) env = some env1 ∧ RE (b env1) (trn (P xs) Q) E) (hd : ∀ env, P [] env → Q .nx env) {l : List α} (h0 : P l env) : RE (forGo tg b (l.map f) env) Q E := by
  refine RE.go (fun xs env => ∃ l, xs = l.map f ∧ P l env) ?_ ?_ ⟨l, rfl, h0⟩
  · rintro x xs env ⟨l, e, p⟩
    cases l with
    | nil => cases e
    | cons y l =>
      cases e
      obtain ⟨env1, h1, h2⟩ := hs y l env p
      refine ⟨env1, h1, h2.mono (fun g e' h => ?_) fun _ _ _ _ h => h⟩
      cases g with
      | nx => exact ⟨l, rfl, h⟩
      | ct => exact ⟨l, rfl, h⟩
      | bk => exact h
      | rt d => exact h
  · rintro env ⟨l, e, p⟩
    cases l with
    | nil => exact hd env p
    | cons y l => cases e
theorem RE.goN {tg : Tg} {b : Env → R Fw} {lo c : Int} {n : Nat} (P : Nat → Env → Prop) (hs : ∀ i env, i < n → P i env → ∃ env1, bindT tg (.int (lo + (i : Nat) * c)) env = some env1 ∧ RE (b env1) (trn (P (i + 1)) Q) E) (hd : ∀ env, P n env → Q .nx env) (h0 : P 0 env) : RE (forGo tg b (rangeD lo n c) env) Q E := by
  refine RE.go (fun xs env => ∃ i, i ≤ n ∧ xs = (rangeD lo n c).drop i ∧ P i env) ?_ ?_ ⟨0, Nat.zero_le _, rfl, h0⟩
  · rintro x xs env ⟨i, hi, e, p⟩
    have hlt : i < n := by
      by_cases h : i < n
      · exact h
      · rw [List.drop_eq_nil_of_le (by rw [rangeD_length]; omega)] at e
        cases e
    have e2 : (rangeD lo n c).drop i = .int (lo + (i : Nat) * c) :: (rangeD lo n c).drop (i + 1) := by
      rw [List.drop_eq_getElem_cons (by rw [rangeD_length]; exact hlt)]
      congr 1
      exact (List.getElem?_eq_some_iff.mp (rangeD_at hlt)).2
    rw [e2] at e
    cases e
    obtain ⟨env1, h1, h2⟩ := hs i env hlt p
    refine ⟨env1, h1, h2.mono (fun g e' h => ?_) fun _ _ _ _ h => h⟩
    cases g with
    | nx => exact ⟨i + 1, hlt, rfl, h⟩
    | ct => exact ⟨i + 1, hlt, rfl, h⟩
    | bk => exact h
    | rt d => exact h
  · rintro env ⟨i, hi, e, p⟩
    have : i = n := by
      by_cases h : i < n
      · have := congrArg List.length e
        rw [List.length_drop, rangeD_length, List.length_nil] at this
        omega
      · omega
    subst this
    exact hd env p
theorem RE.goR {tg : Tg} {b : Env → R Fw} {n : Nat} (P : Nat → Env → Prop) (hs : ∀ i env, i < n → P i env → ∃ env1, bindT tg (.int (i : Nat)) env = some env1 ∧ RE (b env1) (trn (P (i + 1)) Q) E) (hd : ∀ env, P n env → Q .nx env) (h0 : P 0 env) : RE (forGo tg b (rangeD 0 n 1) env) Q E :=
  RE.goN P (fun i env hi p => by rw [Int.zero_add, Int.mul_one]; exact hs i env hi p) hd h0
/-- a while, its turns bounded by m -/
theorem RE.whl {t : Env → R Bool} {b : Env → R Fw} (P : Nat → Env → Prop) (hs : ∀ m env, P m env → ∃ c env1, t env = .ok c env1 ∧ (if c = true then RE (b env1) (trn (fun e => ∃ m', m' < m ∧ P m' e) Q) E else Q .nx env1)) :
    ∀ {n m : Nat} {env : Env}, m < n → P m env → RE (whlGo t b n env) Q E
  | 0, m, env, h, _ => absurd h (Nat.not_lt_zero m)
  | n + 1, m, env, h, p => by
    obtain ⟨c, env1, h1, h2⟩ := hs m env p
    rw [whlGo, h1]
    cases c with
    | false => exact h2
    | true =>
      rw [if_pos rfl] at h2
      show RE ((b env1).bind _) Q E
      cases e : b env1 with
      | stuck => rw [e] at h2; exact h2
      | exc _ _ _ _ => rw [e] at h2; exact h2
      | ok f e' =>
        rw [e] at h2
        cases f with
        | nx => obtain ⟨m', l, p'⟩ := h2; exact RE.whl P hs (n := n) (by omega) p'
        | ct => obtain ⟨m', l, p'⟩ := h2; exact RE.whl P hs (n := n) (by omega) p'
        | bk => exact h2
        | rt d => exact h2
end
theorem fin_rt {ks : List Bool} {ds : List D} {P : D → List D → Prop} {d : D} {e : Env} : fin ks ds P (.rt d) e = ∃ os, outS ks ds e = some os ∧ P d os := rfl
theorem fin_nx {ks : List Bool} {ds : List D} {P : D → List D → Prop} {e : Env} : fin ks ds P .nx e = ∃ os, outS ks ds e = some os ∧ P .non os := rfl
/-- an exception's end -/
def fix (ks : List Bool) (ds : List D) (P : Nat → List Str → List D → List D → Prop) : XP := fun c xs fs e => ∃ os, outS ks ds e = some os ∧ P c xs fs os
theorem fix_eq {ks : List Bool} {ds : List D} {P : Nat → List Str → List D → List D → Prop} {c : Nat} {xs : List Str} {fs : List D} {e : Env} : fix ks ds P c xs fs e = ∃ os, outS ks ds e = some os ∧ P c xs fs os := rfl
section
variable {ft : Nat → Option Fn} {n f : Nat} {fn : Fn} {ds : List D}
theorem RE.run {P : D → List D → Prop} {X : Nat → List Str → List D → List D → Prop} (hf : ft f = some fn) (hl : ds.length = fn.np) (h : RE (evB (run ft n) fn.body (ds.map some ++ List.replicate (fn.ns - fn.np) none)) (fin fn.keep ds P) (fix fn.keep ds X)) :
    (∃ d os, Z.run ft (n + 1) f ds = .ok d os ∧ P d os) ∨ ∃ c ks fs os, Z.run ft (n + 1) f ds = .exc c ks fs os ∧ X c ks fs os := by
  rw [Z.run, hf]
  simp only [hl, if_true]
  cases e : evB (Z.run ft n) fn.body (ds.map some ++ List.replicate (fn.ns - fn.np) none) with
  | stuck => rw [e] at h; exact h.elim
  | exc c ks fs e1 =>
    rw [e] at h
    obtain ⟨os, h3, h4⟩ := h
    exact .inr ⟨c, ks, fs, os, by simp only [h3], h4⟩
  | ok g e1 =>
    rw [e] at h
    cases g with
    | rt d =>
      obtain ⟨os, h3, h4⟩ := h
      exact .inl ⟨d, os, by simp only [h3], h4⟩
    | nx =>
      obtain ⟨os, h3, h4⟩ := h
      exact .inl ⟨.non, os, by simp only [h3], h4⟩
    | bk => exact h.elim
    | ct => exact h.elim
theorem RE.of {P : D → List D → Prop} (hf : ft f = some fn) (hl : ds.length = fn.np) (h : RE (evB (Z.run ft n) fn.body (ds.map some ++ List.replicate (fn.ns - fn.np) none)) (fin fn.keep ds P) noX) : ∃ d os, Z.run ft (n + 1) f ds = .ok d os ∧ P d os := by
  rcases RE.run (X := fun _ _ _ _ => False) hf hl (h.mono (fun _ _ h => h) fun _ _ _ _ h => h.elim) with h | ⟨_, _, _, _, _, h⟩
  · exact h
  · exact h.elim
theorem RE.eq {d : D} {os : List D} (hf : ft f = some fn) (hl : ds.length = fn.np) (h : RE (evB (Z.run ft n) fn.body (ds.map some ++ List.replicate (fn.ns - fn.np) none)) (fin fn.keep ds fun d' os' => d' = d ∧ os' = os) noX) : Z.run ft (n + 1) f ds = .ok d os := by
  obtain ⟨d', os', h1, rfl, rfl⟩ := RE.of hf hl h
  exact h1
theorem RE.exc {c : Nat} {ks : List Str} {fs os : List D} (hf : ft f = some fn) (hl : ds.length = fn.np) (h : RE (evB (Z.run ft n) fn.body (ds.map some ++ List.replicate (fn.ns - fn.np) none)) (fun _ _ => False) (fix fn.keep ds fun c' ks' fs' os' => c' = c ∧ ks' = ks ∧ fs' = fs ∧ os' = os)) : Z.run ft (n + 1) f ds = .exc c ks fs os := by
  rcases RE.run (P := fun _ _ => False) hf hl (h.mono (fun _ _ z => z.elim) fun _ _ _ _ z => z) with ⟨_, _, _, z⟩ | ⟨_, _, _, _, z, rfl, rfl, rfl, rfl⟩
  · exact z.elim
  · exact z
end
/-! ### small rules with sizes -/
theorem ex_some {α : Type} {a : α} {p : α → Prop} : (∃ x, some a = some x ∧ p x) = p a := propext ⟨fun ⟨_, h, q⟩ => by cases h; exact q, fun q => ⟨a, rfl, q⟩⟩
theorem mt_appL {ds : List D} {d : D} (h : ds.length ≤ 1000000) : mtS .append (.lst .own ds) [d] = some (.non, .lst .own (ds ++ [d])) := mt_app (smallLt h)
theorem mt_rev {ds : List D} : mtS .reverse (.lst .own ds) [] = some (.non, .lst .own ds.reverse) := rfl
theorem bd_int {i : Int} (h : -1000000 ≤ i) (k : i ≤ 1000000) : bd i = true := decide_eq_true (Nat.lt_of_le_of_lt (show i.natAbs ≤ 1000000 by omega) (by decide))
theorem dI_app (a b : List Int) : dI a ++ dI b = dI (a ++ b) := List.map_append.symm
theorem own_scr : (Fl.own != Fl.scr) = true := rfl
theorem cut_drop {α : Type} {l : List α} {k : Int} (h : 0 ≤ k) : cut l (some k) none = l.drop k.toNat := by
  unfold cut HT.sIx
  simp only []
  rw [if_neg (by omega)]
  by_cases hk : k.toNat ≤ l.length
  · rw [Nat.min_eq_left (by omega)]
    exact List.take_of_length_le (by rw [List.length_drop]; omega)
  · rw [Nat.min_eq_right (by omega), List.drop_eq_nil_of_le (Nat.le_refl _), List.drop_eq_nil_of_le (by omega)]
    simp
theorem cut_mid {α : Type} {l : List α} {j k : Nat} (h : j ≤ k) : cut l (some (j : Int)) (some (k : Int)) = (l.drop j).take (k - j) := by
  unfold cut
  rw [HT.sIx_nat, HT.sIx_nat]
  by_cases hk : j ≤ l.length
  · rw [Nat.min_eq_left hk, List.take_eq_take_iff, List.length_drop]
    omega
  · have e1 : min j l.length = l.length := by omega
    have e2 : min k l.length = l.length := by omega
    rw [e1, e2, List.drop_eq_nil_of_le (Nat.le_refl _), List.drop_eq_nil_of_le (show l.length ≤ j by omega)]
    simp
theorem stoS_at {ds : List D} {k : Nat} {x : D} (h : k < ds.length) : stoS (.lst .own ds) (.int (k : Nat)) x = some (.lst .own (ds.set k x)) := by
  unfold stoS ixN
  simp only []
  rw [if_pos (Int.natCast_nonneg k), if_pos (by omega)]
  rfl
end Z
namespace Z
theorem eqS_lst {f f' : Fl} {ds : List D} (h : depDs 59 ds = true) : eqS (.lst f ds) (.lst f' ds) = some (.bl true) := by
  have e : eqv (.lst f ds) (.lst f' ds) = true := PySem.SeqAt.eqv_refl _ (dep_lay (d := .lst f ds) (n := 60) h).1
  unfold eqS
  simp only [dep_l, h, e, Bool.and_self, if_true]
theorem bk_map {α : Type} {f : α → D} {B : Nat} : ∀ {l : List α}, (∀ x ∈ l, bkD (f x) ≤ B) → bkDs (l.map f) ≤ l.length * (B + 1)
  | [], _ => Nat.zero_le _
  | x :: l, h => by
    have h1 := h x List.mem_cons_self
    have h2 := bk_map (l := l) fun y hy => h y (List.mem_cons_of_mem _ hy)
    show bkD (f x) + 1 + bkDs (l.map f) ≤ _
    rw [List.length_cons, Nat.succ_mul]
    omega
theorem bk_tup {ds : List D} : bkD (.tup ds) = bkDs ds := rfl
theorem bk_int {i : Int} : bkD (.int i) = 0 := rfl
theorem bk_cons {d : D} {ds : List D} : bkDs (d :: ds) = bkD d + 1 + bkDs ds := rfl
theorem bk_nil : bkDs [] = 0 := rfl
/-- what repr of a list tells -/
def shwL (ds : List D) : PySem.Str := (toPy (.lst .own ds)).shown
theorem reprL {α : Type} {f : α → D} {l : List α} {fl : Fl} (B : Nat) (h1 : ∀ x, depD 59 (f x) = true) (h2 : ∀ x ∈ l, smD (f x) = true) (h3 : ∀ x ∈ l, bkD (f x) ≤ B) (h4 : l.length * (B + 1) ≤ 2 ^ 20) : reprS (.lst fl (l.map f)) = some (.str (shwL (l.map f))) := by
  have := repr_ok (d := .lst fl (l.map f)) (by rw [dep_l]; exact dep_map h1 l) (sm_map l h2) (Nat.le_trans (bk_map h3) h4)
  rw [this]
  rfl
theorem sm_int {i : Int} (h : i.natAbs < 10 ^ 12) : smD (.int i) = true := decide_eq_true h
end Z
namespace Z
/-! ### comprehensions -/
def LcE (r : R Itm) (K : D → Env → Prop) : Prop := match r with
  | .ok (.tmp d) e => K d e
  | _ => False
theorem LcE_ok {d : D} {e : Env} {K : D → Env → Prop} : LcE (.ok (.tmp d) e) K = K d e := rfl
theorem LcE_ite {c : Prop} [Decidable c] {a b : R Itm} {K : D → Env → Prop} : LcE (if c then a else b) K = if c then LcE a K else LcE b K := by split <;> rfl
def LcT (r : R Bool) (K : Bool → Env → Prop) : Prop := match r with
  | .ok b e => K b e
  | _ => False
theorem LcT_ok {b : Bool} {e : Env} {K : Bool → Env → Prop} : LcT (.ok b e) K = K b e := rfl
theorem lc_goC {el : Env → R Itm} {ts : Env → R Bool} {tg : Tg} {own : List Nat} (P : List D → List D → Env → Prop)
    (hs : ∀ x xs acc env, P (x :: xs) acc env → ∃ env1, bindT tg x (clr own env) = some env1 ∧ LcT (ts env1) fun b env2 => if b = true then LcE (el env2) fun d env3 => acc.length ≤ 1000000 ∧ P xs (acc ++ [d]) env3 else P xs acc env2) :
    ∀ {xs acc : List D} {env : Env}, P xs acc env → ∃ acc' env', lcGo el ts tg own xs acc env = .ok acc' env' ∧ P [] acc' env' := by
  intro xs acc env h
  refine lc_go P (fun x xs acc env h => ?_) h
  obtain ⟨env1, h1, h2⟩ := hs x xs acc env h
  cases e : ts env1 with
  | stuck => rw [e] at h2; exact h2.elim
  | exc _ _ _ _ => rw [e] at h2; exact h2.elim
  | ok b env2 =>
    rw [e] at h2
    refine ⟨env1, b, env2, h1, e, ?_⟩
    have h2 : if b = true then LcE (el env2) fun d env3 => acc.length ≤ 1000000 ∧ P xs (acc ++ [d]) env3 else P xs acc env2 := h2
    cases b with
    | false => exact h2
    | true =>
      rw [if_pos rfl] at h2 ⊢
      cases e2 : el env2 with
      | stuck => rw [e2] at h2; exact h2.elim
      | exc _ _ _ _ => rw [e2] at h2; exact h2.elim
      | ok it env3 =>
        rw [e2] at h2
        cases it with
        | ref _ _ => exact h2.elim
        | tmp d => exact ⟨d, env3, rfl, smallLt h2.1, h2.2⟩
theorem lc_goT {el : Env → R Itm} {tg : Tg} {own : List Nat} (P : List D → List D → Env → Prop)
    (hs : ∀ x xs acc env, P (x :: xs) acc env → ∃ env1, bindT tg x (clr own env) = some env1 ∧ LcE (el env1) fun d env3 => acc.length ≤ 1000000 ∧ P xs (acc ++ [d]) env3) :
    ∀ {xs acc : List D} {env : Env}, P xs acc env → ∃ acc' env', lcGo el (fun env => R.ok true env) tg own xs acc env = .ok acc' env' ∧ P [] acc' env' :=
  lc_goC P fun x xs acc env h => by
    obtain ⟨env1, h1, h2⟩ := hs x xs acc env h
    exact ⟨env1, h1, h2⟩
theorem pureD_ite {f : Fl} {ds : List D} {α : Type} {a : α} : (if pureD (.lst f ds) = true then a else a) = a := by split <;> rfl
end Z
namespace Z
theorem pureD_own {ds : List D} : pureD (.lst .own ds) = false := rfl
theorem pureD_frz {ds : List D} : pureD (.lst .frz ds) = true := rfl
theorem pureD_scr {ds : List D} : pureD (.lst .scr ds) = true := rfl
theorem pureD_tup {ds : List D} : pureD (.tup ds) = true := rfl
theorem pureD_int {i : Int} : pureD (.int i) = true := rfl
theorem pureD_str {i : PySem.Str} : pureD (.str i) = true := rfl
theorem pureD_bl {i : Bool} : pureD (.bl i) = true := rfl
theorem pureD_non : pureD .non = true := rfl
theorem pureD_io {c : Nat} {ks : List PySem.Str} {ds : List D} : pureD (.ins .own c ks ds) = false := rfl
theorem pureD_if {c : Nat} {ks : List PySem.Str} {ds : List D} : pureD (.ins .frz c ks ds) = true := rfl
theorem pureD_is {c : Nat} {ks : List PySem.Str} {ds : List D} : pureD (.ins .scr c ks ds) = true := rfl
end Z
namespace Z
theorem dI_snoc (xs : List Int) (x : Int) : dI xs ++ [D.int x] = dI (xs ++ [x]) := (List.map_append (l₁ := xs) (l₂ := [x])).symm
theorem map_snoc {α : Type} {f : α → D} (xs : List α) (x : α) : xs.map f ++ [f x] = (xs ++ [x]).map f := (List.map_append (l₁ := xs) (l₂ := [x])).symm
end Z
namespace Z
theorem mt_popI {xs : List Int} {x : Int} : mtS .pop (.lst .own (dI (xs ++ [x]))) [] = some (.int x, .lst .own (dI xs)) := by
  rw [← dI_snoc]
  exact mt_pop'
theorem mt_popM {α : Type} {f : α → D} {xs : List α} {x : α} : mtS .pop (.lst .own ((xs ++ [x]).map f)) [] = some (f x, .lst .own (xs.map f)) := by
  rw [← map_snoc]
  exact mt_pop'
end Z
namespace Z
theorem eqv_dI : ∀ a b : List Int, PySem.PyData.eqvAll (toPys (dI a)) (toPys (dI b)) = decide (a = b)
  | [], [] => rfl
  | [], _ :: _ => rfl
  | _ :: _, [] => rfl
  | x :: a, y :: b => by
    show ((x == y) && PySem.PyData.eqvAll (toPys (dI a)) (toPys (dI b))) = _
    rw [eqv_dI a b]
    by_cases h : x = y
    · subst h
      simp
    · simp [h]
theorem eqS_dI {a b : List Int} : eqS (.tup (dI a)) (.tup (dI b)) = some (.bl (decide (a = b))) := by
  have h : ∀ x : List Int, depD 60 (.tup (dI x)) = true := fun x => dep_dI x
  show (if (depD 60 (.tup (dI a)) && depD 60 (.tup (dI b))) = true then some (D.bl (PySem.PyData.eqvAll (toPys (dI a)) (toPys (dI b)))) else none) = _
  rw [h, h, eqv_dI]
  rfl
theorem neS_dI {a b : List Int} : neS (.tup (dI a)) (.tup (dI b)) = some (.bl (!decide (a = b))) := by
  have h : ∀ x : List Int, depD 60 (.tup (dI x)) = true := fun x => dep_dI x
  show (if (depD 60 (.tup (dI a)) && depD 60 (.tup (dI b))) = true then some (D.bl (!PySem.PyData.eqvAll (toPys (dI a)) (toPys (dI b)))) else none) = _
  rw [h, h, eqv_dI]
  rfl
theorem cut_one {α : Type} {l : List α} {m : Nat} : cut l (some (m : Int)) (some ((m : Int) + 1)) = (l.drop m).take 1 := by
  rw [show ((m : Int) + 1) = ((m + 1 : Nat) : Int) by omega, cut_mid (Nat.le_succ m), show m + 1 - m = 1 by omega]
end Z
namespace Z
theorem ltS_int {i j : Int} : ltS (.int i) (.int j) = some (.bl (decide (i < j))) := rfl
theorem isTy_int_int {i : Int} : isTyS "int" (.int i) = some (.bl true) := rfl
theorem isTy_int_bool {b : Bool} : isTyS "int" (.bl b) = some (.bl true) := rfl
theorem isTy_int_str {s : PySem.Str} : isTyS "int" (.str s) = some (.bl false) := rfl
theorem isTy_int_tuple {ds : List D} : isTyS "int" (.tup ds) = some (.bl false) := rfl
theorem isTy_int_list {f : Fl} {ds : List D} : isTyS "int" (.lst f ds) = some (.bl false) := rfl
theorem isTy_int_NoneType  : isTyS "int" (.non) = some (.bl false) := rfl
theorem isTy_bool_int {i : Int} : isTyS "bool" (.int i) = some (.bl false) := rfl
theorem isTy_bool_bool {b : Bool} : isTyS "bool" (.bl b) = some (.bl true) := rfl
theorem isTy_bool_str {s : PySem.Str} : isTyS "bool" (.str s) = some (.bl false) := rfl
theorem isTy_bool_tuple {ds : List D} : isTyS "bool" (.tup ds) = some (.bl false) := rfl
theorem isTy_bool_list {f : Fl} {ds : List D} : isTyS "bool" (.lst f ds) = some (.bl false) := rfl
theorem isTy_bool_NoneType  : isTyS "bool" (.non) = some (.bl false) := rfl
theorem isTy_str_int {i : Int} : isTyS "str" (.int i) = some (.bl false) := rfl
theorem isTy_str_bool {b : Bool} : isTyS "str" (.bl b) = some (.bl false) := rfl
theorem isTy_str_str {s : PySem.Str} : isTyS "str" (.str s) = some (.bl true) := rfl
theorem isTy_str_tuple {ds : List D} : isTyS "str" (.tup ds) = some (.bl false) := rfl
theorem isTy_str_list {f : Fl} {ds : List D} : isTyS "str" (.lst f ds) = some (.bl false) := rfl
theorem isTy_str_NoneType  : isTyS "str" (.non) = some (.bl false) := rfl
theorem isTy_tuple_int {i : Int} : isTyS "tuple" (.int i) = some (.bl false) := rfl
theorem isTy_tuple_bool {b : Bool} : isTyS "tuple" (.bl b) = some (.bl false) := rfl
theorem isTy_tuple_str {s : PySem.Str} : isTyS "tuple" (.str s) = some (.bl false) := rfl
theorem isTy_tuple_tuple {ds : List D} : isTyS "tuple" (.tup ds) = some (.bl true) := rfl
theorem isTy_tuple_list {f : Fl} {ds : List D} : isTyS "tuple" (.lst f ds) = some (.bl false) := rfl
theorem isTy_tuple_NoneType  : isTyS "tuple" (.non) = some (.bl false) := rfl
theorem isTy_list_int {i : Int} : isTyS "list" (.int i) = some (.bl false) := rfl
theorem isTy_list_bool {b : Bool} : isTyS "list" (.bl b) = some (.bl false) := rfl
theorem isTy_list_str {s : PySem.Str} : isTyS "list" (.str s) = some (.bl false) := rfl
theorem isTy_list_tuple {ds : List D} : isTyS "list" (.tup ds) = some (.bl false) := rfl
theorem isTy_list_list {f : Fl} {ds : List D} : isTyS "list" (.lst f ds) = some (.bl true) := rfl
theorem isTy_list_NoneType  : isTyS "list" (.non) = some (.bl false) := rfl
end Z
namespace Z
theorem pures_nil : pures [] = true := rfl
theorem pures_cons {d : D} {ds : List D} : pures (d :: ds) = (pureD d && pures ds) := rfl
end Z
namespace Z
theorem bT_nm {i : Nat} {d : D} {env : Env} : bindT (.nm i) d env = setS env i d := by rw [bindT]
theorem bT_tup {ts : TgL} {ds : List D} {env : Env} : bindT (.tup ts) (.tup ds) env = bindTs ts ds env := by rw [bindT]
theorem bT_nil {env : Env} : bindTs .nil [] env = some env := by rw [bindTs]
theorem bT_cons {t : Tg} {r : TgL} {d : D} {ds : List D} {env : Env} : bindTs (.cons t r) (d :: ds) env = (bindT t d env).bind fun env => bindTs r ds env := by rw [bindTs]
end Z
namespace Z
theorem frz_scr : (Fl.frz != Fl.scr) = true := rfl
end Z
namespace Z
theorem ex_some1 {α : Type} {a : α} : (∃ x, some a = some x) = True := eq_true ⟨a, rfl⟩
end Z

namespace Law
open Z
def b0_1 : B :=
 .cons (.iff (.val (.pr .ne (.cons (.pk (.v 3)) (.cons (.pk (.v 4)) .nil)))) (.cons (.brk) .nil) (.nil))
 (.cons (.aug 2 .add (.c (.int 1))) .nil)
def b0_2 : B :=
 .cons (.ret (.rd (.v 2))) .nil
/-- shared -/
def b0 : B :=
 .cons (.asg (.nm 2) (.c (.int 0)))
 (.cons (.for (.tup (.cons (.nm 3) (.cons (.nm 4) (.nil)))) (.zipT (.rd (.v 0)) (.rd (.v 1))) b0_1) b0_2)
def f0 : Fn := ⟨2, 5, [true, true], b0⟩
def b1_1 : B :=
 .cons (.exp (.mt .append (.v 1) (.cons (.call 0 (.cons (.pk (.v 3)) (.cons (.pk (.v 2)) .nil))) .nil)))
 (.cons (.asg (.nm 2) (.fz (.v 3))) .nil)
def b1_2 : B :=
 .cons (.ret (.mv 1)) .nil
/-- offsets_of -/
def b1 : B :=
 .cons (.asg (.nm 1) (.lst (.nil)))
 (.cons (.asg (.nm 2) (.tup (.nil)))
 (.cons (.for (.nm 3) (.lst (.pk (.v 0))) b1_1) b1_2))
def f1 : Fn := ⟨1, 4, [true], b1⟩
def e2_1 : E :=
 .tup (.cons (.fz (.v 1)) (.cons (.pr (.slice true false) (.cons (.pk (.v 2)) (.cons (.pk (.v 1)) .nil))) .nil))
/-- cut_row -/
def b2 : B :=
 .cons (.ret (.lc [1, 2] e2_1 (.tup (.cons (.nm 1) (.cons (.nm 2) (.nil)))) (.zip (.call 1 (.cons (.pk (.v 0)) .nil)) (.pk (.v 0))) .yes)) .nil
def f2 : Fn := ⟨1, 3, [true], b2⟩
def b3_1 : B :=
 .cons (.iff (.not (.val (.chn .le .le (.c (.int 0)) (.rd (.v 5)) (.pr .len (.cons (.pk (.v 2)) .nil))))) (.cons (.rse "BadRow" 1 ["at"] (.cons (.rd (.v 3)) .nil)) .nil) (.nil))
 (.cons (.asg (.nm 4) (.pr .add (.cons (.pr (.slice false true) (.cons (.pk (.v 2)) (.cons (.pk (.v 5)) .nil))) (.cons (.pk (.v 6)) .nil))))
 (.cons (.iff (.val (.pr .ne (.cons (.call 0 (.cons (.pk (.v 4)) (.cons (.pk (.v 2)) .nil))) (.cons (.pk (.v 5)) .nil)))) (.cons (.rse "BadRow" 1 ["at"] (.cons (.rd (.v 3)) .nil)) .nil) (.nil))
 (.cons (.exp (.mt .append (.v 1) (.cons (.fz (.v 4)) .nil)))
 (.cons (.asg (.nm 2) (.fz (.v 4))) .nil))))
def b3_2 : B :=
 .cons (.ret (.mv 1)) .nil
/-- read_cut_row -/
def b3 : B :=
 .cons (.asg (.nm 1) (.lst (.nil)))
 (.cons (.asg (.nm 2) (.tup (.nil)))
 (.cons (.for (.tup (.cons (.nm 3) (.cons (.tup (.cons (.nm 5) (.cons (.nm 6) (.nil)))) (.nil)))) (.enm (.pk (.v 0))) b3_1) b3_2))
def f3 : Fn := ⟨1, 7, [true], b3⟩
def b4_1 : B :=
 .cons (.asg (.nm 3) (.pr .fdiv (.cons (.pk (.v 3)) (.cons (.c (.int 1000)) .nil))))
 (.cons (.iff (.val (.pr .gt (.cons (.pk (.v 3)) (.cons (.c (.int 0)) .nil)))) (.cons (.exp (.mt .append (.v 1) (.cons (.pr .mod (.cons (.pk (.v 3)) (.cons (.c (.int 1000)) .nil))) .nil))) .nil) (.nil)) .nil)
def b4_2 : B :=
 .cons (.asg (.nm 3) (.pr .mod (.cons (.pr .int (.cons (.pk (.v 2)) .nil)) (.cons (.pr .pow (.cons (.c (.int 10)) (.cons (.c (.int 60)) .nil))) .nil))))
 (.cons (.exp (.mt .append (.v 1) (.cons (.pr .mod (.cons (.pk (.v 3)) (.cons (.c (.int 1000)) .nil))) .nil)))
 (.cons (.for (.nm 4) (.rng1 (.c (.int 19))) b4_1) .nil))
def b4_3 : B :=
 .cons (.ret (.pr .add (.cons (.lst (.cons (.c (.int 1)) (.cons (.pr .mod (.cons (.pr .sum (.cons (.pk (.v 1)) .nil)) (.cons (.c (.int 997)) .nil))) .nil))) (.cons (.pr .rev (.cons (.pk (.v 1)) .nil)) .nil)))) .nil
/-- _law_start -/
def b4 : B :=
 .cons (.asg (.nm 1) (.lst (.nil)))
 (.cons (.for (.nm 2) (.lst (.pr (.slice false true) (.cons (.pk (.v 0)) (.cons (.c (.int 63)) .nil)))) b4_2) b4_3)
def f4 : Fn := ⟨1, 5, [true], b4⟩
/-- _law_draw -/
def b5 : B :=
 .cons (.iff (.val (.pr .gt (.cons (.pr .len (.cons (.pk (.v 0)) .nil)) (.cons (.c (.int 2)) .nil)))) (.cons (.ret (.pr .mod (.cons (.pr .int (.cons (.mt .pop (.v 0) (.nil)) .nil)) (.cons (.pk (.v 1)) .nil)))) .nil) (.nil))
 (.cons (.asg (.nm 2) (.pr .mod (.cons (.pr .int (.cons (.pr .add (.cons (.pr .item (.cons (.pk (.v 0)) (.cons (.c (.int 0)) .nil))) (.cons (.pr .item (.cons (.pk (.v 0)) (.cons (.c (.int 1)) .nil))) .nil))) .nil)) (.cons (.c (.int 997)) .nil))))
 (.cons (.stoI (.v 0) (.c (.int 0)) (.pr .item (.cons (.pk (.v 0)) (.cons (.c (.int 1)) .nil))))
 (.cons (.stoI (.v 0) (.c (.int 1)) (.rd (.v 2)))
 (.cons (.ret (.pr .mod (.cons (.pk (.v 2)) (.cons (.pk (.v 1)) .nil)))) .nil))))
def f5 : Fn := ⟨2, 3, [true, true], b5⟩
def e6_1 : E :=
 .call 5 (.cons (.pk (.v 0)) (.cons (.pk (.v 2)) .nil))
def b6_2 : B :=
 .cons (.asg (.nm 8) (.lc [9] e6_1 (.nm 9) (.rng1 (.rd (.v 7))) .yes))
 (.cons (.asg (.nm 4) (.pr (.slice false true) (.cons (.pr .add (.cons (.pr (.slice false true) (.cons (.pk (.v 4)) (.cons (.pk (.v 6)) .nil))) (.cons (.pr .tuple (.cons (.pk (.v 8)) .nil)) .nil))) (.cons (.c (.int 60)) .nil))))
 (.cons (.exp (.mt .append (.v 3) (.cons (.fz (.v 4)) .nil))) .nil))
def b6_3 : B :=
 .cons (.iff (.val (.pr .eq (.cons (.call 5 (.cons (.pk (.v 0)) (.cons (.c (.int 4)) .nil))) (.cons (.c (.int 0)) .nil)))) (.cons (.asg (.nm 6) (.pr .len (.cons (.pk (.v 4)) .nil))) .nil) (.nil)) b6_2
def b6_4 : B :=
 .cons (.asg (.nm 6) (.call 5 (.cons (.pk (.v 0)) (.cons (.pr .add (.cons (.pr .len (.cons (.pk (.v 4)) .nil)) (.cons (.c (.int 1)) .nil))) .nil))))
 (.cons (.asg (.nm 7) (.call 5 (.cons (.pk (.v 0)) (.cons (.c (.int 5)) .nil))))
 (.cons (.iff (.val (.pr .eq (.cons (.call 5 (.cons (.pk (.v 0)) (.cons (.c (.int 16)) .nil))) (.cons (.c (.int 0)) .nil)))) (.cons (.asg (.nm 7) (.c (.int 50))) .nil) (.nil)) b6_3))
def b6_5 : B :=
 .cons (.ret (.mv 3)) .nil
/-- _law_some_codes -/
def b6 : B :=
 .cons (.asg (.nm 1) (.pr .item (.cons (.lst (.cons (.call 5 (.cons (.pk (.v 0)) (.cons (.c (.int 8)) .nil))) (.cons (.c (.int 58)) .nil))) (.cons (.pr .int (.cons (.pr .eq (.cons (.call 5 (.cons (.pk (.v 0)) (.cons (.c (.int 8)) .nil))) (.cons (.c (.int 0)) .nil))) .nil)) .nil))))
 (.cons (.asg (.nm 2) (.pr .item (.cons (.lst (.cons (.c (.int 2)) (.cons (.c (.int 3)) (.cons (.c (.int 256)) .nil)))) (.cons (.call 5 (.cons (.pk (.v 0)) (.cons (.c (.int 3)) .nil))) .nil))))
 (.cons (.asg (.nm 3) (.lst (.nil)))
 (.cons (.asg (.nm 4) (.tup (.nil)))
 (.cons (.for (.nm 5) (.rng1 (.rd (.v 1))) b6_4) b6_5))))
def f6 : Fn := ⟨1, 10, [true], b6⟩
def b7_1 : B :=
 .cons (.iff (.and (.val (.pr .eq (.cons (.pk (.v 2)) (.cons (.pk (.v 3)) .nil)))) (.val (.pr .eq (.cons (.pr .item (.cons (.pk (.v 0)) (.cons (.pk (.v 3)) .nil))) (.cons (.pr .item (.cons (.pk (.v 1)) (.cons (.pk (.v 3)) .nil))) .nil))))) (.cons (.asg (.nm 2) (.pr .add (.cons (.pk (.v 2)) (.cons (.c (.int 1)) .nil)))) .nil) (.nil)) .nil
def b7_2 : B :=
 .cons (.ret (.rd (.v 2))) .nil
/-- _law_walk -/
def b7 : B :=
 .cons (.asg (.nm 2) (.c (.int 0)))
 (.cons (.for (.nm 3) (.rng1 (.pr .min2 (.cons (.pr .len (.cons (.pk (.v 0)) .nil)) (.cons (.pr .len (.cons (.pk (.v 1)) .nil)) .nil)))) b7_1) b7_2)
def f7 : Fn := ⟨2, 4, [true, true], b7⟩
def b8_1 : B :=
 .cons (.asg (.nm 4) (.call 7 (.cons (.pk (.v 3)) (.cons (.pk (.v 2)) .nil))))
 (.cons (.exp (.mt .append (.v 1) (.cons (.tup (.cons (.rd (.v 4)) (.cons (.pr (.slice true false) (.cons (.pk (.v 3)) (.cons (.pk (.v 4)) .nil))) .nil))) .nil)))
 (.cons (.asg (.nm 2) (.fz (.v 3))) .nil))
def b8_2 : B :=
 .cons (.ret (.mv 1)) .nil
/-- _law_cut -/
def b8 : B :=
 .cons (.asg (.nm 1) (.lst (.nil)))
 (.cons (.asg (.nm 2) (.tup (.nil)))
 (.cons (.for (.nm 3) (.lst (.pk (.v 0))) b8_1) b8_2))
def f8 : Fn := ⟨1, 5, [true], b8⟩
def b9_1 : B :=
 .cons (.iff (.or (.val (.pr .lt (.cons (.pk (.v 3)) (.cons (.c (.int 0)) .nil)))) (.val (.pr .gt (.cons (.pk (.v 3)) (.cons (.pr .len (.cons (.pk (.v 2)) .nil)) .nil))))) (.cons (.ret (.tup (.cons (.c (.str "bad")) (.cons (.pr .len (.cons (.pk (.v 1)) .nil)) .nil)))) .nil) (.nil))
 (.cons (.iff (.and (.val (.pr .lt (.cons (.pk (.v 3)) (.cons (.pr .len (.cons (.pk (.v 2)) .nil)) .nil)))) (.val (.pr .eq (.cons (.pr (.slice false true) (.cons (.pk (.v 4)) (.cons (.c (.int 1)) .nil))) (.cons (.pr (.slice true true) (.cons (.pk (.v 2)) (.cons (.pk (.v 3)) (.cons (.pr .add (.cons (.pk (.v 3)) (.cons (.c (.int 1)) .nil))) .nil)))) .nil))))) (.cons (.ret (.tup (.cons (.c (.str "bad")) (.cons (.pr .len (.cons (.pk (.v 1)) .nil)) .nil)))) .nil) (.nil))
 (.cons (.asg (.nm 2) (.pr .add (.cons (.pr (.slice false true) (.cons (.pk (.v 2)) (.cons (.pk (.v 3)) .nil))) (.cons (.pk (.v 4)) .nil))))
 (.cons (.exp (.mt .append (.v 1) (.cons (.fz (.v 2)) .nil))) .nil)))
def b9_2 : B :=
 .cons (.ret (.tup (.cons (.c (.str "good")) (.cons (.fz (.v 1)) .nil)))) .nil
/-- _law_read -/
def b9 : B :=
 .cons (.asg (.nm 1) (.lst (.nil)))
 (.cons (.asg (.nm 2) (.tup (.nil)))
 (.cons (.for (.tup (.cons (.nm 3) (.cons (.nm 4) (.nil)))) (.lst (.pk (.v 0))) b9_1) b9_2))
def f9 : Fn := ⟨1, 5, [true], b9⟩
def b10_1 : B :=
 .cons (.asg (.nm 4) (.call 3 (.cons (.pk (.v 2)) .nil))) .nil
def b10_2 : B :=
 .cons (.ret (.andV (.pr .eq (.cons (.pr .repr (.cons (.tup (.cons (.c (.str "bad")) (.cons (.xf 3 "at") .nil))) .nil)) (.cons (.pr .repr (.cons (.pk (.v 1)) .nil)) .nil))) (.pr .eq (.cons (.pk (.v 2)) (.cons (.pk (.v 0)) .nil))))) .nil
def b10_3 : B :=
 .cons (.iff (.or (.val (.pr .ne (.cons (.pr .item (.cons (.pk (.v 1)) (.cons (.c (.int 0)) .nil))) (.cons (.c (.str "good")) .nil)))) (.or (.not (.val (.pr (.isTy "list") (.cons (.pk (.v 4)) .nil)))) (.val (.pr .ne (.cons (.pr .repr (.cons (.pk (.v 4)) .nil)) (.cons (.pr .repr (.cons (.pr .item (.cons (.pk (.v 1)) (.cons (.c (.int 1)) .nil))) .nil)) .nil)))))) (.cons (.ret (.c (.bl false))) .nil) (.nil))
 (.cons (.exp (.mt .append (.v 4) (.cons (.tup (.nil)) .nil)))
 (.cons (.ret (.andV (.pr .eq (.cons (.pk (.v 2)) (.cons (.pk (.v 0)) .nil))) (.pr .eq (.cons (.pr .repr (.cons (.call 3 (.cons (.pk (.v 2)) .nil)) .nil)) (.cons (.pr .repr (.cons (.pr .item (.cons (.pk (.v 1)) (.cons (.c (.int 1)) .nil))) .nil)) .nil))))) .nil))
/-- _law_read_ok -/
def b10 : B :=
 .cons (.asg (.nm 1) (.call 9 (.cons (.pk (.v 0)) .nil)))
 (.cons (.asg (.nm 2) (.pr .list (.cons (.pk (.v 0)) .nil)))
 (.cons (.try_ b10_1 (.cons "BadRow" [1] [] (some 3) b10_2 .nil)) b10_3))
def f10 : Fn := ⟨1, 5, [true], b10⟩
def e11_1 : E :=
 .call 5 (.cons (.pk (.v 0)) (.cons (.c (.int 3)) .nil))
/-- _law_pairs -/
def b11 : B :=
 .cons (.asg (.tup (.cons (.nm 10) (.cons (.nm 11) (.nil)))) (.pr .item (.cons (.pk (.v 1)) (.cons (.pk (.v 3)) .nil))))
 (.cons (.asg (.nm 4) (.pr .item (.cons (.pr .add (.cons (.lst (.cons (.tup (.nil)) .nil)) (.cons (.pk (.v 2)) .nil))) (.cons (.pk (.v 3)) .nil))))
 (.cons (.asg (.nm 5) (.pr .add (.cons (.pr (.slice true true) (.cons (.pk (.v 4)) (.cons (.pk (.v 10)) (.cons (.pr .add (.cons (.pk (.v 10)) (.cons (.c (.int 1)) .nil))) .nil)))) (.cons (.pk (.v 11)) .nil))))
 (.cons (.asg (.nm 6) (.pr .tuple (.cons (.lc [12] e11_1 (.nm 12) (.rng1 (.call 5 (.cons (.pk (.v 0)) (.cons (.c (.int 4)) .nil)))) .yes) .nil)))
 (.cons (.asg (.nm 7) (.pr .add (.cons (.pr .pow (.cons (.c (.int 10)) (.cons (.c (.int 18)) .nil))) (.cons (.call 5 (.cons (.pk (.v 0)) (.cons (.c (.int 900)) .nil))) .nil))))
 (.cons (.asg (.nm 8) (.call 5 (.cons (.pk (.v 0)) (.cons (.pr .add (.cons (.pk (.v 10)) (.cons (.c (.int 1)) .nil))) .nil))))
 (.cons (.asg (.nm 9) (.lst (.cons (.tup (.cons (.pr .add (.cons (.pk (.v 10)) (.cons (.c (.int 1)) .nil))) (.cons (.fz (.v 11)) .nil))) (.cons (.tup (.cons (.pr .sub (.cons (.pk (.v 10)) (.cons (.c (.int 1)) .nil))) (.cons (.fz (.v 11)) .nil))) (.cons (.tup (.cons (.rd (.v 7)) (.cons (.fz (.v 11)) .nil))) (.cons (.tup (.cons (.pr .neg (.cons (.pk (.v 7)) .nil)) (.cons (.fz (.v 11)) .nil))) .nil))))))
 (.cons (.asg (.nm 9) (.pr .add (.cons (.pk (.v 9)) (.cons (.lst (.cons (.tup (.cons (.c (.int 0)) (.cons (.fz (.v 11)) .nil))) (.cons (.tup (.cons (.pr .len (.cons (.pk (.v 4)) .nil)) (.cons (.fz (.v 11)) .nil))) (.cons (.tup (.cons (.rd (.v 10)) (.cons (.tup (.nil)) .nil))) (.cons (.tup (.cons (.rd (.v 10)) (.cons (.fz (.v 6)) .nil))) .nil))))) .nil))))
 (.cons (.asg (.nm 9) (.pr .add (.cons (.pk (.v 9)) (.cons (.lst (.cons (.tup (.cons (.rd (.v 10)) (.cons (.pr .add (.cons (.pk (.v 11)) (.cons (.pk (.v 6)) .nil))) .nil))) (.cons (.tup (.cons (.rd (.v 10)) (.cons (.pr (.slice true false) (.cons (.pk (.v 4)) (.cons (.pk (.v 10)) .nil))) .nil))) (.cons (.tup (.cons (.rd (.v 10)) (.cons (.fz (.v 5)) .nil))) .nil)))) .nil))))
 (.cons (.ret (.pr .add (.cons (.pk (.v 9)) (.cons (.lst (.cons (.tup (.cons (.rd (.v 8)) (.cons (.pr (.slice true false) (.cons (.pr .item (.cons (.pk (.v 2)) (.cons (.pk (.v 3)) .nil))) (.cons (.pk (.v 8)) .nil))) .nil))) .nil)) .nil)))) .nil)))))))))
def f11 : Fn := ⟨4, 13, [true, true, true, true], b11⟩
def b12_1 : B :=
 .cons (.exp (.mt .append (.v 7) (.cons (.frz (.pr .add (.cons (.pr .add (.cons (.pk (.v 4)) (.cons (.lst (.cons (.fz (.v 8)) .nil)) .nil))) (.cons (.pk (.v 5)) .nil)))) .nil))) .nil
def b12_2 : B :=
 .cons (.ret (.mv 7)) .nil
/-- _law_spoilt -/
def b12 : B :=
 .cons (.asg (.nm 3) (.call 5 (.cons (.pk (.v 0)) (.cons (.pr .len (.cons (.pk (.v 1)) .nil)) .nil))))
 (.cons (.asg (.nm 4) (.pr (.slice false true) (.cons (.pk (.v 1)) (.cons (.pk (.v 3)) .nil))))
 (.cons (.asg (.nm 5) (.pr (.slice true false) (.cons (.pk (.v 1)) (.cons (.pr .add (.cons (.pk (.v 3)) (.cons (.c (.int 1)) .nil))) .nil))))
 (.cons (.asg (.nm 6) (.pr (.slice true true) (.cons (.pk (.v 1)) (.cons (.pk (.v 3)) (.cons (.pr .add (.cons (.pk (.v 3)) (.cons (.c (.int 1)) .nil))) .nil)))))
 (.cons (.asg (.nm 7) (.lst (.cons (.frz (.pr .add (.cons (.pk (.v 4)) (.cons (.pk (.v 5)) .nil)))) (.cons (.frz (.pr .add (.cons (.pr .add (.cons (.pr .add (.cons (.pk (.v 4)) (.cons (.pk (.v 6)) .nil))) (.cons (.pk (.v 6)) .nil))) (.cons (.pk (.v 5)) .nil)))) (.cons (.frz (.pr .add (.cons (.pr .add (.cons (.pr .add (.cons (.pk (.v 4)) (.cons (.pr (.slice false true) (.cons (.pk (.v 5)) (.cons (.c (.int 1)) .nil))) .nil))) (.cons (.pk (.v 6)) .nil))) (.cons (.pr (.slice true false) (.cons (.pk (.v 5)) (.cons (.c (.int 1)) .nil))) .nil)))) .nil)))))
 (.cons (.for (.nm 8) (.lst (.call 11 (.cons (.pk (.v 0)) (.cons (.pk (.v 1)) (.cons (.pk (.v 2)) (.cons (.pk (.v 3)) .nil)))))) b12_1) b12_2)))))
def f12 : Fn := ⟨3, 9, [true, true, true], b12⟩
def b13_1 : B :=
 .cons (.asg (.nm 5) (.call 8 (.cons (.pk (.v 3)) .nil)))
 (.cons (.asg (.nm 6) (.pr .list (.cons (.pk (.v 3)) .nil)))
 (.cons (.asg (.nm 7) (.call 2 (.cons (.pk (.v 6)) .nil)))
 (.cons (.iff (.or (.not (.val (.pr (.isTy "list") (.cons (.pk (.v 7)) .nil)))) (.or (.val (.pr .ne (.cons (.pr .repr (.cons (.pk (.v 7)) .nil)) (.cons (.pr .repr (.cons (.pk (.v 5)) .nil)) .nil)))) (.val (.pr .ne (.cons (.pk (.v 6)) (.cons (.pk (.v 3)) .nil)))))) (.cons (.ret (.c (.bl false))) .nil) (.nil))
 (.cons (.exp (.mt .append (.v 7) (.cons (.tup (.cons (.c (.int 0)) (.cons (.tup (.nil)) .nil))) .nil)))
 (.cons (.iff (.or (.val (.pr .ne (.cons (.pr .repr (.cons (.call 2 (.cons (.pk (.v 6)) .nil)) .nil)) (.cons (.pr .repr (.cons (.pk (.v 5)) .nil)) .nil)))) (.val (.pr .ne (.cons (.pr .repr (.cons (.call 3 (.cons (.pk (.v 5)) .nil)) .nil)) (.cons (.pr .repr (.cons (.pk (.v 3)) .nil)) .nil))))) (.cons (.ret (.c (.bl false))) .nil) (.nil)) .nil)))))
def e13_2 : E :=
 .call 10 (.cons (.pk (.v 8)) .nil)
def b13_3 : B :=
 .cons (.asg (.nm 4) (.call 8 (.cons (.pk (.v 2)) .nil)))
 (.cons (.asg (.nm 3) (.pr .add (.cons (.lst (.cons (.fz (.v 4)) (.cons (.frz (.lst (.nil))) .nil))) (.cons (.call 12 (.cons (.pk (.v 1)) (.cons (.pk (.v 4)) (.cons (.pk (.v 2)) .nil)))) .nil))))
 (.cons (.ret (.pr .all (.cons (.lc [8] e13_2 (.nm 8) (.lst (.pk (.v 3))) .yes) .nil))) .nil))
/-- law -/
def b13 : B :=
 .cons (.asg (.nm 1) (.call 4 (.cons (.pk (.v 0)) .nil)))
 (.cons (.asg (.nm 2) (.pr .add (.cons (.call 6 (.cons (.pk (.v 1)) .nil)) (.cons (.lst (.cons (.tup (.cons (.c (.int 1)) (.cons (.c (.int 2)) .nil))) .nil)) .nil))))
 (.cons (.for (.nm 3) (.lst (.lst (.cons (.fz (.v 2)) (.cons (.pr .rev (.cons (.pk (.v 2)) .nil)) (.cons (.pr .add (.cons (.pr (.slice false true) (.cons (.pk (.v 2)) (.cons (.c (.int 1)) .nil))) (.cons (.pk (.v 2)) .nil))) (.cons (.frz (.lst (.nil))) .nil)))))) b13_1) b13_3))
def f13 : Fn := ⟨1, 9, [true], b13⟩
def ft : Nat → Option Fn
  | 0 => some f0
  | 1 => some f1
  | 2 => some f2
  | 3 => some f3
  | 4 => some f4
  | 5 => some f5
  | 6 => some f6
  | 7 => some f7
  | 8 => some f8
  | 9 => some f9
  | 10 => some f10
  | 11 => some f11
  | 12 => some f12
  | 13 => some f13
  | _ => none
end Law

namespace Law
open Z PySem L2
def LV : Nat := 6
def top (i : Nat) : PySem.Stmt := PySem.Challenge.pw_mergepapers_k09_cut_rows.main.body.getD i (.Pass ⟨0, 0, 0, 0⟩)
abbrev s0 : PySem.Stmt := top 4
def N0 : List PySem.Str := ["one", "other", "many", "left", "right"]
def P0 : List PySem.Str := ["one", "other"]
abbrev s1 : PySem.Stmt := top 5
def N1 : List PySem.Str := ["codes", "offsets", "ahead", "code"]
def P1 : List PySem.Str := ["codes"]
abbrev s2 : PySem.Stmt := top 7
def N2 : List PySem.Str := ["codes", "offset", "code"]
def P2 : List PySem.Str := ["codes"]
abbrev s3 : PySem.Stmt := top 8
def N3 : List PySem.Str := ["row", "codes", "ahead", "at", "code", "offset", "rest"]
def P3 : List PySem.Str := ["row"]
abbrev s4 : PySem.Stmt := top 10
def N4 : List PySem.Str := ["script", "digits", "cell", "rest", "k"]
def P4 : List PySem.Str := ["script"]
abbrev s5 : PySem.Stmt := top 11
def N5 : List PySem.Str := ["pool", "many", "step"]
def P5 : List PySem.Str := ["pool", "many"]
abbrev s6 : PySem.Stmt := top 12
def N6 : List PySem.Str := ["pool", "many", "top", "rows", "ahead", "k", "keep", "size", "fresh", "j"]
def P6 : List PySem.Str := ["pool"]
abbrev s7 : PySem.Stmt := top 13
def N7 : List PySem.Str := ["one", "other", "many", "k"]
def P7 : List PySem.Str := ["one", "other"]
abbrev s8 : PySem.Stmt := top 14
def N8 : List PySem.Str := ["codes", "row", "ahead", "code", "many"]
def P8 : List PySem.Str := ["codes"]
abbrev s9 : PySem.Stmt := top 15
def N9 : List PySem.Str := ["row", "codes", "ahead", "many", "rest"]
def P9 : List PySem.Str := ["row"]
abbrev s10 : PySem.Stmt := top 16
def N10 : List PySem.Str := ["row", "due", "handed", "e", "told"]
def P10 : List PySem.Str := ["row"]
abbrev s11 : PySem.Stmt := top 17
def N11 : List PySem.Str := ["pool", "row", "codes", "at", "y", "z", "some", "far", "less", "odd", "n", "x", "k"]
def P11 : List PySem.Str := ["pool", "row", "codes", "at"]
abbrev s12 : PySem.Stmt := top 18
def N12 : List PySem.Str := ["pool", "row", "codes", "at", "a", "b", "x", "told", "pair"]
def P12 : List PySem.Str := ["pool", "row", "codes"]
abbrev s13 : PySem.Stmt := top 19
def N13 : List PySem.Str := ["script", "pool", "codes", "rows", "row", "due", "handed", "told", "other"]
def P13 : List PySem.Str := ["script"]
abbrev sx1 : PySem.Stmt := L2.inClass (top 2) 0
def Px1 : List PySem.Str := ["self", "at"]
def PNs : List (List PySem.Str) := [P0, P1, P2, P3, P4, P5, P6, P7, P8, P9, P10, P11, P12, P13]
def sig : Sig := { fn := [("shared", 0), ("offsets_of", 1), ("cut_row", 2), ("read_cut_row", 3), ("_law_start", 4), ("_law_draw", 5), ("_law_some_codes", 6), ("_law_walk", 7), ("_law_cut", 8), ("_law_read", 9), ("_law_read_ok", 10), ("_law_pairs", 11), ("_law_spoilt", 12), ("law", 13)], ar := fun i => ((PNs[i]?).getD []).length, nf := 14, flds := [], mts := [], mks := [], cs := [], blt := ["all", "enumerate", "int", "isinstance", "len", "list", "min", "range", "repr", "sum", "tuple", "zip"], xcs := [("BadRow", 1, ["at"])], xnm := [("BadRow", 1, true)], xfl := [(1, "at")], xis := [] }
theorem sc0 : L2.FnScope N0 P0 (L2.defScope s0) := ⟨rfl, rfl, rfl, by decide +kernel, rfl, by decide +kernel, by decide +kernel⟩
theorem ck0 : ckB sig b0 ⟨N0, L2.defScope s0, fun _ => true, false, none, []⟩ (L2.defBody s0) = true := by decide +kernel
theorem sc1 : L2.FnScope N1 P1 (L2.defScope s1) := ⟨rfl, rfl, rfl, by decide +kernel, rfl, by decide +kernel, by decide +kernel⟩
theorem ck1 : ckB sig b1 ⟨N1, L2.defScope s1, fun _ => true, false, none, []⟩ (L2.defBody s1) = true := by decide +kernel
theorem sc2 : L2.FnScope N2 P2 (L2.defScope s2) := ⟨rfl, rfl, rfl, by decide +kernel, rfl, by decide +kernel, by decide +kernel⟩
theorem ck2 : ckB sig b2 ⟨N2, L2.defScope s2, fun _ => true, false, none, []⟩ (L2.defBody s2) = true := by decide +kernel
theorem sc3 : L2.FnScope N3 P3 (L2.defScope s3) := ⟨rfl, rfl, rfl, by decide +kernel, rfl, by decide +kernel, by decide +kernel⟩
theorem ck3 : ckB sig b3 ⟨N3, L2.defScope s3, fun _ => true, false, none, []⟩ (L2.defBody s3) = true := by decide +kernel
theorem sc4 : L2.FnScope N4 P4 (L2.defScope s4) := ⟨rfl, rfl, rfl, by decide +kernel, rfl, by decide +kernel, by decide +kernel⟩
theorem ck4 : ckB sig b4 ⟨N4, L2.defScope s4, fun _ => true, false, none, []⟩ (L2.defBody s4) = true := by decide +kernel
theorem sc5 : L2.FnScope N5 P5 (L2.defScope s5) := ⟨rfl, rfl, rfl, by decide +kernel, rfl, by decide +kernel, by decide +kernel⟩
theorem ck5 : ckB sig b5 ⟨N5, L2.defScope s5, fun _ => true, false, none, []⟩ (L2.defBody s5) = true := by decide +kernel
theorem sc6 : L2.FnScope N6 P6 (L2.defScope s6) := ⟨rfl, rfl, rfl, by decide +kernel, rfl, by decide +kernel, by decide +kernel⟩
theorem ck6 : ckB sig b6 ⟨N6, L2.defScope s6, fun _ => true, false, none, []⟩ (L2.defBody s6) = true := by decide +kernel
theorem sc7 : L2.FnScope N7 P7 (L2.defScope s7) := ⟨rfl, rfl, rfl, by decide +kernel, rfl, by decide +kernel, by decide +kernel⟩
theorem ck7 : ckB sig b7 ⟨N7, L2.defScope s7, fun _ => true, false, none, []⟩ (L2.defBody s7) = true := by decide +kernel
theorem sc8 : L2.FnScope N8 P8 (L2.defScope s8) := ⟨rfl, rfl, rfl, by decide +kernel, rfl, by decide +kernel, by decide +kernel⟩
theorem ck8 : ckB sig b8 ⟨N8, L2.defScope s8, fun _ => true, false, none, []⟩ (L2.defBody s8) = true := by decide +kernel
theorem sc9 : L2.FnScope N9 P9 (L2.defScope s9) := ⟨rfl, rfl, rfl, by decide +kernel, rfl, by decide +kernel, by decide +kernel⟩
theorem ck9 : ckB sig b9 ⟨N9, L2.defScope s9, fun _ => true, false, none, []⟩ (L2.defBody s9) = true := by decide +kernel
theorem sc10 : L2.FnScope N10 P10 (L2.defScope s10) := ⟨rfl, rfl, rfl, by decide +kernel, rfl, by decide +kernel, by decide +kernel⟩
theorem ck10 : ckB sig b10 ⟨N10, L2.defScope s10, fun _ => true, false, none, []⟩ (L2.defBody s10) = true := by decide +kernel
theorem sc11 : L2.FnScope N11 P11 (L2.defScope s11) := ⟨rfl, rfl, rfl, by decide +kernel, rfl, by decide +kernel, by decide +kernel⟩
theorem ck11 : ckB sig b11 ⟨N11, L2.defScope s11, fun _ => true, false, none, []⟩ (L2.defBody s11) = true := by decide +kernel
theorem sc12 : L2.FnScope N12 P12 (L2.defScope s12) := ⟨rfl, rfl, rfl, by decide +kernel, rfl, by decide +kernel, by decide +kernel⟩
theorem ck12 : ckB sig b12 ⟨N12, L2.defScope s12, fun _ => true, false, none, []⟩ (L2.defBody s12) = true := by decide +kernel
theorem sc13 : L2.FnScope N13 P13 (L2.defScope s13) := ⟨rfl, rfl, rfl, by decide +kernel, rfl, by decide +kernel, by decide +kernel⟩
theorem ck13 : ckB sig b13 ⟨N13, L2.defScope s13, fun _ => true, false, none, []⟩ (L2.defBody s13) = true := by decide +kernel
theorem scx1 : L2.FnScope Px1 Px1 (L2.defScope sx1) := ⟨rfl, rfl, rfl, by decide +kernel, rfl, by decide +kernel, by decide +kernel⟩
theorem all_mk {l : PySem.W.OpenLaw} {w : PySem.World} {K : PySem.W.Frag} {h : PySem.Heap} {mg : PySem.Str → Option PySem.Value} {fa : PySem.Addr} (X : K.In h) (GN : h.Ns PySem.mainGlobals mg) (hfa : mg "law" = some (.ref fa))
  {x0 x1 x2 x3 x4 x5 x6 x7 x8 x9 x10 x11 x12 x13 : PySem.Addr} {od0 an0 od1 an1 od2 an2 od3 an3 od4 an4 od5 an5 od6 an6 od7 an7 od8 an8 od9 an9 od10 an10 od11 an11 od12 an12 od13 an13 : Option PySem.Addr} {sl0 sl1 sl2 sl3 sl4 sl5 sl6 sl7 sl8 sl9 sl10 sl11 sl12 sl13 : Array (Option PySem.Value)} {oc0 kV0 dc0 pm0 cd0 ct0 oc1 kV1 dc1 pm1 cd1 ct1 oc2 kV2 dc2 pm2 cd2 ct2 oc3 kV3 dc3 pm3 cd3 ct3 oc4 kV4 dc4 pm4 cd4 ct4 oc5 kV5 dc5 pm5 cd5 ct5 oc6 kV6 dc6 pm6 cd6 ct6 oc7 kV7 dc7 pm7 cd7 ct7 oc8 kV8 dc8 pm8 cd8 ct8 oc9 kV9 dc9 pm9 cd9 ct9 oc10 kV10 dc10 pm10 cd10 ct10 oc11 kV11 dc11 pm11 cd11 ct11 oc12 kV12 dc12 pm12 cd12 ct12 oc13 kV13 dc13 pm13 cd13 ct13 : PySem.Value}
  {C1 : PySem.Addr}
  {xn1 xq1 : PySem.Str} {xN1 xf1 B1_0 : PySem.Addr} {xb1 xu1 : List PySem.Value} {xs1 : List PySem.Str} {xa1 : Bool} {xo1 : Option Bool} {xd1 od_1 an_1 : Option PySem.Addr} {m01 m11 m21 m31 m51 : Option PySem.Value} {oc_1 kV_1 dc_1 pm_1 cd_1 ct_1 : PySem.Value} {sl_1 : Array (Option PySem.Value)}
  (a0 : PySem.W.nsIn K PySem.mainGlobals "shared" = some (some (.ref x0)))
  (l0 : K.lookup x0 = some ⟨oc0, od0, .func (PySem.W.fnOf "shared" "shared" (L2.defArgs s0) (L2.defBody s0) (L2.defScope s0) .none kV0 dc0 pm0 an0 cd0 ct0), sl0⟩)
  (c0 : PySem.W.codeIn K cd0 "shared" = true)
  (k0 : PySem.W.keepIn K (.ref x0) = true)
  (a1 : PySem.W.nsIn K PySem.mainGlobals "offsets_of" = some (some (.ref x1)))
  (l1 : K.lookup x1 = some ⟨oc1, od1, .func (PySem.W.fnOf "offsets_of" "offsets_of" (L2.defArgs s1) (L2.defBody s1) (L2.defScope s1) .none kV1 dc1 pm1 an1 cd1 ct1), sl1⟩)
  (c1 : PySem.W.codeIn K cd1 "offsets_of" = true)
  (k1 : PySem.W.keepIn K (.ref x1) = true)
  (a2 : PySem.W.nsIn K PySem.mainGlobals "cut_row" = some (some (.ref x2)))
  (l2 : K.lookup x2 = some ⟨oc2, od2, .func (PySem.W.fnOf "cut_row" "cut_row" (L2.defArgs s2) (L2.defBody s2) (L2.defScope s2) .none kV2 dc2 pm2 an2 cd2 ct2), sl2⟩)
  (c2 : PySem.W.codeIn K cd2 "cut_row" = true)
  (k2 : PySem.W.keepIn K (.ref x2) = true)
  (a3 : PySem.W.nsIn K PySem.mainGlobals "read_cut_row" = some (some (.ref x3)))
  (l3 : K.lookup x3 = some ⟨oc3, od3, .func (PySem.W.fnOf "read_cut_row" "read_cut_row" (L2.defArgs s3) (L2.defBody s3) (L2.defScope s3) .none kV3 dc3 pm3 an3 cd3 ct3), sl3⟩)
  (c3 : PySem.W.codeIn K cd3 "read_cut_row" = true)
  (k3 : PySem.W.keepIn K (.ref x3) = true)
  (a4 : PySem.W.nsIn K PySem.mainGlobals "_law_start" = some (some (.ref x4)))
  (l4 : K.lookup x4 = some ⟨oc4, od4, .func (PySem.W.fnOf "_law_start" "_law_start" (L2.defArgs s4) (L2.defBody s4) (L2.defScope s4) .none kV4 dc4 pm4 an4 cd4 ct4), sl4⟩)
  (c4 : PySem.W.codeIn K cd4 "_law_start" = true)
  (k4 : PySem.W.keepIn K (.ref x4) = true)
  (a5 : PySem.W.nsIn K PySem.mainGlobals "_law_draw" = some (some (.ref x5)))
  (l5 : K.lookup x5 = some ⟨oc5, od5, .func (PySem.W.fnOf "_law_draw" "_law_draw" (L2.defArgs s5) (L2.defBody s5) (L2.defScope s5) .none kV5 dc5 pm5 an5 cd5 ct5), sl5⟩)
  (c5 : PySem.W.codeIn K cd5 "_law_draw" = true)
  (k5 : PySem.W.keepIn K (.ref x5) = true)
  (a6 : PySem.W.nsIn K PySem.mainGlobals "_law_some_codes" = some (some (.ref x6)))
  (l6 : K.lookup x6 = some ⟨oc6, od6, .func (PySem.W.fnOf "_law_some_codes" "_law_some_codes" (L2.defArgs s6) (L2.defBody s6) (L2.defScope s6) .none kV6 dc6 pm6 an6 cd6 ct6), sl6⟩)
  (c6 : PySem.W.codeIn K cd6 "_law_some_codes" = true)
  (k6 : PySem.W.keepIn K (.ref x6) = true)
  (a7 : PySem.W.nsIn K PySem.mainGlobals "_law_walk" = some (some (.ref x7)))
  (l7 : K.lookup x7 = some ⟨oc7, od7, .func (PySem.W.fnOf "_law_walk" "_law_walk" (L2.defArgs s7) (L2.defBody s7) (L2.defScope s7) .none kV7 dc7 pm7 an7 cd7 ct7), sl7⟩)
  (c7 : PySem.W.codeIn K cd7 "_law_walk" = true)
  (k7 : PySem.W.keepIn K (.ref x7) = true)
  (a8 : PySem.W.nsIn K PySem.mainGlobals "_law_cut" = some (some (.ref x8)))
  (l8 : K.lookup x8 = some ⟨oc8, od8, .func (PySem.W.fnOf "_law_cut" "_law_cut" (L2.defArgs s8) (L2.defBody s8) (L2.defScope s8) .none kV8 dc8 pm8 an8 cd8 ct8), sl8⟩)
  (c8 : PySem.W.codeIn K cd8 "_law_cut" = true)
  (k8 : PySem.W.keepIn K (.ref x8) = true)
  (a9 : PySem.W.nsIn K PySem.mainGlobals "_law_read" = some (some (.ref x9)))
  (l9 : K.lookup x9 = some ⟨oc9, od9, .func (PySem.W.fnOf "_law_read" "_law_read" (L2.defArgs s9) (L2.defBody s9) (L2.defScope s9) .none kV9 dc9 pm9 an9 cd9 ct9), sl9⟩)
  (c9 : PySem.W.codeIn K cd9 "_law_read" = true)
  (k9 : PySem.W.keepIn K (.ref x9) = true)
  (a10 : PySem.W.nsIn K PySem.mainGlobals "_law_read_ok" = some (some (.ref x10)))
  (l10 : K.lookup x10 = some ⟨oc10, od10, .func (PySem.W.fnOf "_law_read_ok" "_law_read_ok" (L2.defArgs s10) (L2.defBody s10) (L2.defScope s10) .none kV10 dc10 pm10 an10 cd10 ct10), sl10⟩)
  (c10 : PySem.W.codeIn K cd10 "_law_read_ok" = true)
  (k10 : PySem.W.keepIn K (.ref x10) = true)
  (a11 : PySem.W.nsIn K PySem.mainGlobals "_law_pairs" = some (some (.ref x11)))
  (l11 : K.lookup x11 = some ⟨oc11, od11, .func (PySem.W.fnOf "_law_pairs" "_law_pairs" (L2.defArgs s11) (L2.defBody s11) (L2.defScope s11) .none kV11 dc11 pm11 an11 cd11 ct11), sl11⟩)
  (c11 : PySem.W.codeIn K cd11 "_law_pairs" = true)
  (k11 : PySem.W.keepIn K (.ref x11) = true)
  (a12 : PySem.W.nsIn K PySem.mainGlobals "_law_spoilt" = some (some (.ref x12)))
  (l12 : K.lookup x12 = some ⟨oc12, od12, .func (PySem.W.fnOf "_law_spoilt" "_law_spoilt" (L2.defArgs s12) (L2.defBody s12) (L2.defScope s12) .none kV12 dc12 pm12 an12 cd12 ct12), sl12⟩)
  (c12 : PySem.W.codeIn K cd12 "_law_spoilt" = true)
  (k12 : PySem.W.keepIn K (.ref x12) = true)
  (a13 : PySem.W.nsIn K PySem.mainGlobals "law" = some (some (.ref x13)))
  (l13 : K.lookup x13 = some ⟨oc13, od13, .func (PySem.W.fnOf "law" "law" (L2.defArgs s13) (L2.defBody s13) (L2.defScope s13) .none kV13 dc13 pm13 an13 cd13 ct13), sl13⟩)
  (c13 : PySem.W.codeIn K cd13 "law" = true)
  (k13 : PySem.W.keepIn K (.ref x13) = true)
  (z0 : PySem.W.nsIn K PySem.mainGlobals "all" = some none)
  (z1 : PySem.W.nsIn K PySem.mainGlobals "enumerate" = some none)
  (z2 : PySem.W.nsIn K PySem.mainGlobals "int" = some none)
  (z3 : PySem.W.nsIn K PySem.mainGlobals "isinstance" = some none)
  (z4 : PySem.W.nsIn K PySem.mainGlobals "len" = some none)
  (z5 : PySem.W.nsIn K PySem.mainGlobals "list" = some none)
  (z6 : PySem.W.nsIn K PySem.mainGlobals "min" = some none)
  (z7 : PySem.W.nsIn K PySem.mainGlobals "range" = some none)
  (z8 : PySem.W.nsIn K PySem.mainGlobals "repr" = some none)
  (z9 : PySem.W.nsIn K PySem.mainGlobals "sum" = some none)
  (z10 : PySem.W.nsIn K PySem.mainGlobals "tuple" = some none)
  (z11 : PySem.W.nsIn K PySem.mainGlobals "zip" = some none)
  (ga1 : PySem.W.nsIn K PySem.mainGlobals "BadRow" = some (some (.ref C1)))
  (xl1 : K.lookup C1 = some (PySem.excClassObj xn1 xq1 C1 xN1 xb1 [.ref B1_0, .type "ValueError", .type "Exception", .type "BaseException", .type "object"] true xs1 xu1 xa1 xo1 xd1 m01 m11 m21 m31 m51 "ValueError.__new__"))
  (sa1 : PySem.W.findIn K (.ref C1) "__setattr__" = some (some (.builtin "object.__setattr__")))
  (ex1 : PySem.W.subIn K (.ref C1) (.type "BaseException") = some true)
  (ty1 : PySem.W.typeIn K (.ref C1) = some (.type "type"))
  (kc1 : PySem.W.keepIn K (.ref C1) = true)
  (n1_at : PySem.W.findIn K (.ref C1) "at" = some none)
  (xi1 : PySem.W.findIn K (.ref C1) "__init__" = some (some (.ref xf1)))
  (xt1 : PySem.W.typeIn K (.ref xf1) = some (.type "function"))
  (xk1 : K.lookup xf1 = some ⟨oc_1, od_1, .func (PySem.W.fnOf "__init__" "BadRow.__init__" (L2.defArgs sx1) (L2.defBody sx1) (L2.defScope sx1) .none kV_1 dc_1 pm_1 an_1 cd_1 ct_1), sl_1⟩)
  (xc1 : PySem.W.codeIn K cd_1 "BadRow.__init__" = true)
  (hd1 : PySem.W.hasDictIn K C1 = true)
  (sb1_1 : PySem.W.subIn K (.ref C1) (.ref C1) = some true)
  (gt1 : PySem.W.findIn K (.ref C1) "__getattribute__" = some (some (.builtin "BaseException.__getattribute__")))
  (gg1 : PySem.W.findIn K (.ref C1) "__getattr__" = some none)
  : ∃ (fd : PySem.FuncData) (CA : Cls) (g0 : PySem.Heap → G), (∀ (s : PySem.Shared) (u : PySem.Value), PySem.BindsTo s fd ⟨[u], []⟩ [("script", u)]) ∧ CA.ex = none ∧ (∀ b, (g0 b).P = l.prog ∧ (g0 b).w = w ∧ (g0 b).K = K ∧ (g0 b).mg = mg ∧ (g0 b).base = b) ∧
      ∀ base : PySem.Heap, K.In base → base.Ns PySem.mainGlobals mg → FnG (g0 base) (2 * LV + 1) fa fd ["script"] (spF K CA (run ft LV) 13 1) := by
  have e := hfa.symm.trans (PySem.W.mg_of X GN a13)
  cases e
  have F0 := L2.fun_mk (st := s0) l0 c0 k0
  have B0 := F0.binds (ps := P0) fun _ _ _ _ _ _ us hl => match us, hl with | [_, _], _ => rfl
  have F1 := L2.fun_mk (st := s1) l1 c1 k1
  have B1 := F1.binds (ps := P1) fun _ _ _ _ _ _ us hl => match us, hl with | [_], _ => rfl
  have F2 := L2.fun_mk (st := s2) l2 c2 k2
  have B2 := F2.binds (ps := P2) fun _ _ _ _ _ _ us hl => match us, hl with | [_], _ => rfl
  have F3 := L2.fun_mk (st := s3) l3 c3 k3
  have B3 := F3.binds (ps := P3) fun _ _ _ _ _ _ us hl => match us, hl with | [_], _ => rfl
  have F4 := L2.fun_mk (st := s4) l4 c4 k4
  have B4 := F4.binds (ps := P4) fun _ _ _ _ _ _ us hl => match us, hl with | [_], _ => rfl
  have F5 := L2.fun_mk (st := s5) l5 c5 k5
  have B5 := F5.binds (ps := P5) fun _ _ _ _ _ _ us hl => match us, hl with | [_, _], _ => rfl
  have F6 := L2.fun_mk (st := s6) l6 c6 k6
  have B6 := F6.binds (ps := P6) fun _ _ _ _ _ _ us hl => match us, hl with | [_], _ => rfl
  have F7 := L2.fun_mk (st := s7) l7 c7 k7
  have B7 := F7.binds (ps := P7) fun _ _ _ _ _ _ us hl => match us, hl with | [_, _], _ => rfl
  have F8 := L2.fun_mk (st := s8) l8 c8 k8
  have B8 := F8.binds (ps := P8) fun _ _ _ _ _ _ us hl => match us, hl with | [_], _ => rfl
  have F9 := L2.fun_mk (st := s9) l9 c9 k9
  have B9 := F9.binds (ps := P9) fun _ _ _ _ _ _ us hl => match us, hl with | [_], _ => rfl
  have F10 := L2.fun_mk (st := s10) l10 c10 k10
  have B10 := F10.binds (ps := P10) fun _ _ _ _ _ _ us hl => match us, hl with | [_], _ => rfl
  have F11 := L2.fun_mk (st := s11) l11 c11 k11
  have B11 := F11.binds (ps := P11) fun _ _ _ _ _ _ us hl => match us, hl with | [_, _, _, _], _ => rfl
  have F12 := L2.fun_mk (st := s12) l12 c12 k12
  have B12 := F12.binds (ps := P12) fun _ _ _ _ _ _ us hl => match us, hl with | [_, _, _], _ => rfl
  have F13 := L2.fun_mk (st := s13) l13 c13 k13
  have B13 := F13.binds (ps := P13) fun _ _ _ _ _ _ us hl => match us, hl with | [_], _ => rfl
  let fd0 : PySem.FuncData := PySem.W.fnOf "law" "law" (L2.defArgs s13) (L2.defBody s13) (L2.defScope s13) .none kV13 dc13 pm13 an13 cd13 ct13
  let FDs : List PySem.FuncData := [PySem.W.fnOf "shared" "shared" (L2.defArgs s0) (L2.defBody s0) (L2.defScope s0) .none kV0 dc0 pm0 an0 cd0 ct0, PySem.W.fnOf "offsets_of" "offsets_of" (L2.defArgs s1) (L2.defBody s1) (L2.defScope s1) .none kV1 dc1 pm1 an1 cd1 ct1, PySem.W.fnOf "cut_row" "cut_row" (L2.defArgs s2) (L2.defBody s2) (L2.defScope s2) .none kV2 dc2 pm2 an2 cd2 ct2, PySem.W.fnOf "read_cut_row" "read_cut_row" (L2.defArgs s3) (L2.defBody s3) (L2.defScope s3) .none kV3 dc3 pm3 an3 cd3 ct3, PySem.W.fnOf "_law_start" "_law_start" (L2.defArgs s4) (L2.defBody s4) (L2.defScope s4) .none kV4 dc4 pm4 an4 cd4 ct4, PySem.W.fnOf "_law_draw" "_law_draw" (L2.defArgs s5) (L2.defBody s5) (L2.defScope s5) .none kV5 dc5 pm5 an5 cd5 ct5, PySem.W.fnOf "_law_some_codes" "_law_some_codes" (L2.defArgs s6) (L2.defBody s6) (L2.defScope s6) .none kV6 dc6 pm6 an6 cd6 ct6, PySem.W.fnOf "_law_walk" "_law_walk" (L2.defArgs s7) (L2.defBody s7) (L2.defScope s7) .none kV7 dc7 pm7 an7 cd7 ct7, PySem.W.fnOf "_law_cut" "_law_cut" (L2.defArgs s8) (L2.defBody s8) (L2.defScope s8) .none kV8 dc8 pm8 an8 cd8 ct8, PySem.W.fnOf "_law_read" "_law_read" (L2.defArgs s9) (L2.defBody s9) (L2.defScope s9) .none kV9 dc9 pm9 an9 cd9 ct9, PySem.W.fnOf "_law_read_ok" "_law_read_ok" (L2.defArgs s10) (L2.defBody s10) (L2.defScope s10) .none kV10 dc10 pm10 an10 cd10 ct10, PySem.W.fnOf "_law_pairs" "_law_pairs" (L2.defArgs s11) (L2.defBody s11) (L2.defScope s11) .none kV11 dc11 pm11 an11 cd11 ct11, PySem.W.fnOf "_law_spoilt" "_law_spoilt" (L2.defArgs s12) (L2.defBody s12) (L2.defScope s12) .none kV12 dc12 pm12 an12 cd12 ct12, PySem.W.fnOf "law" "law" (L2.defArgs s13) (L2.defBody s13) (L2.defScope s13) .none kV13 dc13 pm13 an13 cd13 ct13]
  let FAs : List PySem.Addr := [x0, x1, x2, x3, x4, x5, x6, x7, x8, x9, x10, x11, x12, fa]
  let CAs : List PySem.Addr := [0, C1]
  let CA : Cls := ⟨fun i => (CAs[i]?).getD 0, none⟩
  let g0 : PySem.Heap → G := fun b => ⟨l.prog, w, K, mg, b, CA, sig.blt, fun i => (FAs[i]?).getD 0, fun i => (FDs[i]?).getD fd0, fun i => (PNs[i]?).getD []⟩
  refine ⟨fd0, CA, g0, fun s v => .of_eq rfl, rfl, fun b => ⟨rfl, rfl, rfl, rfl, rfl⟩, fun base _ _ => ?_⟩
  have XS : XSig (g0 base) sig := by
    refine ⟨fun p hp => ?_, fun p hp => ?_, fun p hp => ?_, fun p hp => ?_⟩
    · simp only [sig, List.mem_cons, List.not_mem_nil, or_false] at hp
      rcases hp with rfl
      · exact ⟨PySem.W.mg_of X GN ga1, ⟨⟨_, _, _, _, _, _, _, _, _, _, _, _, _, _, _, xl1, (by decide +kernel : PySem.HandSPX.refsVE PySem.HandSPX.veTail = true)⟩, sa1, ex1, ty1, kc1⟩, (fun f hf => by
        simp only [List.mem_cons, List.not_mem_nil, or_false] at hf
        rcases hf with rfl
        · exact n1_at
        ), ⟨xf1, "__init__", "BadRow.__init__", sx1, Px1, Px1, _, _, _, _, _, _, _, _, _, xk1, xc1, scx1, .all (fun us hl => match us, hl with | [_, _], _ => rfl), rfl, by decide +kernel, xi1, xt1⟩⟩
    · simp only [sig, List.mem_cons, List.not_mem_nil, or_false] at hp
      rcases hp with rfl
      · exact ⟨.ref C1, .inl (PySem.W.mg_of X GN ga1), PySem.W.exm_ref ex1 hd1 ty1 sb1_1⟩
    · simp only [sig, List.mem_cons, List.not_mem_nil, or_false] at hp
      rcases hp with rfl
      · exact ⟨⟨gt1, gg1, ex1, hd1⟩, n1_at⟩
    · exact absurd hp List.not_mem_nil
  have S : SigS (g0 base) sig := by
    refine ⟨fun p hp => ?_, fun fi _ => rfl, fun p hp => ?_, fun p hp => ?_, fun p hp => ?_, fun p hp => ?_, rfl, rfl, XS, fun x hx => ?_⟩
    · simp only [sig, List.mem_cons, List.not_mem_nil, or_false] at hp
      rcases hp with rfl | rfl | rfl | rfl | rfl | rfl | rfl | rfl | rfl | rfl | rfl | rfl | rfl | rfl
      · exact PySem.W.mg_of X GN a0
      · exact PySem.W.mg_of X GN a1
      · exact PySem.W.mg_of X GN a2
      · exact PySem.W.mg_of X GN a3
      · exact PySem.W.mg_of X GN a4
      · exact PySem.W.mg_of X GN a5
      · exact PySem.W.mg_of X GN a6
      · exact PySem.W.mg_of X GN a7
      · exact PySem.W.mg_of X GN a8
      · exact PySem.W.mg_of X GN a9
      · exact PySem.W.mg_of X GN a10
      · exact PySem.W.mg_of X GN a11
      · exact PySem.W.mg_of X GN a12
      · exact PySem.W.mg_of X GN a13
    · exact absurd hp List.not_mem_nil
    · exact absurd hp List.not_mem_nil
    · exact absurd hp List.not_mem_nil
    · exact absurd hp List.not_mem_nil
    · have hx : x ∈ (["all", "enumerate", "int", "isinstance", "len", "list", "min", "range", "repr", "sum", "tuple", "zip"] : List PySem.Str) := hx
      simp only [List.mem_cons, List.not_mem_nil, or_false] at hx
      rcases hx with rfl | rfl | rfl | rfl | rfl | rfl | rfl | rfl | rfl | rfl | rfl | rfl
      · exact PySem.W.mg_none_of X GN z0
      · exact PySem.W.mg_none_of X GN z1
      · exact PySem.W.mg_none_of X GN z2
      · exact PySem.W.mg_none_of X GN z3
      · exact PySem.W.mg_none_of X GN z4
      · exact PySem.W.mg_none_of X GN z5
      · exact PySem.W.mg_none_of X GN z6
      · exact PySem.W.mg_none_of X GN z7
      · exact PySem.W.mg_none_of X GN z8
      · exact PySem.W.mg_none_of X GN z9
      · exact PySem.W.mg_none_of X GN z10
      · exact PySem.W.mg_none_of X GN z11
  have D : ∀ fi, fi < sig.nf → DefOk (g0 base) sig ft fi := fun fi h => by
    match fi, h with
    | 0, _ => exact ⟨⟨f0, _, _, s0, N0, rfl, F0, sc0, rfl, rfl, keep_ok (by decide +kernel), ck0⟩, B0⟩
    | 1, _ => exact ⟨⟨f1, _, _, s1, N1, rfl, F1, sc1, rfl, rfl, keep_ok (by decide +kernel), ck1⟩, B1⟩
    | 2, _ => exact ⟨⟨f2, _, _, s2, N2, rfl, F2, sc2, rfl, rfl, keep_ok (by decide +kernel), ck2⟩, B2⟩
    | 3, _ => exact ⟨⟨f3, _, _, s3, N3, rfl, F3, sc3, rfl, rfl, keep_ok (by decide +kernel), ck3⟩, B3⟩
    | 4, _ => exact ⟨⟨f4, _, _, s4, N4, rfl, F4, sc4, rfl, rfl, keep_ok (by decide +kernel), ck4⟩, B4⟩
    | 5, _ => exact ⟨⟨f5, _, _, s5, N5, rfl, F5, sc5, rfl, rfl, keep_ok (by decide +kernel), ck5⟩, B5⟩
    | 6, _ => exact ⟨⟨f6, _, _, s6, N6, rfl, F6, sc6, rfl, rfl, keep_ok (by decide +kernel), ck6⟩, B6⟩
    | 7, _ => exact ⟨⟨f7, _, _, s7, N7, rfl, F7, sc7, rfl, rfl, keep_ok (by decide +kernel), ck7⟩, B7⟩
    | 8, _ => exact ⟨⟨f8, _, _, s8, N8, rfl, F8, sc8, rfl, rfl, keep_ok (by decide +kernel), ck8⟩, B8⟩
    | 9, _ => exact ⟨⟨f9, _, _, s9, N9, rfl, F9, sc9, rfl, rfl, keep_ok (by decide +kernel), ck9⟩, B9⟩
    | 10, _ => exact ⟨⟨f10, _, _, s10, N10, rfl, F10, sc10, rfl, rfl, keep_ok (by decide +kernel), ck10⟩, B10⟩
    | 11, _ => exact ⟨⟨f11, _, _, s11, N11, rfl, F11, sc11, rfl, rfl, keep_ok (by decide +kernel), ck11⟩, B11⟩
    | 12, _ => exact ⟨⟨f12, _, _, s12, N12, rfl, F12, sc12, rfl, rfl, keep_ok (by decide +kernel), ck12⟩, B12⟩
    | 13, _ => exact ⟨⟨f13, _, _, s13, N13, rfl, F13, sc13, rfl, rfl, keep_ok (by decide +kernel), ck13⟩, B13⟩
    | n + 14, h => exact absurd (show n + 14 < 14 from h) (by omega)
  exact (run_ok S D LV 13 (by decide)).fn
end Law

namespace Law
open Z
def sh : List Int → List Int → Nat
  | a :: as, b :: bs => if a = b then sh as bs + 1 else 0
  | _, _ => 0
theorem r0 (n : Nat) (a b : List Int) : run ft (n+1) 0 [.tup (dI a), .tup (dI b)] = .ok (.int (sh a b)) [.tup (dI a), .tup (dI b)] := by
  refine RE.eq (fn := f0) rfl rfl ?_
  simp only [f0]
  simp (disch := first | omega | (simp only [List.length_map, List.length_append, List.length_cons, List.length_nil, List.length_reverse, List.length_take, List.length_drop]; omega)) only [evS, evE, evA, evT, evI, evP, Z.bok, look, looks, slot_0, slot_s, getP, bindT, bindTs, setS, pureD_own, pureD_frz, pureD_scr, pureD_tup, pureD_int, pureD_str, pureD_bl, pureD_non, pureD_io, pureD_if, pureD_is, rootP, srcT, srcL, tmps, doCall, nodupB, roots, writeBack, setE, setP, mt_appL, mt_rev, isLst, augS, prS, un, bi, tri, int1, int2, intS, lenS, addS, sumS, listS, tupleS, revS, sliceS, itemS, eqS_int, neS_int, frzD, outS, clr, Z.rest, R.ne, Option.bind_some, Option.bind_none, Option.map_some, Option.map_none, if_true, if_false, List.length_cons, List.length_nil, List.length_map, List.map_cons, List.map_nil, List.set_cons_zero, List.set_cons_succ, List.set_nil, List.replicate_succ, List.replicate_zero, List.nil_append, List.cons_append, Bool.false_eq_true, Bool.not_true, Bool.not_false, Bool.and_true, Bool.true_and, Bool.and_self, Bool.false_and, Bool.and_false, List.contains_cons, List.contains_nil, Bool.or_false, Bool.false_or, Bool.or_self, Nat.reduceBEq, Nat.reduceLT, Nat.reduceAdd, Nat.reduceSub, Nat.reduceEqDiff, reduceIte, reduceCtorEq, Nat.zero_lt_succ, decide_true, decide_false, id_eq, RE_ok, RE_exc, RE_nil, RE_cons, RE_ite, ↓RE_try, RE_hand, RE_handN, LcE_ok, LcE_ite, LcT_ok, bind_ite, bind_exc, cfx, xN, fdIx, nx2_nx, nx2_rt, nx2_bk, nx2_ct, trn_nx, trn_ct, trn_bk, trn_rt, fin_rt, fin_nx, fix_eq, ex_some, ints?_dI, pures_dI, frzDs_dI, atI_0, atI_1, atI_2, stoS_0, stoS_1, dI_app, ltS_int, isTy_int_int, isTy_int_bool, isTy_int_str, isTy_int_tuple, isTy_int_list, isTy_int_NoneType, isTy_bool_int, isTy_bool_bool, isTy_bool_str, isTy_bool_tuple, isTy_bool_list, isTy_bool_NoneType, isTy_str_int, isTy_str_bool, isTy_str_str, isTy_str_tuple, isTy_str_list, isTy_str_NoneType, isTy_tuple_int, isTy_tuple_bool, isTy_tuple_str, isTy_tuple_tuple, isTy_tuple_list, isTy_tuple_NoneType, isTy_list_int, isTy_list_bool, isTy_list_str, isTy_list_tuple, isTy_list_list, isTy_list_NoneType, dI_snoc, own_scr, mt_pop', mt_popI, smallOk, smallLt, bd_int, bd_nat, if_pos, if_neg, eqS_int, neS_int, decide_eq_true_eq, Bool.not_eq_true', decide_eq_false_iff_not, ← List.map_drop, ← List.map_take, ← List.map_reverse, Int.toNat_natCast, Int.reduceToNat, ite_self, and_self, and_true, true_and, frzDs, List.reverse_cons, List.reverse_nil, Option.toList_some, Option.toList_none, List.all_cons, List.all_nil, List.length_append, b0]
  refine RE.go (fun rest env => ∃ (as bs : List Int) (m : Int) (l r : Option D), rest = zipD (dI as) (dI bs) ∧ env = [some (.tup (dI a)), some (.tup (dI b)), some (.int m), l, r] ∧ m + sh as bs = sh a b) ?_ ?_ ⟨a, b, 0, none, none, rfl, rfl, by omega⟩
  · rintro x xs env ⟨as, bs, m, l, r, h1, rfl, h3⟩
    cases as with
    | nil => cases h1
    | cons p as =>
      cases bs with
      | nil => cases h1
      | cons q bs =>
        cases h1
        by_cases e : p = q
        · simp (disch := first | omega | (simp only [List.length_map, List.length_append, List.length_cons, List.length_nil, List.length_reverse, List.length_take, List.length_drop]; omega)) only [evS, evE, evA, evT, evI, evP, Z.bok, look, looks, slot_0, slot_s, getP, bindT, bindTs, setS, pureD_own, pureD_frz, pureD_scr, pureD_tup, pureD_int, pureD_str, pureD_bl, pureD_non, pureD_io, pureD_if, pureD_is, rootP, srcT, srcL, tmps, doCall, nodupB, roots, writeBack, setE, setP, mt_appL, mt_rev, isLst, augS, prS, un, bi, tri, int1, int2, intS, lenS, addS, sumS, listS, tupleS, revS, sliceS, itemS, eqS_int, neS_int, frzD, outS, clr, Z.rest, R.ne, Option.bind_some, Option.bind_none, Option.map_some, Option.map_none, if_true, if_false, List.length_cons, List.length_nil, List.length_map, List.map_cons, List.map_nil, List.set_cons_zero, List.set_cons_succ, List.set_nil, List.replicate_succ, List.replicate_zero, List.nil_append, List.cons_append, Bool.false_eq_true, Bool.not_true, Bool.not_false, Bool.and_true, Bool.true_and, Bool.and_self, Bool.false_and, Bool.and_false, List.contains_cons, List.contains_nil, Bool.or_false, Bool.false_or, Bool.or_self, Nat.reduceBEq, Nat.reduceLT, Nat.reduceAdd, Nat.reduceSub, Nat.reduceEqDiff, reduceIte, reduceCtorEq, Nat.zero_lt_succ, decide_true, decide_false, id_eq, RE_ok, RE_exc, RE_nil, RE_cons, RE_ite, ↓RE_try, RE_hand, RE_handN, LcE_ok, LcE_ite, LcT_ok, bind_ite, bind_exc, cfx, xN, fdIx, nx2_nx, nx2_rt, nx2_bk, nx2_ct, trn_nx, trn_ct, trn_bk, trn_rt, fin_rt, fin_nx, fix_eq, ex_some, ints?_dI, pures_dI, frzDs_dI, atI_0, atI_1, atI_2, stoS_0, stoS_1, dI_app, ltS_int, isTy_int_int, isTy_int_bool, isTy_int_str, isTy_int_tuple, isTy_int_list, isTy_int_NoneType, isTy_bool_int, isTy_bool_bool, isTy_bool_str, isTy_bool_tuple, isTy_bool_list, isTy_bool_NoneType, isTy_str_int, isTy_str_bool, isTy_str_str, isTy_str_tuple, isTy_str_list, isTy_str_NoneType, isTy_tuple_int, isTy_tuple_bool, isTy_tuple_str, isTy_tuple_tuple, isTy_tuple_list, isTy_tuple_NoneType, isTy_list_int, isTy_list_bool, isTy_list_str, isTy_list_tuple, isTy_list_list, isTy_list_NoneType, dI_snoc, own_scr, mt_pop', mt_popI, smallOk, smallLt, bd_int, bd_nat, if_pos, if_neg, eqS_int, neS_int, decide_eq_true_eq, Bool.not_eq_true', decide_eq_false_iff_not, ← List.map_drop, ← List.map_take, ← List.map_reverse, Int.toNat_natCast, Int.reduceToNat, ite_self, and_self, and_true, true_and, frzDs, List.reverse_cons, List.reverse_nil, Option.toList_some, Option.toList_none, List.all_cons, List.all_nil, List.length_append, b0_1, e]
          refine ⟨as, bs, m + 1, _, _, rfl, rfl, ?_⟩
          simp only [sh, e, if_true] at h3
          omega
        · simp (disch := first | omega | (simp only [List.length_map, List.length_append, List.length_cons, List.length_nil, List.length_reverse, List.length_take, List.length_drop]; omega)) only [evS, evE, evA, evT, evI, evP, Z.bok, look, looks, slot_0, slot_s, getP, bindT, bindTs, setS, pureD_own, pureD_frz, pureD_scr, pureD_tup, pureD_int, pureD_str, pureD_bl, pureD_non, pureD_io, pureD_if, pureD_is, rootP, srcT, srcL, tmps, doCall, nodupB, roots, writeBack, setE, setP, mt_appL, mt_rev, isLst, augS, prS, un, bi, tri, int1, int2, intS, lenS, addS, sumS, listS, tupleS, revS, sliceS, itemS, eqS_int, neS_int, frzD, outS, clr, Z.rest, R.ne, Option.bind_some, Option.bind_none, Option.map_some, Option.map_none, if_true, if_false, List.length_cons, List.length_nil, List.length_map, List.map_cons, List.map_nil, List.set_cons_zero, List.set_cons_succ, List.set_nil, List.replicate_succ, List.replicate_zero, List.nil_append, List.cons_append, Bool.false_eq_true, Bool.not_true, Bool.not_false, Bool.and_true, Bool.true_and, Bool.and_self, Bool.false_and, Bool.and_false, List.contains_cons, List.contains_nil, Bool.or_false, Bool.false_or, Bool.or_self, Nat.reduceBEq, Nat.reduceLT, Nat.reduceAdd, Nat.reduceSub, Nat.reduceEqDiff, reduceIte, reduceCtorEq, Nat.zero_lt_succ, decide_true, decide_false, id_eq, RE_ok, RE_exc, RE_nil, RE_cons, RE_ite, ↓RE_try, RE_hand, RE_handN, LcE_ok, LcE_ite, LcT_ok, bind_ite, bind_exc, cfx, xN, fdIx, nx2_nx, nx2_rt, nx2_bk, nx2_ct, trn_nx, trn_ct, trn_bk, trn_rt, fin_rt, fin_nx, fix_eq, ex_some, ints?_dI, pures_dI, frzDs_dI, atI_0, atI_1, atI_2, stoS_0, stoS_1, dI_app, ltS_int, isTy_int_int, isTy_int_bool, isTy_int_str, isTy_int_tuple, isTy_int_list, isTy_int_NoneType, isTy_bool_int, isTy_bool_bool, isTy_bool_str, isTy_bool_tuple, isTy_bool_list, isTy_bool_NoneType, isTy_str_int, isTy_str_bool, isTy_str_str, isTy_str_tuple, isTy_str_list, isTy_str_NoneType, isTy_tuple_int, isTy_tuple_bool, isTy_tuple_str, isTy_tuple_tuple, isTy_tuple_list, isTy_tuple_NoneType, isTy_list_int, isTy_list_bool, isTy_list_str, isTy_list_tuple, isTy_list_list, isTy_list_NoneType, dI_snoc, own_scr, mt_pop', mt_popI, smallOk, smallLt, bd_int, bd_nat, if_pos, if_neg, eqS_int, neS_int, decide_eq_true_eq, Bool.not_eq_true', decide_eq_false_iff_not, ← List.map_drop, ← List.map_take, ← List.map_reverse, Int.toNat_natCast, Int.reduceToNat, ite_self, and_self, and_true, true_and, frzDs, List.reverse_cons, List.reverse_nil, Option.toList_some, Option.toList_none, List.all_cons, List.all_nil, List.length_append, b0_1, b0_2, e]
          simp only [sh, e, if_false] at h3
          congr 1; omega
  · rintro env ⟨as, bs, m, l, r, h1, rfl, h3⟩
    have : sh as bs = 0 := by
      cases as with
      | nil => rfl
      | cons p as => cases bs with
        | nil => rfl
        | cons q bs => cases h1
    simp (disch := first | omega | (simp only [List.length_map, List.length_append, List.length_cons, List.length_nil, List.length_reverse, List.length_take, List.length_drop]; omega)) only [evS, evE, evA, evT, evI, evP, Z.bok, look, looks, slot_0, slot_s, getP, bindT, bindTs, setS, pureD_own, pureD_frz, pureD_scr, pureD_tup, pureD_int, pureD_str, pureD_bl, pureD_non, pureD_io, pureD_if, pureD_is, rootP, srcT, srcL, tmps, doCall, nodupB, roots, writeBack, setE, setP, mt_appL, mt_rev, isLst, augS, prS, un, bi, tri, int1, int2, intS, lenS, addS, sumS, listS, tupleS, revS, sliceS, itemS, eqS_int, neS_int, frzD, outS, clr, Z.rest, R.ne, Option.bind_some, Option.bind_none, Option.map_some, Option.map_none, if_true, if_false, List.length_cons, List.length_nil, List.length_map, List.map_cons, List.map_nil, List.set_cons_zero, List.set_cons_succ, List.set_nil, List.replicate_succ, List.replicate_zero, List.nil_append, List.cons_append, Bool.false_eq_true, Bool.not_true, Bool.not_false, Bool.and_true, Bool.true_and, Bool.and_self, Bool.false_and, Bool.and_false, List.contains_cons, List.contains_nil, Bool.or_false, Bool.false_or, Bool.or_self, Nat.reduceBEq, Nat.reduceLT, Nat.reduceAdd, Nat.reduceSub, Nat.reduceEqDiff, reduceIte, reduceCtorEq, Nat.zero_lt_succ, decide_true, decide_false, id_eq, RE_ok, RE_exc, RE_nil, RE_cons, RE_ite, ↓RE_try, RE_hand, RE_handN, LcE_ok, LcE_ite, LcT_ok, bind_ite, bind_exc, cfx, xN, fdIx, nx2_nx, nx2_rt, nx2_bk, nx2_ct, trn_nx, trn_ct, trn_bk, trn_rt, fin_rt, fin_nx, fix_eq, ex_some, ints?_dI, pures_dI, frzDs_dI, atI_0, atI_1, atI_2, stoS_0, stoS_1, dI_app, ltS_int, isTy_int_int, isTy_int_bool, isTy_int_str, isTy_int_tuple, isTy_int_list, isTy_int_NoneType, isTy_bool_int, isTy_bool_bool, isTy_bool_str, isTy_bool_tuple, isTy_bool_list, isTy_bool_NoneType, isTy_str_int, isTy_str_bool, isTy_str_str, isTy_str_tuple, isTy_str_list, isTy_str_NoneType, isTy_tuple_int, isTy_tuple_bool, isTy_tuple_str, isTy_tuple_tuple, isTy_tuple_list, isTy_tuple_NoneType, isTy_list_int, isTy_list_bool, isTy_list_str, isTy_list_tuple, isTy_list_list, isTy_list_NoneType, dI_snoc, own_scr, mt_pop', mt_popI, smallOk, smallLt, bd_int, bd_nat, if_pos, if_neg, eqS_int, neS_int, decide_eq_true_eq, Bool.not_eq_true', decide_eq_false_iff_not, ← List.map_drop, ← List.map_take, ← List.map_reverse, Int.toNat_natCast, Int.reduceToNat, ite_self, and_self, and_true, true_and, frzDs, List.reverse_cons, List.reverse_nil, Option.toList_some, Option.toList_none, List.all_cons, List.all_nil, List.length_append, b0_2]
    congr 1; omega
abbrev cD (c : List Int) : D := .tup (dI c)
abbrev cDs (cs : List (List Int)) : List D := cs.map cD
theorem pures_cD (cs : List (List Int)) : pures (cDs cs) = true := pures_map (fun _ => rfl) cs
theorem frz_cD (cs : List (List Int)) : frzDs (cDs cs) = cDs cs := frzDs_map (fun _ => rfl) cs
theorem cDs_snoc (cs : List (List Int)) (x : List Int) : cDs cs ++ [D.tup (List.map D.int x)] = cDs (cs ++ [x]) := map_snoc cs x
def offs : List Int → List (List Int) → List Int
  | _, [] => []
  | p, c :: cs => (sh c p : Int) :: offs c cs
theorem r1 (n : Nat) (f : Fl) (cs : List (List Int)) (hl : cs.length ≤ 100) : run ft (n+2) 1 [.lst f (cDs cs)] = .ok (.lst .own (dI (offs [] cs))) [.lst f (cDs cs)] := by
  refine RE.eq (fn := f1) rfl rfl ?_
  simp only [f1]
  simp (disch := first | omega | (simp only [List.length_map, List.length_append, List.length_cons, List.length_nil, List.length_reverse, List.length_take, List.length_drop]; omega)) only [evS, evE, evA, evT, evI, evP, Z.bok, look, looks, slot_0, slot_s, getP, bindT, bindTs, setS, pureD_own, pureD_frz, pureD_scr, pureD_tup, pureD_int, pureD_str, pureD_bl, pureD_non, pureD_io, pureD_if, pureD_is, rootP, srcT, srcL, tmps, doCall, nodupB, roots, writeBack, setE, setP, mt_appL, mt_rev, isLst, augS, prS, un, bi, tri, int1, int2, intS, lenS, addS, sumS, listS, tupleS, revS, sliceS, itemS, eqS_int, neS_int, frzD, outS, clr, Z.rest, R.ne, Option.bind_some, Option.bind_none, Option.map_some, Option.map_none, if_true, if_false, List.length_cons, List.length_nil, List.length_map, List.map_cons, List.map_nil, List.set_cons_zero, List.set_cons_succ, List.set_nil, List.replicate_succ, List.replicate_zero, List.nil_append, List.cons_append, Bool.false_eq_true, Bool.not_true, Bool.not_false, Bool.and_true, Bool.true_and, Bool.and_self, Bool.false_and, Bool.and_false, List.contains_cons, List.contains_nil, Bool.or_false, Bool.false_or, Bool.or_self, Nat.reduceBEq, Nat.reduceLT, Nat.reduceAdd, Nat.reduceSub, Nat.reduceEqDiff, reduceIte, reduceCtorEq, Nat.zero_lt_succ, decide_true, decide_false, id_eq, RE_ok, RE_exc, RE_nil, RE_cons, RE_ite, ↓RE_try, RE_hand, RE_handN, LcE_ok, LcE_ite, LcT_ok, bind_ite, bind_exc, cfx, xN, fdIx, nx2_nx, nx2_rt, nx2_bk, nx2_ct, trn_nx, trn_ct, trn_bk, trn_rt, fin_rt, fin_nx, fix_eq, ex_some, ints?_dI, pures_dI, frzDs_dI, atI_0, atI_1, atI_2, stoS_0, stoS_1, dI_app, ltS_int, isTy_int_int, isTy_int_bool, isTy_int_str, isTy_int_tuple, isTy_int_list, isTy_int_NoneType, isTy_bool_int, isTy_bool_bool, isTy_bool_str, isTy_bool_tuple, isTy_bool_list, isTy_bool_NoneType, isTy_str_int, isTy_str_bool, isTy_str_str, isTy_str_tuple, isTy_str_list, isTy_str_NoneType, isTy_tuple_int, isTy_tuple_bool, isTy_tuple_str, isTy_tuple_tuple, isTy_tuple_list, isTy_tuple_NoneType, isTy_list_int, isTy_list_bool, isTy_list_str, isTy_list_tuple, isTy_list_list, isTy_list_NoneType, dI_snoc, own_scr, mt_pop', mt_popI, smallOk, smallLt, bd_int, bd_nat, if_pos, if_neg, eqS_int, neS_int, decide_eq_true_eq, Bool.not_eq_true', decide_eq_false_iff_not, ← List.map_drop, ← List.map_take, ← List.map_reverse, Int.toNat_natCast, Int.reduceToNat, ite_self, and_self, and_true, true_and, frzDs, List.reverse_cons, List.reverse_nil, Option.toList_some, Option.toList_none, List.all_cons, List.all_nil, List.length_append, b1, pures_cD]
  refine RE.goM (fun rest env => ∃ (done : List Int) (p : List Int) (l : Option D), env = [some (.lst f (cDs cs)), some (.lst .own (dI done)), some (cD p), l] ∧ done ++ offs p rest = offs [] cs ∧ done.length + rest.length = cs.length) ?_ ?_ ⟨[], [], none, rfl, rfl, by simp⟩
  · rintro x xs env ⟨done, p, l, rfl, h2, h3⟩
    rw [List.length_cons] at h3
    simp (disch := first | omega | (simp only [List.length_map, List.length_append, List.length_cons, List.length_nil, List.length_reverse, List.length_take, List.length_drop]; omega)) only [evS, evE, evA, evT, evI, evP, Z.bok, look, looks, slot_0, slot_s, getP, bindT, bindTs, setS, pureD_own, pureD_frz, pureD_scr, pureD_tup, pureD_int, pureD_str, pureD_bl, pureD_non, pureD_io, pureD_if, pureD_is, rootP, srcT, srcL, tmps, doCall, nodupB, roots, writeBack, setE, setP, mt_appL, mt_rev, isLst, augS, prS, un, bi, tri, int1, int2, intS, lenS, addS, sumS, listS, tupleS, revS, sliceS, itemS, eqS_int, neS_int, frzD, outS, clr, Z.rest, R.ne, Option.bind_some, Option.bind_none, Option.map_some, Option.map_none, if_true, if_false, List.length_cons, List.length_nil, List.length_map, List.map_cons, List.map_nil, List.set_cons_zero, List.set_cons_succ, List.set_nil, List.replicate_succ, List.replicate_zero, List.nil_append, List.cons_append, Bool.false_eq_true, Bool.not_true, Bool.not_false, Bool.and_true, Bool.true_and, Bool.and_self, Bool.false_and, Bool.and_false, List.contains_cons, List.contains_nil, Bool.or_false, Bool.false_or, Bool.or_self, Nat.reduceBEq, Nat.reduceLT, Nat.reduceAdd, Nat.reduceSub, Nat.reduceEqDiff, reduceIte, reduceCtorEq, Nat.zero_lt_succ, decide_true, decide_false, id_eq, RE_ok, RE_exc, RE_nil, RE_cons, RE_ite, ↓RE_try, RE_hand, RE_handN, LcE_ok, LcE_ite, LcT_ok, bind_ite, bind_exc, cfx, xN, fdIx, nx2_nx, nx2_rt, nx2_bk, nx2_ct, trn_nx, trn_ct, trn_bk, trn_rt, fin_rt, fin_nx, fix_eq, ex_some, ints?_dI, pures_dI, frzDs_dI, atI_0, atI_1, atI_2, stoS_0, stoS_1, dI_app, ltS_int, isTy_int_int, isTy_int_bool, isTy_int_str, isTy_int_tuple, isTy_int_list, isTy_int_NoneType, isTy_bool_int, isTy_bool_bool, isTy_bool_str, isTy_bool_tuple, isTy_bool_list, isTy_bool_NoneType, isTy_str_int, isTy_str_bool, isTy_str_str, isTy_str_tuple, isTy_str_list, isTy_str_NoneType, isTy_tuple_int, isTy_tuple_bool, isTy_tuple_str, isTy_tuple_tuple, isTy_tuple_list, isTy_tuple_NoneType, isTy_list_int, isTy_list_bool, isTy_list_str, isTy_list_tuple, isTy_list_list, isTy_list_NoneType, dI_snoc, own_scr, mt_pop', mt_popI, smallOk, smallLt, bd_int, bd_nat, if_pos, if_neg, eqS_int, neS_int, decide_eq_true_eq, Bool.not_eq_true', decide_eq_false_iff_not, ← List.map_drop, ← List.map_take, ← List.map_reverse, Int.toNat_natCast, Int.reduceToNat, ite_self, and_self, and_true, true_and, frzDs, List.reverse_cons, List.reverse_nil, Option.toList_some, Option.toList_none, List.all_cons, List.all_nil, List.length_append, b1_1, r0]
    refine ⟨done ++ [(sh x p : Int)], x, some (cD x), ?_, ?_, ?_⟩
    · simp only [dI, List.map_append, List.map_cons, List.map_nil]
    · rw [List.append_assoc]; exact h2
    · rw [List.length_append, List.length_singleton]; omega
  · rintro env ⟨done, p, l, rfl, h2, h3⟩
    simp (disch := first | omega | (simp only [List.length_map, List.length_append, List.length_cons, List.length_nil, List.length_reverse, List.length_take, List.length_drop]; omega)) only [evS, evE, evA, evT, evI, evP, Z.bok, look, looks, slot_0, slot_s, getP, bindT, bindTs, setS, pureD_own, pureD_frz, pureD_scr, pureD_tup, pureD_int, pureD_str, pureD_bl, pureD_non, pureD_io, pureD_if, pureD_is, rootP, srcT, srcL, tmps, doCall, nodupB, roots, writeBack, setE, setP, mt_appL, mt_rev, isLst, augS, prS, un, bi, tri, int1, int2, intS, lenS, addS, sumS, listS, tupleS, revS, sliceS, itemS, eqS_int, neS_int, frzD, outS, clr, Z.rest, R.ne, Option.bind_some, Option.bind_none, Option.map_some, Option.map_none, if_true, if_false, List.length_cons, List.length_nil, List.length_map, List.map_cons, List.map_nil, List.set_cons_zero, List.set_cons_succ, List.set_nil, List.replicate_succ, List.replicate_zero, List.nil_append, List.cons_append, Bool.false_eq_true, Bool.not_true, Bool.not_false, Bool.and_true, Bool.true_and, Bool.and_self, Bool.false_and, Bool.and_false, List.contains_cons, List.contains_nil, Bool.or_false, Bool.false_or, Bool.or_self, Nat.reduceBEq, Nat.reduceLT, Nat.reduceAdd, Nat.reduceSub, Nat.reduceEqDiff, reduceIte, reduceCtorEq, Nat.zero_lt_succ, decide_true, decide_false, id_eq, RE_ok, RE_exc, RE_nil, RE_cons, RE_ite, ↓RE_try, RE_hand, RE_handN, LcE_ok, LcE_ite, LcT_ok, bind_ite, bind_exc, cfx, xN, fdIx, nx2_nx, nx2_rt, nx2_bk, nx2_ct, trn_nx, trn_ct, trn_bk, trn_rt, fin_rt, fin_nx, fix_eq, ex_some, ints?_dI, pures_dI, frzDs_dI, atI_0, atI_1, atI_2, stoS_0, stoS_1, dI_app, ltS_int, isTy_int_int, isTy_int_bool, isTy_int_str, isTy_int_tuple, isTy_int_list, isTy_int_NoneType, isTy_bool_int, isTy_bool_bool, isTy_bool_str, isTy_bool_tuple, isTy_bool_list, isTy_bool_NoneType, isTy_str_int, isTy_str_bool, isTy_str_str, isTy_str_tuple, isTy_str_list, isTy_str_NoneType, isTy_tuple_int, isTy_tuple_bool, isTy_tuple_str, isTy_tuple_tuple, isTy_tuple_list, isTy_tuple_NoneType, isTy_list_int, isTy_list_bool, isTy_list_str, isTy_list_tuple, isTy_list_list, isTy_list_NoneType, dI_snoc, own_scr, mt_pop', mt_popI, smallOk, smallLt, bd_int, bd_nat, if_pos, if_neg, eqS_int, neS_int, decide_eq_true_eq, Bool.not_eq_true', decide_eq_false_iff_not, ← List.map_drop, ← List.map_take, ← List.map_reverse, Int.toNat_natCast, Int.reduceToNat, ite_self, and_self, and_true, true_and, frzDs, List.reverse_cons, List.reverse_nil, Option.toList_some, Option.toList_none, List.all_cons, List.all_nil, List.length_append, b1_2]
    rw [← h2]
    simp only [offs, List.append_nil]
theorem sh_nil (a : List Int) : sh a [] = 0 := by cases a <;> rfl
theorem sh_le : ∀ a b : List Int, sh a b ≤ min a.length b.length
  | [], b => by simp [sh]
  | x :: a, [] => by simp [sh]
  | x :: a, y :: b => by
    rw [sh]
    have := sh_le a b
    split
    · rw [List.length_cons, List.length_cons]; omega
    · exact Nat.zero_le _
def cutL : List Int → List (List Int) → List (Int × List Int)
  | _, [] => []
  | p, c :: cs => ((sh c p : Int), c.drop (sh c p)) :: cutL c cs
def pD (x : Int × List Int) : D := .tup [.int x.1, cD x.2]
theorem r2 (n : Nat) (f : Fl) (cs : List (List Int)) (hl : cs.length ≤ 100) : run ft (n+3) 2 [.lst f (cDs cs)] = .ok (.lst .own ((cutL [] cs).map pD)) [.lst f (cDs cs)] := by
  refine RE.eq (fn := f2) rfl rfl ?_
  simp only [f2]
  obtain ⟨acc, env', h1, p, done, ds, l1, l2, h2, rfl, h3, rfl, h5⟩ := lc_goT (el := fun env => evE (run ft (n+2)) e2_1 env) (tg := .tup (.cons (.nm 1) (.cons (.nm 2) .nil))) (own := [1, 2]) (xs := zipD (dI (offs [] cs)) (cDs cs)) (acc := []) (env := [some (.lst f (cDs cs)), none, none])
    (fun rest acc env => ∃ (p : List Int) (done : List (Int × List Int)) (ds : List (List Int)) (l1 l2 : Option D), rest = zipD (dI (offs p ds)) (cDs ds) ∧ acc = done.map pD ∧ done ++ cutL p ds = cutL [] cs ∧ env = [some (.lst f (cDs cs)), l1, l2] ∧ done.length + ds.length = cs.length)
    (by
      rintro x xs acc env ⟨p, done, ds, l1, l2, h1, rfl, h3, rfl, h5⟩
      cases ds with
      | nil => cases h1
      | cons d ds =>
        cases h1
        rw [List.length_cons] at h5
        simp (disch := first | omega | (simp only [List.length_map, List.length_append, List.length_cons, List.length_nil, List.length_reverse, List.length_take, List.length_drop]; omega)) only [evS, evE, evA, evT, evI, evP, Z.bok, look, looks, slot_0, slot_s, getP, bindT, bindTs, setS, pureD_own, pureD_frz, pureD_scr, pureD_tup, pureD_int, pureD_str, pureD_bl, pureD_non, pureD_io, pureD_if, pureD_is, rootP, srcT, srcL, tmps, doCall, nodupB, roots, writeBack, setE, setP, mt_appL, mt_rev, isLst, augS, prS, un, bi, tri, int1, int2, intS, lenS, addS, sumS, listS, tupleS, revS, sliceS, itemS, eqS_int, neS_int, frzD, outS, clr, Z.rest, R.ne, Option.bind_some, Option.bind_none, Option.map_some, Option.map_none, if_true, if_false, List.length_cons, List.length_nil, List.length_map, List.map_cons, List.map_nil, List.set_cons_zero, List.set_cons_succ, List.set_nil, List.replicate_succ, List.replicate_zero, List.nil_append, List.cons_append, Bool.false_eq_true, Bool.not_true, Bool.not_false, Bool.and_true, Bool.true_and, Bool.and_self, Bool.false_and, Bool.and_false, List.contains_cons, List.contains_nil, Bool.or_false, Bool.false_or, Bool.or_self, Nat.reduceBEq, Nat.reduceLT, Nat.reduceAdd, Nat.reduceSub, Nat.reduceEqDiff, reduceIte, reduceCtorEq, Nat.zero_lt_succ, decide_true, decide_false, id_eq, RE_ok, RE_exc, RE_nil, RE_cons, RE_ite, ↓RE_try, RE_hand, RE_handN, LcE_ok, LcE_ite, LcT_ok, bind_ite, bind_exc, cfx, xN, fdIx, nx2_nx, nx2_rt, nx2_bk, nx2_ct, trn_nx, trn_ct, trn_bk, trn_rt, fin_rt, fin_nx, fix_eq, ex_some, ints?_dI, pures_dI, frzDs_dI, atI_0, atI_1, atI_2, stoS_0, stoS_1, dI_app, ltS_int, isTy_int_int, isTy_int_bool, isTy_int_str, isTy_int_tuple, isTy_int_list, isTy_int_NoneType, isTy_bool_int, isTy_bool_bool, isTy_bool_str, isTy_bool_tuple, isTy_bool_list, isTy_bool_NoneType, isTy_str_int, isTy_str_bool, isTy_str_str, isTy_str_tuple, isTy_str_list, isTy_str_NoneType, isTy_tuple_int, isTy_tuple_bool, isTy_tuple_str, isTy_tuple_tuple, isTy_tuple_list, isTy_tuple_NoneType, isTy_list_int, isTy_list_bool, isTy_list_str, isTy_list_tuple, isTy_list_list, isTy_list_NoneType, dI_snoc, own_scr, mt_pop', mt_popI, smallOk, smallLt, bd_int, bd_nat, if_pos, if_neg, eqS_int, neS_int, decide_eq_true_eq, Bool.not_eq_true', decide_eq_false_iff_not, ← List.map_drop, ← List.map_take, ← List.map_reverse, Int.toNat_natCast, Int.reduceToNat, ite_self, and_self, and_true, true_and, frzDs, List.reverse_cons, List.reverse_nil, Option.toList_some, Option.toList_none, List.all_cons, List.all_nil, List.length_append, e2_1, cut_map, cut_drop, Int.toNat_natCast]
        refine ⟨by omega, d, done ++ [((sh d p : Int), d.drop (sh d p))], ds, _, _, rfl, ?_, ?_, rfl, ?_⟩
        · rw [List.map_append]; rfl
        · rw [List.append_assoc]; exact h3
        · rw [List.length_append, List.length_singleton]; omega) ⟨[], [], cs, none, none, rfl, rfl, rfl, rfl, by simp⟩
  have : ds = [] := by
    cases ds with
    | nil => rfl
    | cons d ds => cases h2
  subst this
  rw [show cutL p [] = [] from rfl, List.append_nil] at h3
  simp (disch := first | omega | (simp only [List.length_map, List.length_append, List.length_cons, List.length_nil, List.length_reverse, List.length_take, List.length_drop]; omega)) only [evS, evE, evA, evT, evI, evP, Z.bok, look, looks, slot_0, slot_s, getP, bindT, bindTs, setS, pureD_own, pureD_frz, pureD_scr, pureD_tup, pureD_int, pureD_str, pureD_bl, pureD_non, pureD_io, pureD_if, pureD_is, rootP, srcT, srcL, tmps, doCall, nodupB, roots, writeBack, setE, setP, mt_appL, mt_rev, isLst, augS, prS, un, bi, tri, int1, int2, intS, lenS, addS, sumS, listS, tupleS, revS, sliceS, itemS, eqS_int, neS_int, frzD, outS, clr, Z.rest, R.ne, Option.bind_some, Option.bind_none, Option.map_some, Option.map_none, if_true, if_false, List.length_cons, List.length_nil, List.length_map, List.map_cons, List.map_nil, List.set_cons_zero, List.set_cons_succ, List.set_nil, List.replicate_succ, List.replicate_zero, List.nil_append, List.cons_append, Bool.false_eq_true, Bool.not_true, Bool.not_false, Bool.and_true, Bool.true_and, Bool.and_self, Bool.false_and, Bool.and_false, List.contains_cons, List.contains_nil, Bool.or_false, Bool.false_or, Bool.or_self, Nat.reduceBEq, Nat.reduceLT, Nat.reduceAdd, Nat.reduceSub, Nat.reduceEqDiff, reduceIte, reduceCtorEq, Nat.zero_lt_succ, decide_true, decide_false, id_eq, RE_ok, RE_exc, RE_nil, RE_cons, RE_ite, ↓RE_try, RE_hand, RE_handN, LcE_ok, LcE_ite, LcT_ok, bind_ite, bind_exc, cfx, xN, fdIx, nx2_nx, nx2_rt, nx2_bk, nx2_ct, trn_nx, trn_ct, trn_bk, trn_rt, fin_rt, fin_nx, fix_eq, ex_some, ints?_dI, pures_dI, frzDs_dI, atI_0, atI_1, atI_2, stoS_0, stoS_1, dI_app, ltS_int, isTy_int_int, isTy_int_bool, isTy_int_str, isTy_int_tuple, isTy_int_list, isTy_int_NoneType, isTy_bool_int, isTy_bool_bool, isTy_bool_str, isTy_bool_tuple, isTy_bool_list, isTy_bool_NoneType, isTy_str_int, isTy_str_bool, isTy_str_str, isTy_str_tuple, isTy_str_list, isTy_str_NoneType, isTy_tuple_int, isTy_tuple_bool, isTy_tuple_str, isTy_tuple_tuple, isTy_tuple_list, isTy_tuple_NoneType, isTy_list_int, isTy_list_bool, isTy_list_str, isTy_list_tuple, isTy_list_list, isTy_list_NoneType, dI_snoc, own_scr, mt_pop', mt_popI, smallOk, smallLt, bd_int, bd_nat, if_pos, if_neg, eqS_int, neS_int, decide_eq_true_eq, Bool.not_eq_true', decide_eq_false_iff_not, ← List.map_drop, ← List.map_take, ← List.map_reverse, Int.toNat_natCast, Int.reduceToNat, ite_self, and_self, and_true, true_and, frzDs, List.reverse_cons, List.reverse_nil, Option.toList_some, Option.toList_none, List.all_cons, List.all_nil, List.length_append, b2, r1 n f cs hl, pures_cD, h1, h3]
def okV (c : List Int) : Prop := ∀ v ∈ c, 0 ≤ v ∧ v < 1000
theorem okV_app {a b : List Int} (h : okV a) (k : okV b) : okV (a ++ b) := fun v hv => (List.mem_append.mp hv).elim (h v) (k v)
theorem okV_take {a : List Int} {n : Nat} (h : okV a) : okV (a.take n) := fun v hv => h v (List.mem_of_mem_take hv)
theorem okV_drop {a : List Int} {n : Nat} (h : okV a) : okV (a.drop n) := fun v hv => h v (List.mem_of_mem_drop hv)
/-! ### the pool -/
theorem r5 (n : Nat) (p : List Int) (m : Int) (hm : 0 < m) (hp : 2 ≤ p.length) : ∃ (p' : List Int) (r : Int), run ft (n+1) 5 [.lst .own (dI p), .int m] = .ok (.int r) [.lst .own (dI p'), .int m] ∧ 2 ≤ p'.length ∧ 0 ≤ r ∧ r < m := by
  have key : ∃ (p' : List Int) (r : Int), RE (evB (run ft n) f5.body [some (.lst .own (dI p)), some (.int m), none]) (fin f5.keep [.lst .own (dI p), .int m] fun d os => d = .int r ∧ os = [.lst .own (dI p'), .int m]) noX ∧ 2 ≤ p'.length ∧ 0 ≤ r ∧ r < m := by
    rcases List.eq_nil_or_concat p with rfl | ⟨q, x, rfl⟩
    · exact absurd hp (by decide)
    rw [List.concat_eq_append] at hp ⊢
    by_cases h : 2 < (q ++ [x]).length
    · rw [List.length_append, List.length_singleton] at h
      refine ⟨q, x % m, ?_, by omega, Int.emod_nonneg x (by omega), Int.emod_lt_of_pos x hm⟩
      simp only [dI, List.map_append, List.map_cons, List.map_nil, f5]
      simp (disch := first | omega | (simp only [List.length_map, List.length_append, List.length_cons, List.length_nil, List.length_reverse, List.length_take, List.length_drop]; omega)) only [evS, evE, evA, evT, evI, evP, Z.bok, look, looks, slot_0, slot_s, getP, bindT, bindTs, setS, pureD_own, pureD_frz, pureD_scr, pureD_tup, pureD_int, pureD_str, pureD_bl, pureD_non, pureD_io, pureD_if, pureD_is, rootP, srcT, srcL, tmps, doCall, nodupB, roots, writeBack, setE, setP, mt_appL, mt_rev, isLst, augS, prS, un, bi, tri, int1, int2, intS, lenS, addS, sumS, listS, tupleS, revS, sliceS, itemS, eqS_int, neS_int, frzD, outS, clr, Z.rest, R.ne, Option.bind_some, Option.bind_none, Option.map_some, Option.map_none, if_true, if_false, List.length_cons, List.length_nil, List.length_map, List.map_cons, List.map_nil, List.set_cons_zero, List.set_cons_succ, List.set_nil, List.replicate_succ, List.replicate_zero, List.nil_append, List.cons_append, Bool.false_eq_true, Bool.not_true, Bool.not_false, Bool.and_true, Bool.true_and, Bool.and_self, Bool.false_and, Bool.and_false, List.contains_cons, List.contains_nil, Bool.or_false, Bool.false_or, Bool.or_self, Nat.reduceBEq, Nat.reduceLT, Nat.reduceAdd, Nat.reduceSub, Nat.reduceEqDiff, reduceIte, reduceCtorEq, Nat.zero_lt_succ, decide_true, decide_false, id_eq, RE_ok, RE_exc, RE_nil, RE_cons, RE_ite, ↓RE_try, RE_hand, RE_handN, LcE_ok, LcE_ite, LcT_ok, bind_ite, bind_exc, cfx, xN, fdIx, nx2_nx, nx2_rt, nx2_bk, nx2_ct, trn_nx, trn_ct, trn_bk, trn_rt, fin_rt, fin_nx, fix_eq, ex_some, ints?_dI, pures_dI, frzDs_dI, atI_0, atI_1, atI_2, stoS_0, stoS_1, dI_app, ltS_int, isTy_int_int, isTy_int_bool, isTy_int_str, isTy_int_tuple, isTy_int_list, isTy_int_NoneType, isTy_bool_int, isTy_bool_bool, isTy_bool_str, isTy_bool_tuple, isTy_bool_list, isTy_bool_NoneType, isTy_str_int, isTy_str_bool, isTy_str_str, isTy_str_tuple, isTy_str_list, isTy_str_NoneType, isTy_tuple_int, isTy_tuple_bool, isTy_tuple_str, isTy_tuple_tuple, isTy_tuple_list, isTy_tuple_NoneType, isTy_list_int, isTy_list_bool, isTy_list_str, isTy_list_tuple, isTy_list_list, isTy_list_NoneType, dI_snoc, own_scr, mt_pop', mt_popI, smallOk, smallLt, bd_int, bd_nat, if_pos, if_neg, eqS_int, neS_int, decide_eq_true_eq, Bool.not_eq_true', decide_eq_false_iff_not, ← List.map_drop, ← List.map_take, ← List.map_reverse, Int.toNat_natCast, Int.reduceToNat, ite_self, and_self, and_true, true_and, frzDs, List.reverse_cons, List.reverse_nil, Option.toList_some, Option.toList_none, List.all_cons, List.all_nil, List.length_append, b5]
    · rw [List.length_append, List.length_singleton] at h hp
      obtain ⟨y, rfl⟩ : ∃ y, q = [y] := List.length_eq_one_iff.mp (by omega)
      refine ⟨[x, (y + x) % 997], ((y + x) % 997) % m, ?_, Nat.le_refl 2, Int.emod_nonneg _ (by omega), Int.emod_lt_of_pos _ hm⟩
      simp only [f5, dI, List.map_append, List.map_cons, List.map_nil, List.cons_append, List.nil_append]
      simp (disch := first | omega | (simp only [List.length_map, List.length_append, List.length_cons, List.length_nil, List.length_reverse, List.length_take, List.length_drop]; omega)) only [evS, evE, evA, evT, evI, evP, Z.bok, look, looks, slot_0, slot_s, getP, bindT, bindTs, setS, pureD_own, pureD_frz, pureD_scr, pureD_tup, pureD_int, pureD_str, pureD_bl, pureD_non, pureD_io, pureD_if, pureD_is, rootP, srcT, srcL, tmps, doCall, nodupB, roots, writeBack, setE, setP, mt_appL, mt_rev, isLst, augS, prS, un, bi, tri, int1, int2, intS, lenS, addS, sumS, listS, tupleS, revS, sliceS, itemS, eqS_int, neS_int, frzD, outS, clr, Z.rest, R.ne, Option.bind_some, Option.bind_none, Option.map_some, Option.map_none, if_true, if_false, List.length_cons, List.length_nil, List.length_map, List.map_cons, List.map_nil, List.set_cons_zero, List.set_cons_succ, List.set_nil, List.replicate_succ, List.replicate_zero, List.nil_append, List.cons_append, Bool.false_eq_true, Bool.not_true, Bool.not_false, Bool.and_true, Bool.true_and, Bool.and_self, Bool.false_and, Bool.and_false, List.contains_cons, List.contains_nil, Bool.or_false, Bool.false_or, Bool.or_self, Nat.reduceBEq, Nat.reduceLT, Nat.reduceAdd, Nat.reduceSub, Nat.reduceEqDiff, reduceIte, reduceCtorEq, Nat.zero_lt_succ, decide_true, decide_false, id_eq, RE_ok, RE_exc, RE_nil, RE_cons, RE_ite, ↓RE_try, RE_hand, RE_handN, LcE_ok, LcE_ite, LcT_ok, bind_ite, bind_exc, cfx, xN, fdIx, nx2_nx, nx2_rt, nx2_bk, nx2_ct, trn_nx, trn_ct, trn_bk, trn_rt, fin_rt, fin_nx, fix_eq, ex_some, ints?_dI, pures_dI, frzDs_dI, atI_0, atI_1, atI_2, stoS_0, stoS_1, dI_app, ltS_int, isTy_int_int, isTy_int_bool, isTy_int_str, isTy_int_tuple, isTy_int_list, isTy_int_NoneType, isTy_bool_int, isTy_bool_bool, isTy_bool_str, isTy_bool_tuple, isTy_bool_list, isTy_bool_NoneType, isTy_str_int, isTy_str_bool, isTy_str_str, isTy_str_tuple, isTy_str_list, isTy_str_NoneType, isTy_tuple_int, isTy_tuple_bool, isTy_tuple_str, isTy_tuple_tuple, isTy_tuple_list, isTy_tuple_NoneType, isTy_list_int, isTy_list_bool, isTy_list_str, isTy_list_tuple, isTy_list_list, isTy_list_NoneType, dI_snoc, own_scr, mt_pop', mt_popI, smallOk, smallLt, bd_int, bd_nat, if_pos, if_neg, eqS_int, neS_int, decide_eq_true_eq, Bool.not_eq_true', decide_eq_false_iff_not, ← List.map_drop, ← List.map_take, ← List.map_reverse, Int.toNat_natCast, Int.reduceToNat, ite_self, and_self, and_true, true_and, frzDs, List.reverse_cons, List.reverse_nil, Option.toList_some, Option.toList_none, List.all_cons, List.all_nil, List.length_append, b5]
  obtain ⟨p', r, h, k⟩ := key
  exact ⟨p', r, RE.eq (fn := f5) rfl rfl h, k⟩
theorem r4 (n : Nat) (ns : List Int) (hl : ns.length ≤ 63) : ∃ (p : List Int), run ft (n+1) 4 [scriptD ns] = .ok (.lst .own (dI p)) [scriptD ns] ∧ 2 ≤ p.length := by
  have key : ∃ d os, run ft (n+1) 4 [scriptD ns] = .ok d os ∧ ∃ p : List Int, d = .lst .own (dI p) ∧ os = [scriptD ns] ∧ 2 ≤ p.length := by
    refine RE.of (fn := f4) rfl rfl ?_
    simp only [f4, scriptD]
    simp (disch := first | omega | (simp only [List.length_map, List.length_append, List.length_cons, List.length_nil, List.length_reverse, List.length_take, List.length_drop]; omega)) only [evS, evE, evA, evT, evI, evP, Z.bok, look, looks, slot_0, slot_s, getP, bindT, bindTs, setS, pureD_own, pureD_frz, pureD_scr, pureD_tup, pureD_int, pureD_str, pureD_bl, pureD_non, pureD_io, pureD_if, pureD_is, rootP, srcT, srcL, tmps, doCall, nodupB, roots, writeBack, setE, setP, mt_appL, mt_rev, isLst, augS, prS, un, bi, tri, int1, int2, intS, lenS, addS, sumS, listS, tupleS, revS, sliceS, itemS, eqS_int, neS_int, frzD, outS, clr, Z.rest, R.ne, Option.bind_some, Option.bind_none, Option.map_some, Option.map_none, if_true, if_false, List.length_cons, List.length_nil, List.length_map, List.map_cons, List.map_nil, List.set_cons_zero, List.set_cons_succ, List.set_nil, List.replicate_succ, List.replicate_zero, List.nil_append, List.cons_append, Bool.false_eq_true, Bool.not_true, Bool.not_false, Bool.and_true, Bool.true_and, Bool.and_self, Bool.false_and, Bool.and_false, List.contains_cons, List.contains_nil, Bool.or_false, Bool.false_or, Bool.or_self, Nat.reduceBEq, Nat.reduceLT, Nat.reduceAdd, Nat.reduceSub, Nat.reduceEqDiff, reduceIte, reduceCtorEq, Nat.zero_lt_succ, decide_true, decide_false, id_eq, RE_ok, RE_exc, RE_nil, RE_cons, RE_ite, ↓RE_try, RE_hand, RE_handN, LcE_ok, LcE_ite, LcT_ok, bind_ite, bind_exc, cfx, xN, fdIx, nx2_nx, nx2_rt, nx2_bk, nx2_ct, trn_nx, trn_ct, trn_bk, trn_rt, fin_rt, fin_nx, fix_eq, ex_some, ints?_dI, pures_dI, frzDs_dI, atI_0, atI_1, atI_2, stoS_0, stoS_1, dI_app, ltS_int, isTy_int_int, isTy_int_bool, isTy_int_str, isTy_int_tuple, isTy_int_list, isTy_int_NoneType, isTy_bool_int, isTy_bool_bool, isTy_bool_str, isTy_bool_tuple, isTy_bool_list, isTy_bool_NoneType, isTy_str_int, isTy_str_bool, isTy_str_str, isTy_str_tuple, isTy_str_list, isTy_str_NoneType, isTy_tuple_int, isTy_tuple_bool, isTy_tuple_str, isTy_tuple_tuple, isTy_tuple_list, isTy_tuple_NoneType, isTy_list_int, isTy_list_bool, isTy_list_str, isTy_list_tuple, isTy_list_list, isTy_list_NoneType, dI_snoc, own_scr, mt_pop', mt_popI, smallOk, smallLt, bd_int, bd_nat, if_pos, if_neg, eqS_int, neS_int, decide_eq_true_eq, Bool.not_eq_true', decide_eq_false_iff_not, ← List.map_drop, ← List.map_take, ← List.map_reverse, Int.toNat_natCast, Int.reduceToNat, ite_self, and_self, and_true, true_and, frzDs, List.reverse_cons, List.reverse_nil, Option.toList_some, Option.toList_none, List.all_cons, List.all_nil, List.length_append, b4, cut_map]
    have hc : (cut ns none (some 63)).length ≤ 63 := Nat.le_trans cut_len hl
    refine RE.goM (fun rest env => ∃ (ds : List Int) (l2 l3 l4 : Option D), env = [some (.lst .scr (dI ns)), some (.lst .own (dI ds)), l2, l3, l4] ∧ ds.length + 20 * rest.length ≤ 20 * 63) ?_ ?_ ⟨[], none, none, none, rfl, by rw [List.length_nil]; omega⟩
    · rintro x xs env ⟨ds, l2, l3, l4, rfl, h2⟩
      rw [List.length_cons] at h2
      simp (disch := first | omega | (simp only [List.length_map, List.length_append, List.length_cons, List.length_nil, List.length_reverse, List.length_take, List.length_drop]; omega)) only [evS, evE, evA, evT, evI, evP, Z.bok, look, looks, slot_0, slot_s, getP, bindT, bindTs, setS, pureD_own, pureD_frz, pureD_scr, pureD_tup, pureD_int, pureD_str, pureD_bl, pureD_non, pureD_io, pureD_if, pureD_is, rootP, srcT, srcL, tmps, doCall, nodupB, roots, writeBack, setE, setP, mt_appL, mt_rev, isLst, augS, prS, un, bi, tri, int1, int2, intS, lenS, addS, sumS, listS, tupleS, revS, sliceS, itemS, eqS_int, neS_int, frzD, outS, clr, Z.rest, R.ne, Option.bind_some, Option.bind_none, Option.map_some, Option.map_none, if_true, if_false, List.length_cons, List.length_nil, List.length_map, List.map_cons, List.map_nil, List.set_cons_zero, List.set_cons_succ, List.set_nil, List.replicate_succ, List.replicate_zero, List.nil_append, List.cons_append, Bool.false_eq_true, Bool.not_true, Bool.not_false, Bool.and_true, Bool.true_and, Bool.and_self, Bool.false_and, Bool.and_false, List.contains_cons, List.contains_nil, Bool.or_false, Bool.false_or, Bool.or_self, Nat.reduceBEq, Nat.reduceLT, Nat.reduceAdd, Nat.reduceSub, Nat.reduceEqDiff, reduceIte, reduceCtorEq, Nat.zero_lt_succ, decide_true, decide_false, id_eq, RE_ok, RE_exc, RE_nil, RE_cons, RE_ite, ↓RE_try, RE_hand, RE_handN, LcE_ok, LcE_ite, LcT_ok, bind_ite, bind_exc, cfx, xN, fdIx, nx2_nx, nx2_rt, nx2_bk, nx2_ct, trn_nx, trn_ct, trn_bk, trn_rt, fin_rt, fin_nx, fix_eq, ex_some, ints?_dI, pures_dI, frzDs_dI, atI_0, atI_1, atI_2, stoS_0, stoS_1, dI_app, ltS_int, isTy_int_int, isTy_int_bool, isTy_int_str, isTy_int_tuple, isTy_int_list, isTy_int_NoneType, isTy_bool_int, isTy_bool_bool, isTy_bool_str, isTy_bool_tuple, isTy_bool_list, isTy_bool_NoneType, isTy_str_int, isTy_str_bool, isTy_str_str, isTy_str_tuple, isTy_str_list, isTy_str_NoneType, isTy_tuple_int, isTy_tuple_bool, isTy_tuple_str, isTy_tuple_tuple, isTy_tuple_list, isTy_tuple_NoneType, isTy_list_int, isTy_list_bool, isTy_list_str, isTy_list_tuple, isTy_list_list, isTy_list_NoneType, dI_snoc, own_scr, mt_pop', mt_popI, smallOk, smallLt, bd_int, bd_nat, if_pos, if_neg, eqS_int, neS_int, decide_eq_true_eq, Bool.not_eq_true', decide_eq_false_iff_not, ← List.map_drop, ← List.map_take, ← List.map_reverse, Int.toNat_natCast, Int.reduceToNat, ite_self, and_self, and_true, true_and, frzDs, List.reverse_cons, List.reverse_nil, Option.toList_some, Option.toList_none, List.all_cons, List.all_nil, List.length_append, b4_2, c_pow1060, c_pos1060]
      refine RE.goR (fun i env => ∃ (es : List Int) (r : Int) (l4 : Option D), env = [some (.lst .scr (dI ns)), some (.lst .own (dI es)), some (.int x), some (.int r), l4] ∧ es.length ≤ ds.length + 1 + i) ?_ ?_ ⟨_, _, _, rfl, by rw [List.length_append, List.length_singleton]; omega⟩
      · rintro i env hi ⟨es, r, l4, rfl, h3⟩
        by_cases h : 0 < r / 1000
        · simp (disch := first | omega | (simp only [List.length_map, List.length_append, List.length_cons, List.length_nil, List.length_reverse, List.length_take, List.length_drop]; omega)) only [evS, evE, evA, evT, evI, evP, Z.bok, look, looks, slot_0, slot_s, getP, bindT, bindTs, setS, pureD_own, pureD_frz, pureD_scr, pureD_tup, pureD_int, pureD_str, pureD_bl, pureD_non, pureD_io, pureD_if, pureD_is, rootP, srcT, srcL, tmps, doCall, nodupB, roots, writeBack, setE, setP, mt_appL, mt_rev, isLst, augS, prS, un, bi, tri, int1, int2, intS, lenS, addS, sumS, listS, tupleS, revS, sliceS, itemS, eqS_int, neS_int, frzD, outS, clr, Z.rest, R.ne, Option.bind_some, Option.bind_none, Option.map_some, Option.map_none, if_true, if_false, List.length_cons, List.length_nil, List.length_map, List.map_cons, List.map_nil, List.set_cons_zero, List.set_cons_succ, List.set_nil, List.replicate_succ, List.replicate_zero, List.nil_append, List.cons_append, Bool.false_eq_true, Bool.not_true, Bool.not_false, Bool.and_true, Bool.true_and, Bool.and_self, Bool.false_and, Bool.and_false, List.contains_cons, List.contains_nil, Bool.or_false, Bool.false_or, Bool.or_self, Nat.reduceBEq, Nat.reduceLT, Nat.reduceAdd, Nat.reduceSub, Nat.reduceEqDiff, reduceIte, reduceCtorEq, Nat.zero_lt_succ, decide_true, decide_false, id_eq, RE_ok, RE_exc, RE_nil, RE_cons, RE_ite, ↓RE_try, RE_hand, RE_handN, LcE_ok, LcE_ite, LcT_ok, bind_ite, bind_exc, cfx, xN, fdIx, nx2_nx, nx2_rt, nx2_bk, nx2_ct, trn_nx, trn_ct, trn_bk, trn_rt, fin_rt, fin_nx, fix_eq, ex_some, ints?_dI, pures_dI, frzDs_dI, atI_0, atI_1, atI_2, stoS_0, stoS_1, dI_app, ltS_int, isTy_int_int, isTy_int_bool, isTy_int_str, isTy_int_tuple, isTy_int_list, isTy_int_NoneType, isTy_bool_int, isTy_bool_bool, isTy_bool_str, isTy_bool_tuple, isTy_bool_list, isTy_bool_NoneType, isTy_str_int, isTy_str_bool, isTy_str_str, isTy_str_tuple, isTy_str_list, isTy_str_NoneType, isTy_tuple_int, isTy_tuple_bool, isTy_tuple_str, isTy_tuple_tuple, isTy_tuple_list, isTy_tuple_NoneType, isTy_list_int, isTy_list_bool, isTy_list_str, isTy_list_tuple, isTy_list_list, isTy_list_NoneType, dI_snoc, own_scr, mt_pop', mt_popI, smallOk, smallLt, bd_int, bd_nat, if_pos, if_neg, eqS_int, neS_int, decide_eq_true_eq, Bool.not_eq_true', decide_eq_false_iff_not, ← List.map_drop, ← List.map_take, ← List.map_reverse, Int.toNat_natCast, Int.reduceToNat, ite_self, and_self, and_true, true_and, frzDs, List.reverse_cons, List.reverse_nil, Option.toList_some, Option.toList_none, List.all_cons, List.all_nil, List.length_append, b4_1, c_div1000, h]
          exact ⟨es ++ [r / 1000 % 1000], r / 1000, some (.int i), rfl, by rw [List.length_append, List.length_singleton]; omega⟩
        · simp (disch := first | omega | (simp only [List.length_map, List.length_append, List.length_cons, List.length_nil, List.length_reverse, List.length_take, List.length_drop]; omega)) only [evS, evE, evA, evT, evI, evP, Z.bok, look, looks, slot_0, slot_s, getP, bindT, bindTs, setS, pureD_own, pureD_frz, pureD_scr, pureD_tup, pureD_int, pureD_str, pureD_bl, pureD_non, pureD_io, pureD_if, pureD_is, rootP, srcT, srcL, tmps, doCall, nodupB, roots, writeBack, setE, setP, mt_appL, mt_rev, isLst, augS, prS, un, bi, tri, int1, int2, intS, lenS, addS, sumS, listS, tupleS, revS, sliceS, itemS, eqS_int, neS_int, frzD, outS, clr, Z.rest, R.ne, Option.bind_some, Option.bind_none, Option.map_some, Option.map_none, if_true, if_false, List.length_cons, List.length_nil, List.length_map, List.map_cons, List.map_nil, List.set_cons_zero, List.set_cons_succ, List.set_nil, List.replicate_succ, List.replicate_zero, List.nil_append, List.cons_append, Bool.false_eq_true, Bool.not_true, Bool.not_false, Bool.and_true, Bool.true_and, Bool.and_self, Bool.false_and, Bool.and_false, List.contains_cons, List.contains_nil, Bool.or_false, Bool.false_or, Bool.or_self, Nat.reduceBEq, Nat.reduceLT, Nat.reduceAdd, Nat.reduceSub, Nat.reduceEqDiff, reduceIte, reduceCtorEq, Nat.zero_lt_succ, decide_true, decide_false, id_eq, RE_ok, RE_exc, RE_nil, RE_cons, RE_ite, ↓RE_try, RE_hand, RE_handN, LcE_ok, LcE_ite, LcT_ok, bind_ite, bind_exc, cfx, xN, fdIx, nx2_nx, nx2_rt, nx2_bk, nx2_ct, trn_nx, trn_ct, trn_bk, trn_rt, fin_rt, fin_nx, fix_eq, ex_some, ints?_dI, pures_dI, frzDs_dI, atI_0, atI_1, atI_2, stoS_0, stoS_1, dI_app, ltS_int, isTy_int_int, isTy_int_bool, isTy_int_str, isTy_int_tuple, isTy_int_list, isTy_int_NoneType, isTy_bool_int, isTy_bool_bool, isTy_bool_str, isTy_bool_tuple, isTy_bool_list, isTy_bool_NoneType, isTy_str_int, isTy_str_bool, isTy_str_str, isTy_str_tuple, isTy_str_list, isTy_str_NoneType, isTy_tuple_int, isTy_tuple_bool, isTy_tuple_str, isTy_tuple_tuple, isTy_tuple_list, isTy_tuple_NoneType, isTy_list_int, isTy_list_bool, isTy_list_str, isTy_list_tuple, isTy_list_list, isTy_list_NoneType, dI_snoc, own_scr, mt_pop', mt_popI, smallOk, smallLt, bd_int, bd_nat, if_pos, if_neg, eqS_int, neS_int, decide_eq_true_eq, Bool.not_eq_true', decide_eq_false_iff_not, ← List.map_drop, ← List.map_take, ← List.map_reverse, Int.toNat_natCast, Int.reduceToNat, ite_self, and_self, and_true, true_and, frzDs, List.reverse_cons, List.reverse_nil, Option.toList_some, Option.toList_none, List.all_cons, List.all_nil, List.length_append, b4_1, c_div1000, h]
          exact ⟨es, r / 1000, some (.int i), rfl, by omega⟩
      · rintro env ⟨es, r, l4, rfl, h3⟩
        simp (disch := first | omega | (simp only [List.length_map, List.length_append, List.length_cons, List.length_nil, List.length_reverse, List.length_take, List.length_drop]; omega)) only [evS, evE, evA, evT, evI, evP, Z.bok, look, looks, slot_0, slot_s, getP, bindT, bindTs, setS, pureD_own, pureD_frz, pureD_scr, pureD_tup, pureD_int, pureD_str, pureD_bl, pureD_non, pureD_io, pureD_if, pureD_is, rootP, srcT, srcL, tmps, doCall, nodupB, roots, writeBack, setE, setP, mt_appL, mt_rev, isLst, augS, prS, un, bi, tri, int1, int2, intS, lenS, addS, sumS, listS, tupleS, revS, sliceS, itemS, eqS_int, neS_int, frzD, outS, clr, Z.rest, R.ne, Option.bind_some, Option.bind_none, Option.map_some, Option.map_none, if_true, if_false, List.length_cons, List.length_nil, List.length_map, List.map_cons, List.map_nil, List.set_cons_zero, List.set_cons_succ, List.set_nil, List.replicate_succ, List.replicate_zero, List.nil_append, List.cons_append, Bool.false_eq_true, Bool.not_true, Bool.not_false, Bool.and_true, Bool.true_and, Bool.and_self, Bool.false_and, Bool.and_false, List.contains_cons, List.contains_nil, Bool.or_false, Bool.false_or, Bool.or_self, Nat.reduceBEq, Nat.reduceLT, Nat.reduceAdd, Nat.reduceSub, Nat.reduceEqDiff, reduceIte, reduceCtorEq, Nat.zero_lt_succ, decide_true, decide_false, id_eq, RE_ok, RE_exc, RE_nil, RE_cons, RE_ite, ↓RE_try, RE_hand, RE_handN, LcE_ok, LcE_ite, LcT_ok, bind_ite, bind_exc, cfx, xN, fdIx, nx2_nx, nx2_rt, nx2_bk, nx2_ct, trn_nx, trn_ct, trn_bk, trn_rt, fin_rt, fin_nx, fix_eq, ex_some, ints?_dI, pures_dI, frzDs_dI, atI_0, atI_1, atI_2, stoS_0, stoS_1, dI_app, ltS_int, isTy_int_int, isTy_int_bool, isTy_int_str, isTy_int_tuple, isTy_int_list, isTy_int_NoneType, isTy_bool_int, isTy_bool_bool, isTy_bool_str, isTy_bool_tuple, isTy_bool_list, isTy_bool_NoneType, isTy_str_int, isTy_str_bool, isTy_str_str, isTy_str_tuple, isTy_str_list, isTy_str_NoneType, isTy_tuple_int, isTy_tuple_bool, isTy_tuple_str, isTy_tuple_tuple, isTy_tuple_list, isTy_tuple_NoneType, isTy_list_int, isTy_list_bool, isTy_list_str, isTy_list_tuple, isTy_list_list, isTy_list_NoneType, dI_snoc, own_scr, mt_pop', mt_popI, smallOk, smallLt, bd_int, bd_nat, if_pos, if_neg, eqS_int, neS_int, decide_eq_true_eq, Bool.not_eq_true', decide_eq_false_iff_not, ← List.map_drop, ← List.map_take, ← List.map_reverse, Int.toNat_natCast, Int.reduceToNat, ite_self, and_self, and_true, true_and, frzDs, List.reverse_cons, List.reverse_nil, Option.toList_some, Option.toList_none, List.all_cons, List.all_nil, List.length_append]
        exact ⟨es, _, _, _, rfl, by omega⟩
    · rintro env ⟨ds, l2, l3, l4, rfl, h2⟩
      have h1 : pures [D.int 1, D.int (ds.sum % 997)] = true := rfl
      simp (disch := first | omega | (simp only [List.length_map, List.length_append, List.length_cons, List.length_nil, List.length_reverse, List.length_take, List.length_drop]; omega)) only [evS, evE, evA, evT, evI, evP, Z.bok, look, looks, slot_0, slot_s, getP, bindT, bindTs, setS, pureD_own, pureD_frz, pureD_scr, pureD_tup, pureD_int, pureD_str, pureD_bl, pureD_non, pureD_io, pureD_if, pureD_is, rootP, srcT, srcL, tmps, doCall, nodupB, roots, writeBack, setE, setP, mt_appL, mt_rev, isLst, augS, prS, un, bi, tri, int1, int2, intS, lenS, addS, sumS, listS, tupleS, revS, sliceS, itemS, eqS_int, neS_int, frzD, outS, clr, Z.rest, R.ne, Option.bind_some, Option.bind_none, Option.map_some, Option.map_none, if_true, if_false, List.length_cons, List.length_nil, List.length_map, List.map_cons, List.map_nil, List.set_cons_zero, List.set_cons_succ, List.set_nil, List.replicate_succ, List.replicate_zero, List.nil_append, List.cons_append, Bool.false_eq_true, Bool.not_true, Bool.not_false, Bool.and_true, Bool.true_and, Bool.and_self, Bool.false_and, Bool.and_false, List.contains_cons, List.contains_nil, Bool.or_false, Bool.false_or, Bool.or_self, Nat.reduceBEq, Nat.reduceLT, Nat.reduceAdd, Nat.reduceSub, Nat.reduceEqDiff, reduceIte, reduceCtorEq, Nat.zero_lt_succ, decide_true, decide_false, id_eq, RE_ok, RE_exc, RE_nil, RE_cons, RE_ite, ↓RE_try, RE_hand, RE_handN, LcE_ok, LcE_ite, LcT_ok, bind_ite, bind_exc, cfx, xN, fdIx, nx2_nx, nx2_rt, nx2_bk, nx2_ct, trn_nx, trn_ct, trn_bk, trn_rt, fin_rt, fin_nx, fix_eq, ex_some, ints?_dI, pures_dI, frzDs_dI, atI_0, atI_1, atI_2, stoS_0, stoS_1, dI_app, ltS_int, isTy_int_int, isTy_int_bool, isTy_int_str, isTy_int_tuple, isTy_int_list, isTy_int_NoneType, isTy_bool_int, isTy_bool_bool, isTy_bool_str, isTy_bool_tuple, isTy_bool_list, isTy_bool_NoneType, isTy_str_int, isTy_str_bool, isTy_str_str, isTy_str_tuple, isTy_str_list, isTy_str_NoneType, isTy_tuple_int, isTy_tuple_bool, isTy_tuple_str, isTy_tuple_tuple, isTy_tuple_list, isTy_tuple_NoneType, isTy_list_int, isTy_list_bool, isTy_list_str, isTy_list_tuple, isTy_list_list, isTy_list_NoneType, dI_snoc, own_scr, mt_pop', mt_popI, smallOk, smallLt, bd_int, bd_nat, if_pos, if_neg, eqS_int, neS_int, decide_eq_true_eq, Bool.not_eq_true', decide_eq_false_iff_not, ← List.map_drop, ← List.map_take, ← List.map_reverse, Int.toNat_natCast, Int.reduceToNat, ite_self, and_self, and_true, true_and, frzDs, List.reverse_cons, List.reverse_nil, Option.toList_some, Option.toList_none, List.all_cons, List.all_nil, List.length_append, b4_3, h1]
      exact ⟨1 :: (ds.sum % 997) :: ds.reverse, rfl, by simp⟩
  obtain ⟨d, os, h, p, rfl, rfl, hp⟩ := key
  exact ⟨p, h, hp⟩

/-- codes that are drawn -/
def okC (c : List Int) : Prop := c.length ≤ 60 ∧ okV c
theorem r6 (n : Nat) (p : List Int) (hp : 2 ≤ p.length) : ∃ (p' : List Int) (cs : List (List Int)), run ft (n+2) 6 [.lst .own (dI p)] = .ok (.lst .own (cDs cs)) [.lst .own (dI p')] ∧ 2 ≤ p'.length ∧ cs.length ≤ 58 ∧ ∀ c ∈ cs, okC c := by
  have key : ∃ d os, run ft (n+2) 6 [.lst .own (dI p)] = .ok d os ∧ ∃ (p' : List Int) (cs : List (List Int)), d = .lst .own (cDs cs) ∧ os = [.lst .own (dI p')] ∧ 2 ≤ p'.length ∧ cs.length ≤ 58 ∧ ∀ c ∈ cs, okC c := by
    refine RE.of (fn := f6) rfl rfl ?_
    simp only [f6]
    obtain ⟨p1, a1, e1, q1, l1, u1⟩ := r5 n p 8 (by decide) hp
    obtain ⟨p2, a2, e2, q2, l2, u2⟩ := r5 n p1 8 (by decide) q1
    obtain ⟨p3, a3, e3, q3, l3, u3⟩ := r5 n p2 3 (by decide) q2
    obtain ⟨many, hmany, m2⟩ : ∃ many : Nat, L2.atI [D.int a1, D.int 58] (if a2 = 0 then 1 else 0) = some (.int many) ∧ many ≤ 58 := by
      by_cases h : a2 = 0
      · exact ⟨58, by rw [if_pos h]; exact atI_1, Nat.le_refl _⟩
      · exact ⟨a1.toNat, by rw [if_neg h, atI_0, Int.toNat_of_nonneg l1], by omega⟩
    obtain ⟨top, htop, t1, t2⟩ : ∃ top : Int, L2.atI [D.int 2, D.int 3, D.int 256] a3 = some (.int top) ∧ 0 < top ∧ top ≤ 256 := by
      have : a3 = 0 ∨ a3 = 1 ∨ a3 = 2 := by omega
      rcases this with rfl | rfl | rfl
      · exact ⟨2, atI_0, by decide⟩
      · exact ⟨3, atI_1, by decide⟩
      · exact ⟨256, atI_2, by decide⟩
    simp (disch := first | omega | (simp only [List.length_map, List.length_append, List.length_cons, List.length_nil, List.length_reverse, List.length_take, List.length_drop]; omega)) only [evS, evE, evA, evT, evI, evP, Z.bok, look, looks, slot_0, slot_s, getP, bindT, bindTs, setS, pureD_own, pureD_frz, pureD_scr, pureD_tup, pureD_int, pureD_str, pureD_bl, pureD_non, pureD_io, pureD_if, pureD_is, rootP, srcT, srcL, tmps, doCall, nodupB, roots, writeBack, setE, setP, mt_appL, mt_rev, isLst, augS, prS, un, bi, tri, int1, int2, intS, lenS, addS, sumS, listS, tupleS, revS, sliceS, itemS, eqS_int, neS_int, frzD, outS, clr, Z.rest, R.ne, Option.bind_some, Option.bind_none, Option.map_some, Option.map_none, if_true, if_false, List.length_cons, List.length_nil, List.length_map, List.map_cons, List.map_nil, List.set_cons_zero, List.set_cons_succ, List.set_nil, List.replicate_succ, List.replicate_zero, List.nil_append, List.cons_append, Bool.false_eq_true, Bool.not_true, Bool.not_false, Bool.and_true, Bool.true_and, Bool.and_self, Bool.false_and, Bool.and_false, List.contains_cons, List.contains_nil, Bool.or_false, Bool.false_or, Bool.or_self, Nat.reduceBEq, Nat.reduceLT, Nat.reduceAdd, Nat.reduceSub, Nat.reduceEqDiff, reduceIte, reduceCtorEq, Nat.zero_lt_succ, decide_true, decide_false, id_eq, RE_ok, RE_exc, RE_nil, RE_cons, RE_ite, ↓RE_try, RE_hand, RE_handN, LcE_ok, LcE_ite, LcT_ok, bind_ite, bind_exc, cfx, xN, fdIx, nx2_nx, nx2_rt, nx2_bk, nx2_ct, trn_nx, trn_ct, trn_bk, trn_rt, fin_rt, fin_nx, fix_eq, ex_some, ints?_dI, pures_dI, frzDs_dI, atI_0, atI_1, atI_2, stoS_0, stoS_1, dI_app, ltS_int, isTy_int_int, isTy_int_bool, isTy_int_str, isTy_int_tuple, isTy_int_list, isTy_int_NoneType, isTy_bool_int, isTy_bool_bool, isTy_bool_str, isTy_bool_tuple, isTy_bool_list, isTy_bool_NoneType, isTy_str_int, isTy_str_bool, isTy_str_str, isTy_str_tuple, isTy_str_list, isTy_str_NoneType, isTy_tuple_int, isTy_tuple_bool, isTy_tuple_str, isTy_tuple_tuple, isTy_tuple_list, isTy_tuple_NoneType, isTy_list_int, isTy_list_bool, isTy_list_str, isTy_list_tuple, isTy_list_list, isTy_list_NoneType, dI_snoc, own_scr, mt_pop', mt_popI, smallOk, smallLt, bd_int, bd_nat, if_pos, if_neg, eqS_int, neS_int, decide_eq_true_eq, Bool.not_eq_true', decide_eq_false_iff_not, ← List.map_drop, ← List.map_take, ← List.map_reverse, Int.toNat_natCast, Int.reduceToNat, ite_self, and_self, and_true, true_and, frzDs, List.reverse_cons, List.reverse_nil, Option.toList_some, Option.toList_none, List.all_cons, List.all_nil, List.length_append, b6, e1, e2, e3, hmany, htop]
    refine RE.goR (fun i env => ∃ (p : List Int) (rows : List (List Int)) (ahead : List Int) (l5 l6 l7 l8 l9 : Option D), env = [some (.lst .own (dI p)), some (.int many), some (.int top), some (.lst .own (cDs rows)), some (cD ahead), l5, l6, l7, l8, l9] ∧ 2 ≤ p.length ∧ rows.length = i ∧ (∀ c ∈ rows, okC c) ∧ okC ahead) ?_ ?_ ⟨p3, [], [], _, _, _, _, _, rfl, q3, rfl, fun _ z => absurd z List.not_mem_nil, Nat.zero_le _, fun _ z => absurd z List.not_mem_nil⟩
    · rintro i env hi ⟨p, rows, ahead, l5, l6, l7, l8, l9, rfl, hp, hr, hc, ha⟩
      obtain ⟨p1, a1, e1, q1, l1, u1⟩ := r5 n p ((ahead.length : Nat) + 1 : Int) (by omega) hp
      obtain ⟨p2, a2, e2, q2, l2, u2⟩ := r5 n p1 5 (by decide) q1
      obtain ⟨p3, a3, e3, q3, l3, u3⟩ := r5 n p2 16 (by decide) q2
      obtain ⟨p4, a4, e4, q4, l4, u4⟩ := r5 n p3 4 (by decide) q3
      have key : ∀ s kk : Nat, s ≤ 50 → RE (evB (run ft (n+1)) b6_2 [some (.lst .own (dI p4)), some (.int many), some (.int top), some (.lst .own (cDs rows)), some (cD ahead), some (.int i), some (.int kk), some (.int s), l8, l9])
          (trn (fun env => ∃ (p : List Int) (rows : List (List Int)) (ahead : List Int) (l5 l6 l7 l8 l9 : Option D), env = [some (.lst .own (dI p)), some (.int many), some (.int top), some (.lst .own (cDs rows)), some (cD ahead), l5, l6, l7, l8, l9] ∧ 2 ≤ p.length ∧ rows.length = i + 1 ∧ (∀ c ∈ rows, okC c) ∧ okC ahead) (nx2 (run ft (n+1)) b6_5 (fin f6.keep [.lst .own (dI p)] fun d os => ∃ (p' : List Int) (cs : List (List Int)), d = .lst .own (cDs cs) ∧ os = [.lst .own (dI p')] ∧ 2 ≤ p'.length ∧ cs.length ≤ 58 ∧ ∀ c ∈ cs, okC c) noX)) noX := by
        intro s kk hs
        obtain ⟨acc, env', h1, p5, fresh, l9', rfl, rfl, h4, h5, h6⟩ := lc_goT (el := fun env => evE (run ft (n+1)) e6_1 env) (tg := .nm 9) (own := [9]) (xs := rangeD 0 s 1) (acc := [])
          (env := [some (.lst .own (dI p4)), some (.int many), some (.int top), some (.lst .own (cDs rows)), some (cD ahead), some (.int i), some (.int kk), some (.int s), l8, l9])
          (fun rest acc env => ∃ (p : List Int) (fresh : List Int) (l9 : Option D), env = [some (.lst .own (dI p)), some (.int many), some (.int top), some (.lst .own (cDs rows)), some (cD ahead), some (.int i), some (.int kk), some (.int s), l8, l9] ∧ acc = dI fresh ∧ 2 ≤ p.length ∧ fresh.length + rest.length = s ∧ okV fresh)
          (by
            rintro x xs acc env ⟨p, fresh, l9, rfl, rfl, hp, hl, hv⟩
            rw [List.length_cons] at hl
            obtain ⟨p6, a6, e6, q6, l6, u6⟩ := r5 n p top t1 hp
            simp (disch := first | omega | (simp only [List.length_map, List.length_append, List.length_cons, List.length_nil, List.length_reverse, List.length_take, List.length_drop]; omega)) only [evS, evE, evA, evT, evI, evP, Z.bok, look, looks, slot_0, slot_s, getP, bindT, bindTs, setS, pureD_own, pureD_frz, pureD_scr, pureD_tup, pureD_int, pureD_str, pureD_bl, pureD_non, pureD_io, pureD_if, pureD_is, rootP, srcT, srcL, tmps, doCall, nodupB, roots, writeBack, setE, setP, mt_appL, mt_rev, isLst, augS, prS, un, bi, tri, int1, int2, intS, lenS, addS, sumS, listS, tupleS, revS, sliceS, itemS, eqS_int, neS_int, frzD, outS, clr, Z.rest, R.ne, Option.bind_some, Option.bind_none, Option.map_some, Option.map_none, if_true, if_false, List.length_cons, List.length_nil, List.length_map, List.map_cons, List.map_nil, List.set_cons_zero, List.set_cons_succ, List.set_nil, List.replicate_succ, List.replicate_zero, List.nil_append, List.cons_append, Bool.false_eq_true, Bool.not_true, Bool.not_false, Bool.and_true, Bool.true_and, Bool.and_self, Bool.false_and, Bool.and_false, List.contains_cons, List.contains_nil, Bool.or_false, Bool.false_or, Bool.or_self, Nat.reduceBEq, Nat.reduceLT, Nat.reduceAdd, Nat.reduceSub, Nat.reduceEqDiff, reduceIte, reduceCtorEq, Nat.zero_lt_succ, decide_true, decide_false, id_eq, RE_ok, RE_exc, RE_nil, RE_cons, RE_ite, ↓RE_try, RE_hand, RE_handN, LcE_ok, LcE_ite, LcT_ok, bind_ite, bind_exc, cfx, xN, fdIx, nx2_nx, nx2_rt, nx2_bk, nx2_ct, trn_nx, trn_ct, trn_bk, trn_rt, fin_rt, fin_nx, fix_eq, ex_some, ints?_dI, pures_dI, frzDs_dI, atI_0, atI_1, atI_2, stoS_0, stoS_1, dI_app, ltS_int, isTy_int_int, isTy_int_bool, isTy_int_str, isTy_int_tuple, isTy_int_list, isTy_int_NoneType, isTy_bool_int, isTy_bool_bool, isTy_bool_str, isTy_bool_tuple, isTy_bool_list, isTy_bool_NoneType, isTy_str_int, isTy_str_bool, isTy_str_str, isTy_str_tuple, isTy_str_list, isTy_str_NoneType, isTy_tuple_int, isTy_tuple_bool, isTy_tuple_str, isTy_tuple_tuple, isTy_tuple_list, isTy_tuple_NoneType, isTy_list_int, isTy_list_bool, isTy_list_str, isTy_list_tuple, isTy_list_list, isTy_list_NoneType, dI_snoc, own_scr, mt_pop', mt_popI, smallOk, smallLt, bd_int, bd_nat, if_pos, if_neg, eqS_int, neS_int, decide_eq_true_eq, Bool.not_eq_true', decide_eq_false_iff_not, ← List.map_drop, ← List.map_take, ← List.map_reverse, Int.toNat_natCast, Int.reduceToNat, ite_self, and_self, and_true, true_and, frzDs, List.reverse_cons, List.reverse_nil, Option.toList_some, Option.toList_none, List.all_cons, List.all_nil, List.length_append, e6_1, e6]
            refine ⟨by omega, p6, fresh ++ [a6], _, rfl, rfl, q6, ?_, okV_app hv fun v hv => ?_⟩
            · rw [List.length_append, List.length_singleton]; omega
            · cases List.mem_singleton.mp hv; omega) ⟨p4, [], l9, rfl, rfl, q4, by rw [rangeD_length]; simp, fun _ z => absurd z List.not_mem_nil⟩
        simp only [List.length_nil, Nat.add_zero] at h5
        have ha1 := ha.1
        simp (disch := first | omega | (simp only [List.length_map, List.length_append, List.length_cons, List.length_nil, List.length_reverse, List.length_take, List.length_drop]; omega)) only [evS, evE, evA, evT, evI, evP, Z.bok, look, looks, slot_0, slot_s, getP, bindT, bindTs, setS, pureD_own, pureD_frz, pureD_scr, pureD_tup, pureD_int, pureD_str, pureD_bl, pureD_non, pureD_io, pureD_if, pureD_is, rootP, srcT, srcL, tmps, doCall, nodupB, roots, writeBack, setE, setP, mt_appL, mt_rev, isLst, augS, prS, un, bi, tri, int1, int2, intS, lenS, addS, sumS, listS, tupleS, revS, sliceS, itemS, eqS_int, neS_int, frzD, outS, clr, Z.rest, R.ne, Option.bind_some, Option.bind_none, Option.map_some, Option.map_none, if_true, if_false, List.length_cons, List.length_nil, List.length_map, List.map_cons, List.map_nil, List.set_cons_zero, List.set_cons_succ, List.set_nil, List.replicate_succ, List.replicate_zero, List.nil_append, List.cons_append, Bool.false_eq_true, Bool.not_true, Bool.not_false, Bool.and_true, Bool.true_and, Bool.and_self, Bool.false_and, Bool.and_false, List.contains_cons, List.contains_nil, Bool.or_false, Bool.false_or, Bool.or_self, Nat.reduceBEq, Nat.reduceLT, Nat.reduceAdd, Nat.reduceSub, Nat.reduceEqDiff, reduceIte, reduceCtorEq, Nat.zero_lt_succ, decide_true, decide_false, id_eq, RE_ok, RE_exc, RE_nil, RE_cons, RE_ite, ↓RE_try, RE_hand, RE_handN, LcE_ok, LcE_ite, LcT_ok, bind_ite, bind_exc, cfx, xN, fdIx, nx2_nx, nx2_rt, nx2_bk, nx2_ct, trn_nx, trn_ct, trn_bk, trn_rt, fin_rt, fin_nx, fix_eq, ex_some, ints?_dI, pures_dI, frzDs_dI, atI_0, atI_1, atI_2, stoS_0, stoS_1, dI_app, ltS_int, isTy_int_int, isTy_int_bool, isTy_int_str, isTy_int_tuple, isTy_int_list, isTy_int_NoneType, isTy_bool_int, isTy_bool_bool, isTy_bool_str, isTy_bool_tuple, isTy_bool_list, isTy_bool_NoneType, isTy_str_int, isTy_str_bool, isTy_str_str, isTy_str_tuple, isTy_str_list, isTy_str_NoneType, isTy_tuple_int, isTy_tuple_bool, isTy_tuple_str, isTy_tuple_tuple, isTy_tuple_list, isTy_tuple_NoneType, isTy_list_int, isTy_list_bool, isTy_list_str, isTy_list_tuple, isTy_list_list, isTy_list_NoneType, dI_snoc, own_scr, mt_pop', mt_popI, smallOk, smallLt, bd_int, bd_nat, if_pos, if_neg, eqS_int, neS_int, decide_eq_true_eq, Bool.not_eq_true', decide_eq_false_iff_not, ← List.map_drop, ← List.map_take, ← List.map_reverse, Int.toNat_natCast, Int.reduceToNat, ite_self, and_self, and_true, true_and, frzDs, List.reverse_cons, List.reverse_nil, Option.toList_some, Option.toList_none, List.all_cons, List.all_nil, List.length_append, b6_2, h1, cut_map, cut_take, cDs_snoc]
        refine ⟨p5, rows ++ [(ahead.take kk ++ fresh).take (Int.toNat 60)], (ahead.take kk ++ fresh).take (Int.toNat 60), _, _, _, _, _, rfl, h4, ?_, ?_, ?_⟩
        · rw [List.length_append, List.length_singleton, hr]
        · intro c hcc
          rcases List.mem_append.mp hcc with h | h
          · exact hc c h
          · cases List.mem_singleton.mp h
            exact ⟨by rw [List.length_take]; exact Nat.min_le_left _ _, okV_take (okV_app (okV_take ha.2) h6)⟩
        · exact ⟨by rw [List.length_take]; exact Nat.min_le_left _ _, okV_take (okV_app (okV_take ha.2) h6)⟩
      obtain ⟨k1, rfl⟩ := Int.eq_ofNat_of_zero_le l1
      obtain ⟨k2, rfl⟩ := Int.eq_ofNat_of_zero_le l2
      have key50 := key 50
      simp (disch := first | omega | (simp only [List.length_map, List.length_append, List.length_cons, List.length_nil, List.length_reverse, List.length_take, List.length_drop]; omega)) only [evS, evE, evA, evT, evI, evP, Z.bok, look, looks, slot_0, slot_s, getP, bindT, bindTs, setS, pureD_own, pureD_frz, pureD_scr, pureD_tup, pureD_int, pureD_str, pureD_bl, pureD_non, pureD_io, pureD_if, pureD_is, rootP, srcT, srcL, tmps, doCall, nodupB, roots, writeBack, setE, setP, mt_appL, mt_rev, isLst, augS, prS, un, bi, tri, int1, int2, intS, lenS, addS, sumS, listS, tupleS, revS, sliceS, itemS, eqS_int, neS_int, frzD, outS, clr, Z.rest, R.ne, Option.bind_some, Option.bind_none, Option.map_some, Option.map_none, if_true, if_false, List.length_cons, List.length_nil, List.length_map, List.map_cons, List.map_nil, List.set_cons_zero, List.set_cons_succ, List.set_nil, List.replicate_succ, List.replicate_zero, List.nil_append, List.cons_append, Bool.false_eq_true, Bool.not_true, Bool.not_false, Bool.and_true, Bool.true_and, Bool.and_self, Bool.false_and, Bool.and_false, List.contains_cons, List.contains_nil, Bool.or_false, Bool.false_or, Bool.or_self, Nat.reduceBEq, Nat.reduceLT, Nat.reduceAdd, Nat.reduceSub, Nat.reduceEqDiff, reduceIte, reduceCtorEq, Nat.zero_lt_succ, decide_true, decide_false, id_eq, RE_ok, RE_exc, RE_nil, RE_cons, RE_ite, ↓RE_try, RE_hand, RE_handN, LcE_ok, LcE_ite, LcT_ok, bind_ite, bind_exc, cfx, xN, fdIx, nx2_nx, nx2_rt, nx2_bk, nx2_ct, trn_nx, trn_ct, trn_bk, trn_rt, fin_rt, fin_nx, fix_eq, ex_some, ints?_dI, pures_dI, frzDs_dI, atI_0, atI_1, atI_2, stoS_0, stoS_1, dI_app, ltS_int, isTy_int_int, isTy_int_bool, isTy_int_str, isTy_int_tuple, isTy_int_list, isTy_int_NoneType, isTy_bool_int, isTy_bool_bool, isTy_bool_str, isTy_bool_tuple, isTy_bool_list, isTy_bool_NoneType, isTy_str_int, isTy_str_bool, isTy_str_str, isTy_str_tuple, isTy_str_list, isTy_str_NoneType, isTy_tuple_int, isTy_tuple_bool, isTy_tuple_str, isTy_tuple_tuple, isTy_tuple_list, isTy_tuple_NoneType, isTy_list_int, isTy_list_bool, isTy_list_str, isTy_list_tuple, isTy_list_list, isTy_list_NoneType, dI_snoc, own_scr, mt_pop', mt_popI, smallOk, smallLt, bd_int, bd_nat, if_pos, if_neg, eqS_int, neS_int, decide_eq_true_eq, Bool.not_eq_true', decide_eq_false_iff_not, ← List.map_drop, ← List.map_take, ← List.map_reverse, Int.toNat_natCast, Int.reduceToNat, ite_self, and_self, and_true, true_and, frzDs, List.reverse_cons, List.reverse_nil, Option.toList_some, Option.toList_none, List.all_cons, List.all_nil, List.length_append, b6_4, b6_3, e1, e2, e3, e4]
      split <;> split
      · exact key 50 ahead.length (by omega)
      · exact key 50 k1 (by omega)
      · exact key k2 ahead.length (by omega)
      · exact key k2 k1 (by omega)
    · rintro env ⟨p, rows, ahead, l5, l6, l7, l8, l9, rfl, hp, hr, hc, ha⟩
      simp (disch := first | omega | (simp only [List.length_map, List.length_append, List.length_cons, List.length_nil, List.length_reverse, List.length_take, List.length_drop]; omega)) only [evS, evE, evA, evT, evI, evP, Z.bok, look, looks, slot_0, slot_s, getP, bindT, bindTs, setS, pureD_own, pureD_frz, pureD_scr, pureD_tup, pureD_int, pureD_str, pureD_bl, pureD_non, pureD_io, pureD_if, pureD_is, rootP, srcT, srcL, tmps, doCall, nodupB, roots, writeBack, setE, setP, mt_appL, mt_rev, isLst, augS, prS, un, bi, tri, int1, int2, intS, lenS, addS, sumS, listS, tupleS, revS, sliceS, itemS, eqS_int, neS_int, frzD, outS, clr, Z.rest, R.ne, Option.bind_some, Option.bind_none, Option.map_some, Option.map_none, if_true, if_false, List.length_cons, List.length_nil, List.length_map, List.map_cons, List.map_nil, List.set_cons_zero, List.set_cons_succ, List.set_nil, List.replicate_succ, List.replicate_zero, List.nil_append, List.cons_append, Bool.false_eq_true, Bool.not_true, Bool.not_false, Bool.and_true, Bool.true_and, Bool.and_self, Bool.false_and, Bool.and_false, List.contains_cons, List.contains_nil, Bool.or_false, Bool.false_or, Bool.or_self, Nat.reduceBEq, Nat.reduceLT, Nat.reduceAdd, Nat.reduceSub, Nat.reduceEqDiff, reduceIte, reduceCtorEq, Nat.zero_lt_succ, decide_true, decide_false, id_eq, RE_ok, RE_exc, RE_nil, RE_cons, RE_ite, ↓RE_try, RE_hand, RE_handN, LcE_ok, LcE_ite, LcT_ok, bind_ite, bind_exc, cfx, xN, fdIx, nx2_nx, nx2_rt, nx2_bk, nx2_ct, trn_nx, trn_ct, trn_bk, trn_rt, fin_rt, fin_nx, fix_eq, ex_some, ints?_dI, pures_dI, frzDs_dI, atI_0, atI_1, atI_2, stoS_0, stoS_1, dI_app, ltS_int, isTy_int_int, isTy_int_bool, isTy_int_str, isTy_int_tuple, isTy_int_list, isTy_int_NoneType, isTy_bool_int, isTy_bool_bool, isTy_bool_str, isTy_bool_tuple, isTy_bool_list, isTy_bool_NoneType, isTy_str_int, isTy_str_bool, isTy_str_str, isTy_str_tuple, isTy_str_list, isTy_str_NoneType, isTy_tuple_int, isTy_tuple_bool, isTy_tuple_str, isTy_tuple_tuple, isTy_tuple_list, isTy_tuple_NoneType, isTy_list_int, isTy_list_bool, isTy_list_str, isTy_list_tuple, isTy_list_list, isTy_list_NoneType, dI_snoc, own_scr, mt_pop', mt_popI, smallOk, smallLt, bd_int, bd_nat, if_pos, if_neg, eqS_int, neS_int, decide_eq_true_eq, Bool.not_eq_true', decide_eq_false_iff_not, ← List.map_drop, ← List.map_take, ← List.map_reverse, Int.toNat_natCast, Int.reduceToNat, ite_self, and_self, and_true, true_and, frzDs, List.reverse_cons, List.reverse_nil, Option.toList_some, Option.toList_none, List.all_cons, List.all_nil, List.length_append, b6_5]
      exact ⟨p, rows, rfl, rfl, hp, by omega, hc⟩
  obtain ⟨d, os, h, p', cs, rfl, rfl, k⟩ := key
  exact ⟨p', cs, h, k⟩
end Law

namespace Law
open Z
/-! ### plain -/
theorem sh_at : ∀ (a b : List Int) (k : Nat), k < min a.length b.length → k = sh a b → a[k]? ≠ b[k]?
  | [], b, k, h, _ => by simp at h
  | x :: a, [], k, h, _ => by simp at h
  | x :: a, y :: b, k, h, e => by
    rw [sh] at e
    split at e
    · subst e
      rw [List.getElem?_cons_succ, List.getElem?_cons_succ]
      refine sh_at a b _ ?_ rfl
      rw [List.length_cons, List.length_cons] at h
      omega
    · subst e
      simpa using by assumption
theorem sh_lt : ∀ (a b : List Int) (k : Nat), k < sh a b → ∃ x, a[k]? = some x ∧ b[k]? = some x
  | [], b, k, h => by simp [sh] at h
  | x :: a, [], k, h => by simp [sh] at h
  | x :: a, y :: b, k, h => by
    rw [sh] at h
    split at h
    · rename_i e
      cases k with
      | zero => exact ⟨x, rfl, by rw [e]; rfl⟩
      | succ k => exact sh_lt a b k (by omega)
    · omega
theorem sh_take (x : List Int) : ∀ (a : List Int) (n : Nat), n ≤ a.length → sh (a.take n ++ x) a = n + sh x (a.drop n)
  | a, 0, _ => by simp
  | [], n + 1, h => by simp at h
  | y :: a, n + 1, h => by
    rw [List.take_succ_cons, List.cons_append, sh, if_pos rfl, List.drop_succ_cons, sh_take x a n (by simpa using h)]
    omega
theorem sh_zero (x a : List Int) : sh x a = 0 ↔ ¬ (0 < a.length ∧ x.take 1 = a.take 1) := by
  cases x with
  | nil => cases a <;> simp [sh]
  | cons y x =>
    cases a with
    | nil => simp [sh]
    | cons z a =>
      simp only [sh]
      by_cases h : y = z
      · simp [h]
      · simp [h]
theorem bad_iff {a x : List Int} {n : Nat} (h : n ≤ a.length) : sh (a.take n ++ x) a = n ↔ ¬ (n < a.length ∧ x.take 1 = (a.drop n).take 1) := by
  rw [sh_take x a n h]
  have := sh_zero x (a.drop n)
  rw [List.length_drop] at this
  constructor
  · intro e
    have := this.mp (by omega)
    exact fun ⟨h1, h2⟩ => this ⟨by omega, h2⟩
  · intro e
    have := this.mpr fun ⟨h1, h2⟩ => e ⟨by omega, h2⟩
    omega
/-- what a row reads as -/
def rdL (a : List Int) (acc : List (List Int)) : List (Int × List Int) → Except Nat (List (List Int))
  | [] => .ok acc
  | (n, x) :: r => if n < 0 ∨ (a.length : Int) < n then .error acc.length else if n < a.length ∧ x.take 1 = (a.drop n.toNat).take 1 then .error acc.length else rdL (a.take n.toNat ++ x) (acc ++ [a.take n.toNat ++ x]) r
def okR (row : List (Int × List Int)) : Prop := row.length ≤ 62 ∧ ∀ p ∈ row, p.2.length ≤ 200 ∧ okV p.2
theorem pures_pD (l : List (Int × List Int)) : pures (l.map pD) = true := pures_map (fun _ => rfl) l
theorem r9 (n : Nat) (f : Fl) (row : List (Int × List Int)) (hr : okR row) : run ft (n+1) 9 [.lst f (row.map pD)] = .ok (match rdL [] [] row with | .ok cs => .tup [.str "good", .lst .frz (cDs cs)] | .error k => .tup [.str "bad", .int k]) [.lst f (row.map pD)] := by
  refine RE.eq (fn := f9) rfl rfl ?_
  simp only [f9]
  simp (disch := first | omega | (simp only [List.length_map, List.length_append, List.length_cons, List.length_nil, List.length_reverse, List.length_take, List.length_drop]; omega)) only [evS, evE, evA, evT, evI, evP, Z.bok, look, looks, slot_0, slot_s, getP, bindT, bindTs, setS, pureD_own, pureD_frz, pureD_scr, pureD_tup, pureD_int, pureD_str, pureD_bl, pureD_non, pureD_io, pureD_if, pureD_is, rootP, srcT, srcL, tmps, doCall, nodupB, roots, writeBack, setE, setP, mt_appL, mt_rev, isLst, augS, prS, un, bi, tri, int1, int2, intS, lenS, addS, sumS, listS, tupleS, revS, sliceS, itemS, eqS_int, neS_int, frzD, outS, clr, Z.rest, R.ne, Option.bind_some, Option.bind_none, Option.map_some, Option.map_none, if_true, if_false, List.length_cons, List.length_nil, List.length_map, List.map_cons, List.map_nil, List.set_cons_zero, List.set_cons_succ, List.set_nil, List.replicate_succ, List.replicate_zero, List.nil_append, List.cons_append, Bool.false_eq_true, Bool.not_true, Bool.not_false, Bool.and_true, Bool.true_and, Bool.and_self, Bool.false_and, Bool.and_false, List.contains_cons, List.contains_nil, Bool.or_false, Bool.false_or, Bool.or_self, Nat.reduceBEq, Nat.reduceLT, Nat.reduceAdd, Nat.reduceSub, Nat.reduceEqDiff, reduceIte, reduceCtorEq, Nat.zero_lt_succ, decide_true, decide_false, id_eq, RE_ok, RE_exc, RE_nil, RE_cons, RE_ite, ↓RE_try, RE_hand, RE_handN, LcE_ok, LcE_ite, LcT_ok, bind_ite, bind_exc, cfx, xN, fdIx, nx2_nx, nx2_rt, nx2_bk, nx2_ct, trn_nx, trn_ct, trn_bk, trn_rt, fin_rt, fin_nx, fix_eq, ex_some, ints?_dI, pures_dI, frzDs_dI, atI_0, atI_1, atI_2, stoS_0, stoS_1, dI_app, ltS_int, isTy_int_int, isTy_int_bool, isTy_int_str, isTy_int_tuple, isTy_int_list, isTy_int_NoneType, isTy_bool_int, isTy_bool_bool, isTy_bool_str, isTy_bool_tuple, isTy_bool_list, isTy_bool_NoneType, isTy_str_int, isTy_str_bool, isTy_str_str, isTy_str_tuple, isTy_str_list, isTy_str_NoneType, isTy_tuple_int, isTy_tuple_bool, isTy_tuple_str, isTy_tuple_tuple, isTy_tuple_list, isTy_tuple_NoneType, isTy_list_int, isTy_list_bool, isTy_list_str, isTy_list_tuple, isTy_list_list, isTy_list_NoneType, dI_snoc, own_scr, mt_pop', mt_popI, smallOk, smallLt, bd_int, bd_nat, if_pos, if_neg, eqS_int, neS_int, decide_eq_true_eq, Bool.not_eq_true', decide_eq_false_iff_not, ← List.map_drop, ← List.map_take, ← List.map_reverse, Int.toNat_natCast, Int.reduceToNat, ite_self, and_self, and_true, true_and, frzDs, List.reverse_cons, List.reverse_nil, Option.toList_some, Option.toList_none, List.all_cons, List.all_nil, List.length_append, b9, pures_pD]
  refine RE.goM (fun rest env => ∃ (acc : List (List Int)) (a : List Int) (l3 l4 : Option D), env = [some (.lst f (row.map pD)), some (.lst .own (cDs acc)), some (cD a), l3, l4] ∧ rdL a acc rest = rdL [] [] row ∧ acc.length + rest.length = row.length ∧ a.length ≤ 200 * acc.length ∧ ∀ p ∈ rest, p.2.length ≤ 200) ?_ ?_ ⟨[], [], none, none, rfl, rfl, by simp, by simp, fun p hp => (hr.2 p hp).1⟩
  · rintro ⟨m, x⟩ xs env ⟨acc, a, l3, l4, rfl, h1, h2, h3, h4⟩
    rw [List.length_cons] at h2
    have h5 := h4 _ List.mem_cons_self
    have h6 := hr.1
    simp only [rdL] at h1
    simp only [pD]
    by_cases c1 : m < 0 ∨ (a.length : Int) < m
    · rw [if_pos c1] at h1
      rcases c1 with c1 | c1
      · simp (disch := first | omega | (simp only [List.length_map, List.length_append, List.length_cons, List.length_nil, List.length_reverse, List.length_take, List.length_drop]; omega)) only [evS, evE, evA, evT, evI, evP, Z.bok, look, looks, slot_0, slot_s, getP, bindT, bindTs, setS, pureD_own, pureD_frz, pureD_scr, pureD_tup, pureD_int, pureD_str, pureD_bl, pureD_non, pureD_io, pureD_if, pureD_is, rootP, srcT, srcL, tmps, doCall, nodupB, roots, writeBack, setE, setP, mt_appL, mt_rev, isLst, augS, prS, un, bi, tri, int1, int2, intS, lenS, addS, sumS, listS, tupleS, revS, sliceS, itemS, eqS_int, neS_int, frzD, outS, clr, Z.rest, R.ne, Option.bind_some, Option.bind_none, Option.map_some, Option.map_none, if_true, if_false, List.length_cons, List.length_nil, List.length_map, List.map_cons, List.map_nil, List.set_cons_zero, List.set_cons_succ, List.set_nil, List.replicate_succ, List.replicate_zero, List.nil_append, List.cons_append, Bool.false_eq_true, Bool.not_true, Bool.not_false, Bool.and_true, Bool.true_and, Bool.and_self, Bool.false_and, Bool.and_false, List.contains_cons, List.contains_nil, Bool.or_false, Bool.false_or, Bool.or_self, Nat.reduceBEq, Nat.reduceLT, Nat.reduceAdd, Nat.reduceSub, Nat.reduceEqDiff, reduceIte, reduceCtorEq, Nat.zero_lt_succ, decide_true, decide_false, id_eq, RE_ok, RE_exc, RE_nil, RE_cons, RE_ite, ↓RE_try, RE_hand, RE_handN, LcE_ok, LcE_ite, LcT_ok, bind_ite, bind_exc, cfx, xN, fdIx, nx2_nx, nx2_rt, nx2_bk, nx2_ct, trn_nx, trn_ct, trn_bk, trn_rt, fin_rt, fin_nx, fix_eq, ex_some, ints?_dI, pures_dI, frzDs_dI, atI_0, atI_1, atI_2, stoS_0, stoS_1, dI_app, ltS_int, isTy_int_int, isTy_int_bool, isTy_int_str, isTy_int_tuple, isTy_int_list, isTy_int_NoneType, isTy_bool_int, isTy_bool_bool, isTy_bool_str, isTy_bool_tuple, isTy_bool_list, isTy_bool_NoneType, isTy_str_int, isTy_str_bool, isTy_str_str, isTy_str_tuple, isTy_str_list, isTy_str_NoneType, isTy_tuple_int, isTy_tuple_bool, isTy_tuple_str, isTy_tuple_tuple, isTy_tuple_list, isTy_tuple_NoneType, isTy_list_int, isTy_list_bool, isTy_list_str, isTy_list_tuple, isTy_list_list, isTy_list_NoneType, dI_snoc, own_scr, mt_pop', mt_popI, smallOk, smallLt, bd_int, bd_nat, if_pos, if_neg, eqS_int, neS_int, decide_eq_true_eq, Bool.not_eq_true', decide_eq_false_iff_not, ← List.map_drop, ← List.map_take, ← List.map_reverse, Int.toNat_natCast, Int.reduceToNat, ite_self, and_self, and_true, true_and, frzDs, List.reverse_cons, List.reverse_nil, Option.toList_some, Option.toList_none, List.all_cons, List.all_nil, List.length_append, b9_1, c1, ← h1]
      · by_cases c0 : m < 0
        · omega
        · simp (disch := first | omega | (simp only [List.length_map, List.length_append, List.length_cons, List.length_nil, List.length_reverse, List.length_take, List.length_drop]; omega)) only [evS, evE, evA, evT, evI, evP, Z.bok, look, looks, slot_0, slot_s, getP, bindT, bindTs, setS, pureD_own, pureD_frz, pureD_scr, pureD_tup, pureD_int, pureD_str, pureD_bl, pureD_non, pureD_io, pureD_if, pureD_is, rootP, srcT, srcL, tmps, doCall, nodupB, roots, writeBack, setE, setP, mt_appL, mt_rev, isLst, augS, prS, un, bi, tri, int1, int2, intS, lenS, addS, sumS, listS, tupleS, revS, sliceS, itemS, eqS_int, neS_int, frzD, outS, clr, Z.rest, R.ne, Option.bind_some, Option.bind_none, Option.map_some, Option.map_none, if_true, if_false, List.length_cons, List.length_nil, List.length_map, List.map_cons, List.map_nil, List.set_cons_zero, List.set_cons_succ, List.set_nil, List.replicate_succ, List.replicate_zero, List.nil_append, List.cons_append, Bool.false_eq_true, Bool.not_true, Bool.not_false, Bool.and_true, Bool.true_and, Bool.and_self, Bool.false_and, Bool.and_false, List.contains_cons, List.contains_nil, Bool.or_false, Bool.false_or, Bool.or_self, Nat.reduceBEq, Nat.reduceLT, Nat.reduceAdd, Nat.reduceSub, Nat.reduceEqDiff, reduceIte, reduceCtorEq, Nat.zero_lt_succ, decide_true, decide_false, id_eq, RE_ok, RE_exc, RE_nil, RE_cons, RE_ite, ↓RE_try, RE_hand, RE_handN, LcE_ok, LcE_ite, LcT_ok, bind_ite, bind_exc, cfx, xN, fdIx, nx2_nx, nx2_rt, nx2_bk, nx2_ct, trn_nx, trn_ct, trn_bk, trn_rt, fin_rt, fin_nx, fix_eq, ex_some, ints?_dI, pures_dI, frzDs_dI, atI_0, atI_1, atI_2, stoS_0, stoS_1, dI_app, ltS_int, isTy_int_int, isTy_int_bool, isTy_int_str, isTy_int_tuple, isTy_int_list, isTy_int_NoneType, isTy_bool_int, isTy_bool_bool, isTy_bool_str, isTy_bool_tuple, isTy_bool_list, isTy_bool_NoneType, isTy_str_int, isTy_str_bool, isTy_str_str, isTy_str_tuple, isTy_str_list, isTy_str_NoneType, isTy_tuple_int, isTy_tuple_bool, isTy_tuple_str, isTy_tuple_tuple, isTy_tuple_list, isTy_tuple_NoneType, isTy_list_int, isTy_list_bool, isTy_list_str, isTy_list_tuple, isTy_list_list, isTy_list_NoneType, dI_snoc, own_scr, mt_pop', mt_popI, smallOk, smallLt, bd_int, bd_nat, if_pos, if_neg, eqS_int, neS_int, decide_eq_true_eq, Bool.not_eq_true', decide_eq_false_iff_not, ← List.map_drop, ← List.map_take, ← List.map_reverse, Int.toNat_natCast, Int.reduceToNat, ite_self, and_self, and_true, true_and, frzDs, List.reverse_cons, List.reverse_nil, Option.toList_some, Option.toList_none, List.all_cons, List.all_nil, List.length_append, b9_1, c1, c0, ← h1]
    · rw [if_neg c1] at h1
      obtain ⟨k, rfl⟩ : ∃ k : Nat, m = k := ⟨m.toNat, by omega⟩
      have c2 : ¬ (k : Int) < 0 := by omega
      have c3 : ¬ (a.length : Int) < (k : Int) := by omega
      simp only [Int.toNat_natCast] at h1
      by_cases c4 : (k : Int) < a.length ∧ x.take 1 = (a.drop k).take 1
      · rw [if_pos c4] at h1
        simp (disch := first | omega | (simp only [List.length_map, List.length_append, List.length_cons, List.length_nil, List.length_reverse, List.length_take, List.length_drop]; omega)) only [evS, evE, evA, evT, evI, evP, Z.bok, look, looks, slot_0, slot_s, getP, bindT, bindTs, setS, pureD_own, pureD_frz, pureD_scr, pureD_tup, pureD_int, pureD_str, pureD_bl, pureD_non, pureD_io, pureD_if, pureD_is, rootP, srcT, srcL, tmps, doCall, nodupB, roots, writeBack, setE, setP, mt_appL, mt_rev, isLst, augS, prS, un, bi, tri, int1, int2, intS, lenS, addS, sumS, listS, tupleS, revS, sliceS, itemS, eqS_int, neS_int, frzD, outS, clr, Z.rest, R.ne, Option.bind_some, Option.bind_none, Option.map_some, Option.map_none, if_true, if_false, List.length_cons, List.length_nil, List.length_map, List.map_cons, List.map_nil, List.set_cons_zero, List.set_cons_succ, List.set_nil, List.replicate_succ, List.replicate_zero, List.nil_append, List.cons_append, Bool.false_eq_true, Bool.not_true, Bool.not_false, Bool.and_true, Bool.true_and, Bool.and_self, Bool.false_and, Bool.and_false, List.contains_cons, List.contains_nil, Bool.or_false, Bool.false_or, Bool.or_self, Nat.reduceBEq, Nat.reduceLT, Nat.reduceAdd, Nat.reduceSub, Nat.reduceEqDiff, reduceIte, reduceCtorEq, Nat.zero_lt_succ, decide_true, decide_false, id_eq, RE_ok, RE_exc, RE_nil, RE_cons, RE_ite, ↓RE_try, RE_hand, RE_handN, LcE_ok, LcE_ite, LcT_ok, bind_ite, bind_exc, cfx, xN, fdIx, nx2_nx, nx2_rt, nx2_bk, nx2_ct, trn_nx, trn_ct, trn_bk, trn_rt, fin_rt, fin_nx, fix_eq, ex_some, ints?_dI, pures_dI, frzDs_dI, atI_0, atI_1, atI_2, stoS_0, stoS_1, dI_app, ltS_int, isTy_int_int, isTy_int_bool, isTy_int_str, isTy_int_tuple, isTy_int_list, isTy_int_NoneType, isTy_bool_int, isTy_bool_bool, isTy_bool_str, isTy_bool_tuple, isTy_bool_list, isTy_bool_NoneType, isTy_str_int, isTy_str_bool, isTy_str_str, isTy_str_tuple, isTy_str_list, isTy_str_NoneType, isTy_tuple_int, isTy_tuple_bool, isTy_tuple_str, isTy_tuple_tuple, isTy_tuple_list, isTy_tuple_NoneType, isTy_list_int, isTy_list_bool, isTy_list_str, isTy_list_tuple, isTy_list_list, isTy_list_NoneType, dI_snoc, own_scr, mt_pop', mt_popI, smallOk, smallLt, bd_int, bd_nat, if_pos, if_neg, eqS_int, neS_int, decide_eq_true_eq, Bool.not_eq_true', decide_eq_false_iff_not, ← List.map_drop, ← List.map_take, ← List.map_reverse, Int.toNat_natCast, Int.reduceToNat, ite_self, and_self, and_true, true_and, frzDs, List.reverse_cons, List.reverse_nil, Option.toList_some, Option.toList_none, List.all_cons, List.all_nil, List.length_append, b9_1, c2, c3, c4.1, cut_map, cut_take, cut_one, eqS_dI, c4.2, ← h1]
      · rw [if_neg c4] at h1
        have go : ∃ (acc2 : List (List Int)) (a2 : List Int) (l3 l4 : Option D), [some (.lst f (row.map pD)), some (.lst .own (cDs (acc ++ [a.take k ++ x]))), some (cD (a.take k ++ x)), some (.int k), some (cD x)] = [some (.lst f (row.map pD)), some (.lst .own (cDs acc2)), some (cD a2), l3, l4] ∧ rdL a2 acc2 xs = rdL [] [] row ∧ acc2.length + xs.length = row.length ∧ a2.length ≤ 200 * acc2.length ∧ ∀ p ∈ xs, p.2.length ≤ 200 :=
          ⟨acc ++ [a.take k ++ x], a.take k ++ x, _, _, rfl, h1, by rw [List.length_append, List.length_singleton]; omega, by
            rw [List.length_append, List.length_append, List.length_singleton, List.length_take]
            have h5 : x.length ≤ 200 := h5
            omega, fun p hp => h4 p (List.mem_cons_of_mem _ hp)⟩
        have h5 : x.length ≤ 200 := h5
        by_cases c5 : (k : Int) < a.length
        · have c6 : ¬ x.take 1 = (a.drop k).take 1 := fun h => c4 ⟨by omega, h⟩
          simp (disch := first | omega | (simp only [List.length_map, List.length_append, List.length_cons, List.length_nil, List.length_reverse, List.length_take, List.length_drop]; omega)) only [evS, evE, evA, evT, evI, evP, Z.bok, look, looks, slot_0, slot_s, getP, bindT, bindTs, setS, pureD_own, pureD_frz, pureD_scr, pureD_tup, pureD_int, pureD_str, pureD_bl, pureD_non, pureD_io, pureD_if, pureD_is, rootP, srcT, srcL, tmps, doCall, nodupB, roots, writeBack, setE, setP, mt_appL, mt_rev, isLst, augS, prS, un, bi, tri, int1, int2, intS, lenS, addS, sumS, listS, tupleS, revS, sliceS, itemS, eqS_int, neS_int, frzD, outS, clr, Z.rest, R.ne, Option.bind_some, Option.bind_none, Option.map_some, Option.map_none, if_true, if_false, List.length_cons, List.length_nil, List.length_map, List.map_cons, List.map_nil, List.set_cons_zero, List.set_cons_succ, List.set_nil, List.replicate_succ, List.replicate_zero, List.nil_append, List.cons_append, Bool.false_eq_true, Bool.not_true, Bool.not_false, Bool.and_true, Bool.true_and, Bool.and_self, Bool.false_and, Bool.and_false, List.contains_cons, List.contains_nil, Bool.or_false, Bool.false_or, Bool.or_self, Nat.reduceBEq, Nat.reduceLT, Nat.reduceAdd, Nat.reduceSub, Nat.reduceEqDiff, reduceIte, reduceCtorEq, Nat.zero_lt_succ, decide_true, decide_false, id_eq, RE_ok, RE_exc, RE_nil, RE_cons, RE_ite, ↓RE_try, RE_hand, RE_handN, LcE_ok, LcE_ite, LcT_ok, bind_ite, bind_exc, cfx, xN, fdIx, nx2_nx, nx2_rt, nx2_bk, nx2_ct, trn_nx, trn_ct, trn_bk, trn_rt, fin_rt, fin_nx, fix_eq, ex_some, ints?_dI, pures_dI, frzDs_dI, atI_0, atI_1, atI_2, stoS_0, stoS_1, dI_app, ltS_int, isTy_int_int, isTy_int_bool, isTy_int_str, isTy_int_tuple, isTy_int_list, isTy_int_NoneType, isTy_bool_int, isTy_bool_bool, isTy_bool_str, isTy_bool_tuple, isTy_bool_list, isTy_bool_NoneType, isTy_str_int, isTy_str_bool, isTy_str_str, isTy_str_tuple, isTy_str_list, isTy_str_NoneType, isTy_tuple_int, isTy_tuple_bool, isTy_tuple_str, isTy_tuple_tuple, isTy_tuple_list, isTy_tuple_NoneType, isTy_list_int, isTy_list_bool, isTy_list_str, isTy_list_tuple, isTy_list_list, isTy_list_NoneType, dI_snoc, own_scr, mt_pop', mt_popI, smallOk, smallLt, bd_int, bd_nat, if_pos, if_neg, eqS_int, neS_int, decide_eq_true_eq, Bool.not_eq_true', decide_eq_false_iff_not, ← List.map_drop, ← List.map_take, ← List.map_reverse, Int.toNat_natCast, Int.reduceToNat, ite_self, and_self, and_true, true_and, frzDs, List.reverse_cons, List.reverse_nil, Option.toList_some, Option.toList_none, List.all_cons, List.all_nil, List.length_append, b9_1, c2, c3, c5, cut_map, cut_take, cut_one, eqS_dI, c6, cDs_snoc]
          exact go
        · simp (disch := first | omega | (simp only [List.length_map, List.length_append, List.length_cons, List.length_nil, List.length_reverse, List.length_take, List.length_drop]; omega)) only [evS, evE, evA, evT, evI, evP, Z.bok, look, looks, slot_0, slot_s, getP, bindT, bindTs, setS, pureD_own, pureD_frz, pureD_scr, pureD_tup, pureD_int, pureD_str, pureD_bl, pureD_non, pureD_io, pureD_if, pureD_is, rootP, srcT, srcL, tmps, doCall, nodupB, roots, writeBack, setE, setP, mt_appL, mt_rev, isLst, augS, prS, un, bi, tri, int1, int2, intS, lenS, addS, sumS, listS, tupleS, revS, sliceS, itemS, eqS_int, neS_int, frzD, outS, clr, Z.rest, R.ne, Option.bind_some, Option.bind_none, Option.map_some, Option.map_none, if_true, if_false, List.length_cons, List.length_nil, List.length_map, List.map_cons, List.map_nil, List.set_cons_zero, List.set_cons_succ, List.set_nil, List.replicate_succ, List.replicate_zero, List.nil_append, List.cons_append, Bool.false_eq_true, Bool.not_true, Bool.not_false, Bool.and_true, Bool.true_and, Bool.and_self, Bool.false_and, Bool.and_false, List.contains_cons, List.contains_nil, Bool.or_false, Bool.false_or, Bool.or_self, Nat.reduceBEq, Nat.reduceLT, Nat.reduceAdd, Nat.reduceSub, Nat.reduceEqDiff, reduceIte, reduceCtorEq, Nat.zero_lt_succ, decide_true, decide_false, id_eq, RE_ok, RE_exc, RE_nil, RE_cons, RE_ite, ↓RE_try, RE_hand, RE_handN, LcE_ok, LcE_ite, LcT_ok, bind_ite, bind_exc, cfx, xN, fdIx, nx2_nx, nx2_rt, nx2_bk, nx2_ct, trn_nx, trn_ct, trn_bk, trn_rt, fin_rt, fin_nx, fix_eq, ex_some, ints?_dI, pures_dI, frzDs_dI, atI_0, atI_1, atI_2, stoS_0, stoS_1, dI_app, ltS_int, isTy_int_int, isTy_int_bool, isTy_int_str, isTy_int_tuple, isTy_int_list, isTy_int_NoneType, isTy_bool_int, isTy_bool_bool, isTy_bool_str, isTy_bool_tuple, isTy_bool_list, isTy_bool_NoneType, isTy_str_int, isTy_str_bool, isTy_str_str, isTy_str_tuple, isTy_str_list, isTy_str_NoneType, isTy_tuple_int, isTy_tuple_bool, isTy_tuple_str, isTy_tuple_tuple, isTy_tuple_list, isTy_tuple_NoneType, isTy_list_int, isTy_list_bool, isTy_list_str, isTy_list_tuple, isTy_list_list, isTy_list_NoneType, dI_snoc, own_scr, mt_pop', mt_popI, smallOk, smallLt, bd_int, bd_nat, if_pos, if_neg, eqS_int, neS_int, decide_eq_true_eq, Bool.not_eq_true', decide_eq_false_iff_not, ← List.map_drop, ← List.map_take, ← List.map_reverse, Int.toNat_natCast, Int.reduceToNat, ite_self, and_self, and_true, true_and, frzDs, List.reverse_cons, List.reverse_nil, Option.toList_some, Option.toList_none, List.all_cons, List.all_nil, List.length_append, b9_1, c2, c3, c5, cut_map, cut_take, cDs_snoc]
          exact go
  · rintro env ⟨acc, a, l3, l4, rfl, h1, h2, h3, h4⟩
    simp (disch := first | omega | (simp only [List.length_map, List.length_append, List.length_cons, List.length_nil, List.length_reverse, List.length_take, List.length_drop]; omega)) only [evS, evE, evA, evT, evI, evP, Z.bok, look, looks, slot_0, slot_s, getP, bindT, bindTs, setS, pureD_own, pureD_frz, pureD_scr, pureD_tup, pureD_int, pureD_str, pureD_bl, pureD_non, pureD_io, pureD_if, pureD_is, rootP, srcT, srcL, tmps, doCall, nodupB, roots, writeBack, setE, setP, mt_appL, mt_rev, isLst, augS, prS, un, bi, tri, int1, int2, intS, lenS, addS, sumS, listS, tupleS, revS, sliceS, itemS, eqS_int, neS_int, frzD, outS, clr, Z.rest, R.ne, Option.bind_some, Option.bind_none, Option.map_some, Option.map_none, if_true, if_false, List.length_cons, List.length_nil, List.length_map, List.map_cons, List.map_nil, List.set_cons_zero, List.set_cons_succ, List.set_nil, List.replicate_succ, List.replicate_zero, List.nil_append, List.cons_append, Bool.false_eq_true, Bool.not_true, Bool.not_false, Bool.and_true, Bool.true_and, Bool.and_self, Bool.false_and, Bool.and_false, List.contains_cons, List.contains_nil, Bool.or_false, Bool.false_or, Bool.or_self, Nat.reduceBEq, Nat.reduceLT, Nat.reduceAdd, Nat.reduceSub, Nat.reduceEqDiff, reduceIte, reduceCtorEq, Nat.zero_lt_succ, decide_true, decide_false, id_eq, RE_ok, RE_exc, RE_nil, RE_cons, RE_ite, ↓RE_try, RE_hand, RE_handN, LcE_ok, LcE_ite, LcT_ok, bind_ite, bind_exc, cfx, xN, fdIx, nx2_nx, nx2_rt, nx2_bk, nx2_ct, trn_nx, trn_ct, trn_bk, trn_rt, fin_rt, fin_nx, fix_eq, ex_some, ints?_dI, pures_dI, frzDs_dI, atI_0, atI_1, atI_2, stoS_0, stoS_1, dI_app, ltS_int, isTy_int_int, isTy_int_bool, isTy_int_str, isTy_int_tuple, isTy_int_list, isTy_int_NoneType, isTy_bool_int, isTy_bool_bool, isTy_bool_str, isTy_bool_tuple, isTy_bool_list, isTy_bool_NoneType, isTy_str_int, isTy_str_bool, isTy_str_str, isTy_str_tuple, isTy_str_list, isTy_str_NoneType, isTy_tuple_int, isTy_tuple_bool, isTy_tuple_str, isTy_tuple_tuple, isTy_tuple_list, isTy_tuple_NoneType, isTy_list_int, isTy_list_bool, isTy_list_str, isTy_list_tuple, isTy_list_list, isTy_list_NoneType, dI_snoc, own_scr, mt_pop', mt_popI, smallOk, smallLt, bd_int, bd_nat, if_pos, if_neg, eqS_int, neS_int, decide_eq_true_eq, Bool.not_eq_true', decide_eq_false_iff_not, ← List.map_drop, ← List.map_take, ← List.map_reverse, Int.toNat_natCast, Int.reduceToNat, ite_self, and_self, and_true, true_and, frzDs, List.reverse_cons, List.reverse_nil, Option.toList_some, Option.toList_none, List.all_cons, List.all_nil, List.length_append, b9_2, frz_cD, ← h1, rdL]
end Law

namespace Law
open Z

theorem r7 (n : Nat) (a b : List Int) (ha : a.length ≤ 20000) : run ft (n+1) 7 [.tup (dI a), .tup (dI b)] = .ok (.int (sh a b)) [.tup (dI a), .tup (dI b)] := by
  refine RE.eq (fn := f7) rfl rfl ?_
  simp only [f7]
  simp (disch := first | omega | (simp only [List.length_map, List.length_append, List.length_cons, List.length_nil, List.length_reverse, List.length_take, List.length_drop]; omega)) only [evS, evE, evA, evT, evI, evP, Z.bok, look, looks, slot_0, slot_s, getP, bindT, bindTs, setS, pureD_own, pureD_frz, pureD_scr, pureD_tup, pureD_int, pureD_str, pureD_bl, pureD_non, pureD_io, pureD_if, pureD_is, rootP, srcT, srcL, tmps, doCall, nodupB, roots, writeBack, setE, setP, mt_appL, mt_rev, isLst, augS, prS, un, bi, tri, int1, int2, intS, lenS, addS, sumS, listS, tupleS, revS, sliceS, itemS, eqS_int, neS_int, frzD, outS, clr, Z.rest, R.ne, Option.bind_some, Option.bind_none, Option.map_some, Option.map_none, if_true, if_false, List.length_cons, List.length_nil, List.length_map, List.map_cons, List.map_nil, List.set_cons_zero, List.set_cons_succ, List.set_nil, List.replicate_succ, List.replicate_zero, List.nil_append, List.cons_append, Bool.false_eq_true, Bool.not_true, Bool.not_false, Bool.and_true, Bool.true_and, Bool.and_self, Bool.false_and, Bool.and_false, List.contains_cons, List.contains_nil, Bool.or_false, Bool.false_or, Bool.or_self, Nat.reduceBEq, Nat.reduceLT, Nat.reduceAdd, Nat.reduceSub, Nat.reduceEqDiff, reduceIte, reduceCtorEq, Nat.zero_lt_succ, decide_true, decide_false, id_eq, RE_ok, RE_exc, RE_nil, RE_cons, RE_ite, ↓RE_try, RE_hand, RE_handN, LcE_ok, LcE_ite, LcT_ok, bind_ite, bind_exc, cfx, xN, fdIx, nx2_nx, nx2_rt, nx2_bk, nx2_ct, trn_nx, trn_ct, trn_bk, trn_rt, fin_rt, fin_nx, fix_eq, ex_some, ints?_dI, pures_dI, frzDs_dI, atI_0, atI_1, atI_2, stoS_0, stoS_1, dI_app, ltS_int, isTy_int_int, isTy_int_bool, isTy_int_str, isTy_int_tuple, isTy_int_list, isTy_int_NoneType, isTy_bool_int, isTy_bool_bool, isTy_bool_str, isTy_bool_tuple, isTy_bool_list, isTy_bool_NoneType, isTy_str_int, isTy_str_bool, isTy_str_str, isTy_str_tuple, isTy_str_list, isTy_str_NoneType, isTy_tuple_int, isTy_tuple_bool, isTy_tuple_str, isTy_tuple_tuple, isTy_tuple_list, isTy_tuple_NoneType, isTy_list_int, isTy_list_bool, isTy_list_str, isTy_list_tuple, isTy_list_list, isTy_list_NoneType, dI_snoc, own_scr, mt_pop', mt_popI, smallOk, smallLt, bd_int, bd_nat, if_pos, if_neg, eqS_int, neS_int, decide_eq_true_eq, Bool.not_eq_true', decide_eq_false_iff_not, ← List.map_drop, ← List.map_take, ← List.map_reverse, Int.toNat_natCast, Int.reduceToNat, ite_self, and_self, and_true, true_and, frzDs, List.reverse_cons, List.reverse_nil, Option.toList_some, Option.toList_none, List.all_cons, List.all_nil, List.length_append, b7, min_nat]
  refine RE.goR (fun i env => ∃ l, env = [some (.tup (dI a)), some (.tup (dI b)), some (.int (min i (sh a b) : Nat)), l]) ?_ ?_ ⟨none, by rw [Nat.zero_min]; rfl⟩
  · rintro i env hi ⟨l, rfl⟩
    obtain ⟨x, hx⟩ : ∃ x, a[i]? = some x := ⟨_, List.getElem?_eq_getElem (by omega)⟩
    obtain ⟨y, hy⟩ : ∃ y, b[i]? = some y := ⟨_, List.getElem?_eq_getElem (by omega)⟩
    by_cases h1 : min i (sh a b) = i
    · by_cases h2 : x = y
      · have hs : i < sh a b := by
          by_cases h : i < sh a b
          · exact h
          · have : i = sh a b := by omega
            exact absurd (by rw [hx, hy, h2]) (sh_at a b i hi this)
        simp (disch := first | omega | (simp only [List.length_map, List.length_append, List.length_cons, List.length_nil, List.length_reverse, List.length_take, List.length_drop]; omega)) only [evS, evE, evA, evT, evI, evP, Z.bok, look, looks, slot_0, slot_s, getP, bindT, bindTs, setS, pureD_own, pureD_frz, pureD_scr, pureD_tup, pureD_int, pureD_str, pureD_bl, pureD_non, pureD_io, pureD_if, pureD_is, rootP, srcT, srcL, tmps, doCall, nodupB, roots, writeBack, setE, setP, mt_appL, mt_rev, isLst, augS, prS, un, bi, tri, int1, int2, intS, lenS, addS, sumS, listS, tupleS, revS, sliceS, itemS, eqS_int, neS_int, frzD, outS, clr, Z.rest, R.ne, Option.bind_some, Option.bind_none, Option.map_some, Option.map_none, if_true, if_false, List.length_cons, List.length_nil, List.length_map, List.map_cons, List.map_nil, List.set_cons_zero, List.set_cons_succ, List.set_nil, List.replicate_succ, List.replicate_zero, List.nil_append, List.cons_append, Bool.false_eq_true, Bool.not_true, Bool.not_false, Bool.and_true, Bool.true_and, Bool.and_self, Bool.false_and, Bool.and_false, List.contains_cons, List.contains_nil, Bool.or_false, Bool.false_or, Bool.or_self, Nat.reduceBEq, Nat.reduceLT, Nat.reduceAdd, Nat.reduceSub, Nat.reduceEqDiff, reduceIte, reduceCtorEq, Nat.zero_lt_succ, decide_true, decide_false, id_eq, RE_ok, RE_exc, RE_nil, RE_cons, RE_ite, ↓RE_try, RE_hand, RE_handN, LcE_ok, LcE_ite, LcT_ok, bind_ite, bind_exc, cfx, xN, fdIx, nx2_nx, nx2_rt, nx2_bk, nx2_ct, trn_nx, trn_ct, trn_bk, trn_rt, fin_rt, fin_nx, fix_eq, ex_some, ints?_dI, pures_dI, frzDs_dI, atI_0, atI_1, atI_2, stoS_0, stoS_1, dI_app, ltS_int, isTy_int_int, isTy_int_bool, isTy_int_str, isTy_int_tuple, isTy_int_list, isTy_int_NoneType, isTy_bool_int, isTy_bool_bool, isTy_bool_str, isTy_bool_tuple, isTy_bool_list, isTy_bool_NoneType, isTy_str_int, isTy_str_bool, isTy_str_str, isTy_str_tuple, isTy_str_list, isTy_str_NoneType, isTy_tuple_int, isTy_tuple_bool, isTy_tuple_str, isTy_tuple_tuple, isTy_tuple_list, isTy_tuple_NoneType, isTy_list_int, isTy_list_bool, isTy_list_str, isTy_list_tuple, isTy_list_list, isTy_list_NoneType, dI_snoc, own_scr, mt_pop', mt_popI, smallOk, smallLt, bd_int, bd_nat, if_pos, if_neg, eqS_int, neS_int, decide_eq_true_eq, Bool.not_eq_true', decide_eq_false_iff_not, ← List.map_drop, ← List.map_take, ← List.map_reverse, Int.toNat_natCast, Int.reduceToNat, ite_self, and_self, and_true, true_and, frzDs, List.reverse_cons, List.reverse_nil, Option.toList_some, Option.toList_none, List.all_cons, List.all_nil, List.length_append, b7_1, h1, atI_dI hx, atI_dI hy, h2]
        exact ⟨_, by rw [show min (i + 1) (sh a b) = i + 1 by omega, Int.natCast_succ]⟩
      · have hs : i = sh a b := by
          by_cases h : i < sh a b
          · obtain ⟨z, k1, k2⟩ := sh_lt a b i h
            rw [hx] at k1; rw [hy] at k2
            cases k1; cases k2
            exact absurd rfl h2
          · omega
        simp (disch := first | omega | (simp only [List.length_map, List.length_append, List.length_cons, List.length_nil, List.length_reverse, List.length_take, List.length_drop]; omega)) only [evS, evE, evA, evT, evI, evP, Z.bok, look, looks, slot_0, slot_s, getP, bindT, bindTs, setS, pureD_own, pureD_frz, pureD_scr, pureD_tup, pureD_int, pureD_str, pureD_bl, pureD_non, pureD_io, pureD_if, pureD_is, rootP, srcT, srcL, tmps, doCall, nodupB, roots, writeBack, setE, setP, mt_appL, mt_rev, isLst, augS, prS, un, bi, tri, int1, int2, intS, lenS, addS, sumS, listS, tupleS, revS, sliceS, itemS, eqS_int, neS_int, frzD, outS, clr, Z.rest, R.ne, Option.bind_some, Option.bind_none, Option.map_some, Option.map_none, if_true, if_false, List.length_cons, List.length_nil, List.length_map, List.map_cons, List.map_nil, List.set_cons_zero, List.set_cons_succ, List.set_nil, List.replicate_succ, List.replicate_zero, List.nil_append, List.cons_append, Bool.false_eq_true, Bool.not_true, Bool.not_false, Bool.and_true, Bool.true_and, Bool.and_self, Bool.false_and, Bool.and_false, List.contains_cons, List.contains_nil, Bool.or_false, Bool.false_or, Bool.or_self, Nat.reduceBEq, Nat.reduceLT, Nat.reduceAdd, Nat.reduceSub, Nat.reduceEqDiff, reduceIte, reduceCtorEq, Nat.zero_lt_succ, decide_true, decide_false, id_eq, RE_ok, RE_exc, RE_nil, RE_cons, RE_ite, ↓RE_try, RE_hand, RE_handN, LcE_ok, LcE_ite, LcT_ok, bind_ite, bind_exc, cfx, xN, fdIx, nx2_nx, nx2_rt, nx2_bk, nx2_ct, trn_nx, trn_ct, trn_bk, trn_rt, fin_rt, fin_nx, fix_eq, ex_some, ints?_dI, pures_dI, frzDs_dI, atI_0, atI_1, atI_2, stoS_0, stoS_1, dI_app, ltS_int, isTy_int_int, isTy_int_bool, isTy_int_str, isTy_int_tuple, isTy_int_list, isTy_int_NoneType, isTy_bool_int, isTy_bool_bool, isTy_bool_str, isTy_bool_tuple, isTy_bool_list, isTy_bool_NoneType, isTy_str_int, isTy_str_bool, isTy_str_str, isTy_str_tuple, isTy_str_list, isTy_str_NoneType, isTy_tuple_int, isTy_tuple_bool, isTy_tuple_str, isTy_tuple_tuple, isTy_tuple_list, isTy_tuple_NoneType, isTy_list_int, isTy_list_bool, isTy_list_str, isTy_list_tuple, isTy_list_list, isTy_list_NoneType, dI_snoc, own_scr, mt_pop', mt_popI, smallOk, smallLt, bd_int, bd_nat, if_pos, if_neg, eqS_int, neS_int, decide_eq_true_eq, Bool.not_eq_true', decide_eq_false_iff_not, ← List.map_drop, ← List.map_take, ← List.map_reverse, Int.toNat_natCast, Int.reduceToNat, ite_self, and_self, and_true, true_and, frzDs, List.reverse_cons, List.reverse_nil, Option.toList_some, Option.toList_none, List.all_cons, List.all_nil, List.length_append, b7_1, h1, atI_dI hx, atI_dI hy, h2]
        exact ⟨_, by rw [show min (i + 1) (sh a b) = i by omega]⟩
    · have h3 : ¬ ((min i (sh a b) : Nat) : Int) = (i : Int) := by omega
      simp (disch := first | omega | (simp only [List.length_map, List.length_append, List.length_cons, List.length_nil, List.length_reverse, List.length_take, List.length_drop]; omega)) only [evS, evE, evA, evT, evI, evP, Z.bok, look, looks, slot_0, slot_s, getP, bindT, bindTs, setS, pureD_own, pureD_frz, pureD_scr, pureD_tup, pureD_int, pureD_str, pureD_bl, pureD_non, pureD_io, pureD_if, pureD_is, rootP, srcT, srcL, tmps, doCall, nodupB, roots, writeBack, setE, setP, mt_appL, mt_rev, isLst, augS, prS, un, bi, tri, int1, int2, intS, lenS, addS, sumS, listS, tupleS, revS, sliceS, itemS, eqS_int, neS_int, frzD, outS, clr, Z.rest, R.ne, Option.bind_some, Option.bind_none, Option.map_some, Option.map_none, if_true, if_false, List.length_cons, List.length_nil, List.length_map, List.map_cons, List.map_nil, List.set_cons_zero, List.set_cons_succ, List.set_nil, List.replicate_succ, List.replicate_zero, List.nil_append, List.cons_append, Bool.false_eq_true, Bool.not_true, Bool.not_false, Bool.and_true, Bool.true_and, Bool.and_self, Bool.false_and, Bool.and_false, List.contains_cons, List.contains_nil, Bool.or_false, Bool.false_or, Bool.or_self, Nat.reduceBEq, Nat.reduceLT, Nat.reduceAdd, Nat.reduceSub, Nat.reduceEqDiff, reduceIte, reduceCtorEq, Nat.zero_lt_succ, decide_true, decide_false, id_eq, RE_ok, RE_exc, RE_nil, RE_cons, RE_ite, ↓RE_try, RE_hand, RE_handN, LcE_ok, LcE_ite, LcT_ok, bind_ite, bind_exc, cfx, xN, fdIx, nx2_nx, nx2_rt, nx2_bk, nx2_ct, trn_nx, trn_ct, trn_bk, trn_rt, fin_rt, fin_nx, fix_eq, ex_some, ints?_dI, pures_dI, frzDs_dI, atI_0, atI_1, atI_2, stoS_0, stoS_1, dI_app, ltS_int, isTy_int_int, isTy_int_bool, isTy_int_str, isTy_int_tuple, isTy_int_list, isTy_int_NoneType, isTy_bool_int, isTy_bool_bool, isTy_bool_str, isTy_bool_tuple, isTy_bool_list, isTy_bool_NoneType, isTy_str_int, isTy_str_bool, isTy_str_str, isTy_str_tuple, isTy_str_list, isTy_str_NoneType, isTy_tuple_int, isTy_tuple_bool, isTy_tuple_str, isTy_tuple_tuple, isTy_tuple_list, isTy_tuple_NoneType, isTy_list_int, isTy_list_bool, isTy_list_str, isTy_list_tuple, isTy_list_list, isTy_list_NoneType, dI_snoc, own_scr, mt_pop', mt_popI, smallOk, smallLt, bd_int, bd_nat, if_pos, if_neg, eqS_int, neS_int, decide_eq_true_eq, Bool.not_eq_true', decide_eq_false_iff_not, ← List.map_drop, ← List.map_take, ← List.map_reverse, Int.toNat_natCast, Int.reduceToNat, ite_self, and_self, and_true, true_and, frzDs, List.reverse_cons, List.reverse_nil, Option.toList_some, Option.toList_none, List.all_cons, List.all_nil, List.length_append, b7_1, h3]
      exact ⟨_, by rw [show min (i + 1) (sh a b) = min i (sh a b) by omega]⟩
  · rintro env ⟨l, rfl⟩
    have := sh_le a b
    simp (disch := first | omega | (simp only [List.length_map, List.length_append, List.length_cons, List.length_nil, List.length_reverse, List.length_take, List.length_drop]; omega)) only [evS, evE, evA, evT, evI, evP, Z.bok, look, looks, slot_0, slot_s, getP, bindT, bindTs, setS, pureD_own, pureD_frz, pureD_scr, pureD_tup, pureD_int, pureD_str, pureD_bl, pureD_non, pureD_io, pureD_if, pureD_is, rootP, srcT, srcL, tmps, doCall, nodupB, roots, writeBack, setE, setP, mt_appL, mt_rev, isLst, augS, prS, un, bi, tri, int1, int2, intS, lenS, addS, sumS, listS, tupleS, revS, sliceS, itemS, eqS_int, neS_int, frzD, outS, clr, Z.rest, R.ne, Option.bind_some, Option.bind_none, Option.map_some, Option.map_none, if_true, if_false, List.length_cons, List.length_nil, List.length_map, List.map_cons, List.map_nil, List.set_cons_zero, List.set_cons_succ, List.set_nil, List.replicate_succ, List.replicate_zero, List.nil_append, List.cons_append, Bool.false_eq_true, Bool.not_true, Bool.not_false, Bool.and_true, Bool.true_and, Bool.and_self, Bool.false_and, Bool.and_false, List.contains_cons, List.contains_nil, Bool.or_false, Bool.false_or, Bool.or_self, Nat.reduceBEq, Nat.reduceLT, Nat.reduceAdd, Nat.reduceSub, Nat.reduceEqDiff, reduceIte, reduceCtorEq, Nat.zero_lt_succ, decide_true, decide_false, id_eq, RE_ok, RE_exc, RE_nil, RE_cons, RE_ite, ↓RE_try, RE_hand, RE_handN, LcE_ok, LcE_ite, LcT_ok, bind_ite, bind_exc, cfx, xN, fdIx, nx2_nx, nx2_rt, nx2_bk, nx2_ct, trn_nx, trn_ct, trn_bk, trn_rt, fin_rt, fin_nx, fix_eq, ex_some, ints?_dI, pures_dI, frzDs_dI, atI_0, atI_1, atI_2, stoS_0, stoS_1, dI_app, ltS_int, isTy_int_int, isTy_int_bool, isTy_int_str, isTy_int_tuple, isTy_int_list, isTy_int_NoneType, isTy_bool_int, isTy_bool_bool, isTy_bool_str, isTy_bool_tuple, isTy_bool_list, isTy_bool_NoneType, isTy_str_int, isTy_str_bool, isTy_str_str, isTy_str_tuple, isTy_str_list, isTy_str_NoneType, isTy_tuple_int, isTy_tuple_bool, isTy_tuple_str, isTy_tuple_tuple, isTy_tuple_list, isTy_tuple_NoneType, isTy_list_int, isTy_list_bool, isTy_list_str, isTy_list_tuple, isTy_list_list, isTy_list_NoneType, dI_snoc, own_scr, mt_pop', mt_popI, smallOk, smallLt, bd_int, bd_nat, if_pos, if_neg, eqS_int, neS_int, decide_eq_true_eq, Bool.not_eq_true', decide_eq_false_iff_not, ← List.map_drop, ← List.map_take, ← List.map_reverse, Int.toNat_natCast, Int.reduceToNat, ite_self, and_self, and_true, true_and, frzDs, List.reverse_cons, List.reverse_nil, Option.toList_some, Option.toList_none, List.all_cons, List.all_nil, List.length_append, b7_2]
    congr 2; omega
theorem pD_snoc (l : List (Int × List Int)) (n : Int) (x : List Int) : l.map pD ++ [D.tup [D.int n, D.tup (List.map D.int x)]] = (l ++ [(n, x)]).map pD := map_snoc (f := pD) l (n, x)
theorem r8 (n : Nat) (f : Fl) (cs : List (List Int)) (hl : cs.length ≤ 100) (hc : ∀ c ∈ cs, c.length ≤ 20000) : run ft (n+2) 8 [.lst f (cDs cs)] = .ok (.lst .own ((cutL [] cs).map pD)) [.lst f (cDs cs)] := by
  refine RE.eq (fn := f8) rfl rfl ?_
  simp only [f8]
  simp (disch := first | omega | (simp only [List.length_map, List.length_append, List.length_cons, List.length_nil, List.length_reverse, List.length_take, List.length_drop]; omega)) only [evS, evE, evA, evT, evI, evP, Z.bok, look, looks, slot_0, slot_s, getP, bindT, bindTs, setS, pureD_own, pureD_frz, pureD_scr, pureD_tup, pureD_int, pureD_str, pureD_bl, pureD_non, pureD_io, pureD_if, pureD_is, rootP, srcT, srcL, tmps, doCall, nodupB, roots, writeBack, setE, setP, mt_appL, mt_rev, isLst, augS, prS, un, bi, tri, int1, int2, intS, lenS, addS, sumS, listS, tupleS, revS, sliceS, itemS, eqS_int, neS_int, frzD, outS, clr, Z.rest, R.ne, Option.bind_some, Option.bind_none, Option.map_some, Option.map_none, if_true, if_false, List.length_cons, List.length_nil, List.length_map, List.map_cons, List.map_nil, List.set_cons_zero, List.set_cons_succ, List.set_nil, List.replicate_succ, List.replicate_zero, List.nil_append, List.cons_append, Bool.false_eq_true, Bool.not_true, Bool.not_false, Bool.and_true, Bool.true_and, Bool.and_self, Bool.false_and, Bool.and_false, List.contains_cons, List.contains_nil, Bool.or_false, Bool.false_or, Bool.or_self, Nat.reduceBEq, Nat.reduceLT, Nat.reduceAdd, Nat.reduceSub, Nat.reduceEqDiff, reduceIte, reduceCtorEq, Nat.zero_lt_succ, decide_true, decide_false, id_eq, RE_ok, RE_exc, RE_nil, RE_cons, RE_ite, ↓RE_try, RE_hand, RE_handN, LcE_ok, LcE_ite, LcT_ok, bind_ite, bind_exc, cfx, xN, fdIx, nx2_nx, nx2_rt, nx2_bk, nx2_ct, trn_nx, trn_ct, trn_bk, trn_rt, fin_rt, fin_nx, fix_eq, ex_some, ints?_dI, pures_dI, frzDs_dI, atI_0, atI_1, atI_2, stoS_0, stoS_1, dI_app, ltS_int, isTy_int_int, isTy_int_bool, isTy_int_str, isTy_int_tuple, isTy_int_list, isTy_int_NoneType, isTy_bool_int, isTy_bool_bool, isTy_bool_str, isTy_bool_tuple, isTy_bool_list, isTy_bool_NoneType, isTy_str_int, isTy_str_bool, isTy_str_str, isTy_str_tuple, isTy_str_list, isTy_str_NoneType, isTy_tuple_int, isTy_tuple_bool, isTy_tuple_str, isTy_tuple_tuple, isTy_tuple_list, isTy_tuple_NoneType, isTy_list_int, isTy_list_bool, isTy_list_str, isTy_list_tuple, isTy_list_list, isTy_list_NoneType, dI_snoc, own_scr, mt_pop', mt_popI, smallOk, smallLt, bd_int, bd_nat, if_pos, if_neg, eqS_int, neS_int, decide_eq_true_eq, Bool.not_eq_true', decide_eq_false_iff_not, ← List.map_drop, ← List.map_take, ← List.map_reverse, Int.toNat_natCast, Int.reduceToNat, ite_self, and_self, and_true, true_and, frzDs, List.reverse_cons, List.reverse_nil, Option.toList_some, Option.toList_none, List.all_cons, List.all_nil, List.length_append, b8, pures_cD]
  refine RE.goM (fun rest env => ∃ (done : List (Int × List Int)) (p : List Int) (l l2 : Option D), env = [some (.lst f (cDs cs)), some (.lst .own (done.map pD)), some (cD p), l, l2] ∧ done ++ cutL p rest = cutL [] cs ∧ done.length + rest.length = cs.length ∧ ∀ c ∈ rest, c.length ≤ 20000) ?_ ?_ ⟨[], [], none, none, rfl, rfl, by simp, hc⟩
  · rintro x xs env ⟨done, p, l, l2, rfl, h2, h3, h4⟩
    rw [List.length_cons] at h3
    simp (disch := first | omega | (simp only [List.length_map, List.length_append, List.length_cons, List.length_nil, List.length_reverse, List.length_take, List.length_drop]; omega)) only [evS, evE, evA, evT, evI, evP, Z.bok, look, looks, slot_0, slot_s, getP, bindT, bindTs, setS, pureD_own, pureD_frz, pureD_scr, pureD_tup, pureD_int, pureD_str, pureD_bl, pureD_non, pureD_io, pureD_if, pureD_is, rootP, srcT, srcL, tmps, doCall, nodupB, roots, writeBack, setE, setP, mt_appL, mt_rev, isLst, augS, prS, un, bi, tri, int1, int2, intS, lenS, addS, sumS, listS, tupleS, revS, sliceS, itemS, eqS_int, neS_int, frzD, outS, clr, Z.rest, R.ne, Option.bind_some, Option.bind_none, Option.map_some, Option.map_none, if_true, if_false, List.length_cons, List.length_nil, List.length_map, List.map_cons, List.map_nil, List.set_cons_zero, List.set_cons_succ, List.set_nil, List.replicate_succ, List.replicate_zero, List.nil_append, List.cons_append, Bool.false_eq_true, Bool.not_true, Bool.not_false, Bool.and_true, Bool.true_and, Bool.and_self, Bool.false_and, Bool.and_false, List.contains_cons, List.contains_nil, Bool.or_false, Bool.false_or, Bool.or_self, Nat.reduceBEq, Nat.reduceLT, Nat.reduceAdd, Nat.reduceSub, Nat.reduceEqDiff, reduceIte, reduceCtorEq, Nat.zero_lt_succ, decide_true, decide_false, id_eq, RE_ok, RE_exc, RE_nil, RE_cons, RE_ite, ↓RE_try, RE_hand, RE_handN, LcE_ok, LcE_ite, LcT_ok, bind_ite, bind_exc, cfx, xN, fdIx, nx2_nx, nx2_rt, nx2_bk, nx2_ct, trn_nx, trn_ct, trn_bk, trn_rt, fin_rt, fin_nx, fix_eq, ex_some, ints?_dI, pures_dI, frzDs_dI, atI_0, atI_1, atI_2, stoS_0, stoS_1, dI_app, ltS_int, isTy_int_int, isTy_int_bool, isTy_int_str, isTy_int_tuple, isTy_int_list, isTy_int_NoneType, isTy_bool_int, isTy_bool_bool, isTy_bool_str, isTy_bool_tuple, isTy_bool_list, isTy_bool_NoneType, isTy_str_int, isTy_str_bool, isTy_str_str, isTy_str_tuple, isTy_str_list, isTy_str_NoneType, isTy_tuple_int, isTy_tuple_bool, isTy_tuple_str, isTy_tuple_tuple, isTy_tuple_list, isTy_tuple_NoneType, isTy_list_int, isTy_list_bool, isTy_list_str, isTy_list_tuple, isTy_list_list, isTy_list_NoneType, dI_snoc, own_scr, mt_pop', mt_popI, smallOk, smallLt, bd_int, bd_nat, if_pos, if_neg, eqS_int, neS_int, decide_eq_true_eq, Bool.not_eq_true', decide_eq_false_iff_not, ← List.map_drop, ← List.map_take, ← List.map_reverse, Int.toNat_natCast, Int.reduceToNat, ite_self, and_self, and_true, true_and, frzDs, List.reverse_cons, List.reverse_nil, Option.toList_some, Option.toList_none, List.all_cons, List.all_nil, List.length_append, b8_1, r7 n x p (h4 x List.mem_cons_self), cut_map, cut_drop, pD_snoc]
    refine ⟨done ++ [((sh x p : Int), x.drop (sh x p))], x, _, _, rfl, ?_, ?_, fun c hc => h4 c (List.mem_cons_of_mem _ hc)⟩
    · rw [List.append_assoc]; exact h2
    · rw [List.length_append, List.length_singleton]; omega
  · rintro env ⟨done, p, l, l2, rfl, h2, h3, h4⟩
    rw [show cutL p [] = [] from rfl, List.append_nil] at h2
    simp (disch := first | omega | (simp only [List.length_map, List.length_append, List.length_cons, List.length_nil, List.length_reverse, List.length_take, List.length_drop]; omega)) only [evS, evE, evA, evT, evI, evP, Z.bok, look, looks, slot_0, slot_s, getP, bindT, bindTs, setS, pureD_own, pureD_frz, pureD_scr, pureD_tup, pureD_int, pureD_str, pureD_bl, pureD_non, pureD_io, pureD_if, pureD_is, rootP, srcT, srcL, tmps, doCall, nodupB, roots, writeBack, setE, setP, mt_appL, mt_rev, isLst, augS, prS, un, bi, tri, int1, int2, intS, lenS, addS, sumS, listS, tupleS, revS, sliceS, itemS, eqS_int, neS_int, frzD, outS, clr, Z.rest, R.ne, Option.bind_some, Option.bind_none, Option.map_some, Option.map_none, if_true, if_false, List.length_cons, List.length_nil, List.length_map, List.map_cons, List.map_nil, List.set_cons_zero, List.set_cons_succ, List.set_nil, List.replicate_succ, List.replicate_zero, List.nil_append, List.cons_append, Bool.false_eq_true, Bool.not_true, Bool.not_false, Bool.and_true, Bool.true_and, Bool.and_self, Bool.false_and, Bool.and_false, List.contains_cons, List.contains_nil, Bool.or_false, Bool.false_or, Bool.or_self, Nat.reduceBEq, Nat.reduceLT, Nat.reduceAdd, Nat.reduceSub, Nat.reduceEqDiff, reduceIte, reduceCtorEq, Nat.zero_lt_succ, decide_true, decide_false, id_eq, RE_ok, RE_exc, RE_nil, RE_cons, RE_ite, ↓RE_try, RE_hand, RE_handN, LcE_ok, LcE_ite, LcT_ok, bind_ite, bind_exc, cfx, xN, fdIx, nx2_nx, nx2_rt, nx2_bk, nx2_ct, trn_nx, trn_ct, trn_bk, trn_rt, fin_rt, fin_nx, fix_eq, ex_some, ints?_dI, pures_dI, frzDs_dI, atI_0, atI_1, atI_2, stoS_0, stoS_1, dI_app, ltS_int, isTy_int_int, isTy_int_bool, isTy_int_str, isTy_int_tuple, isTy_int_list, isTy_int_NoneType, isTy_bool_int, isTy_bool_bool, isTy_bool_str, isTy_bool_tuple, isTy_bool_list, isTy_bool_NoneType, isTy_str_int, isTy_str_bool, isTy_str_str, isTy_str_tuple, isTy_str_list, isTy_str_NoneType, isTy_tuple_int, isTy_tuple_bool, isTy_tuple_str, isTy_tuple_tuple, isTy_tuple_list, isTy_tuple_NoneType, isTy_list_int, isTy_list_bool, isTy_list_str, isTy_list_tuple, isTy_list_list, isTy_list_NoneType, dI_snoc, own_scr, mt_pop', mt_popI, smallOk, smallLt, bd_int, bd_nat, if_pos, if_neg, eqS_int, neS_int, decide_eq_true_eq, Bool.not_eq_true', decide_eq_false_iff_not, ← List.map_drop, ← List.map_take, ← List.map_reverse, Int.toNat_natCast, Int.reduceToNat, ite_self, and_self, and_true, true_and, frzDs, List.reverse_cons, List.reverse_nil, Option.toList_some, Option.toList_none, List.all_cons, List.all_nil, List.length_append, b8_2, h2]
theorem enum_nil {i : Nat} {l : List (Int × List Int)} (h : ([] : List D) = enumD i (l.map pD)) : l = [] := by
  cases l with
  | nil => rfl
  | cons a l => cases h
theorem r3 (n : Nat) (f : Fl) (row : List (Int × List Int)) (hr : okR row) :
    (∃ d os, run ft (n+2) 3 [.lst f (row.map pD)] = .ok d os ∧ ∃ cs, rdL [] [] row = .ok cs ∧ d = .lst .own (cDs cs) ∧ os = [.lst f (row.map pD)]) ∨
    ∃ c ks fs os, run ft (n+2) 3 [.lst f (row.map pD)] = .exc c ks fs os ∧ ∃ k : Nat, rdL [] [] row = .error k ∧ c = 1 ∧ ks = (["at"] : List PySem.Str) ∧ fs = [.int k] ∧ os = [.lst f (row.map pD)] := by
  refine RE.run (fn := f3) rfl rfl ?_
  simp only [f3]
  simp (disch := first | omega | (simp only [List.length_map, List.length_append, List.length_cons, List.length_nil, List.length_reverse, List.length_take, List.length_drop]; omega)) only [evS, evE, evA, evT, evI, evP, Z.bok, look, looks, slot_0, slot_s, getP, bindT, bindTs, setS, pureD_own, pureD_frz, pureD_scr, pureD_tup, pureD_int, pureD_str, pureD_bl, pureD_non, pureD_io, pureD_if, pureD_is, rootP, srcT, srcL, tmps, doCall, nodupB, roots, writeBack, setE, setP, mt_appL, mt_rev, isLst, augS, prS, un, bi, tri, int1, int2, intS, lenS, addS, sumS, listS, tupleS, revS, sliceS, itemS, eqS_int, neS_int, frzD, outS, clr, Z.rest, R.ne, Option.bind_some, Option.bind_none, Option.map_some, Option.map_none, if_true, if_false, List.length_cons, List.length_nil, List.length_map, List.map_cons, List.map_nil, List.set_cons_zero, List.set_cons_succ, List.set_nil, List.replicate_succ, List.replicate_zero, List.nil_append, List.cons_append, Bool.false_eq_true, Bool.not_true, Bool.not_false, Bool.and_true, Bool.true_and, Bool.and_self, Bool.false_and, Bool.and_false, List.contains_cons, List.contains_nil, Bool.or_false, Bool.false_or, Bool.or_self, Nat.reduceBEq, Nat.reduceLT, Nat.reduceAdd, Nat.reduceSub, Nat.reduceEqDiff, reduceIte, reduceCtorEq, Nat.zero_lt_succ, decide_true, decide_false, id_eq, RE_ok, RE_exc, RE_nil, RE_cons, RE_ite, ↓RE_try, RE_hand, RE_handN, LcE_ok, LcE_ite, LcT_ok, bind_ite, bind_exc, cfx, xN, fdIx, nx2_nx, nx2_rt, nx2_bk, nx2_ct, trn_nx, trn_ct, trn_bk, trn_rt, fin_rt, fin_nx, fix_eq, ex_some, ints?_dI, pures_dI, frzDs_dI, atI_0, atI_1, atI_2, stoS_0, stoS_1, dI_app, ltS_int, isTy_int_int, isTy_int_bool, isTy_int_str, isTy_int_tuple, isTy_int_list, isTy_int_NoneType, isTy_bool_int, isTy_bool_bool, isTy_bool_str, isTy_bool_tuple, isTy_bool_list, isTy_bool_NoneType, isTy_str_int, isTy_str_bool, isTy_str_str, isTy_str_tuple, isTy_str_list, isTy_str_NoneType, isTy_tuple_int, isTy_tuple_bool, isTy_tuple_str, isTy_tuple_tuple, isTy_tuple_list, isTy_tuple_NoneType, isTy_list_int, isTy_list_bool, isTy_list_str, isTy_list_tuple, isTy_list_list, isTy_list_NoneType, dI_snoc, own_scr, mt_pop', mt_popI, smallOk, smallLt, bd_int, bd_nat, if_pos, if_neg, eqS_int, neS_int, decide_eq_true_eq, Bool.not_eq_true', decide_eq_false_iff_not, ← List.map_drop, ← List.map_take, ← List.map_reverse, Int.toNat_natCast, Int.reduceToNat, ite_self, and_self, and_true, true_and, frzDs, List.reverse_cons, List.reverse_nil, Option.toList_some, Option.toList_none, List.all_cons, List.all_nil, List.length_append, b3, pures_pD]
  refine RE.go (fun rest env => ∃ (rs : List (Int × List Int)) (acc : List (List Int)) (a : List Int) (l3 l4 l5 l6 : Option D), rest = enumD acc.length (rs.map pD) ∧ env = [some (.lst f (row.map pD)), some (.lst .own (cDs acc)), some (cD a), l3, l4, l5, l6] ∧ rdL a acc rs = rdL [] [] row ∧ acc.length + rs.length = row.length ∧ a.length ≤ 200 * acc.length ∧ ∀ p ∈ rs, p.2.length ≤ 200) ?_ ?_ ⟨row, [], [], none, none, none, none, rfl, rfl, rfl, by simp, by simp, fun p hp => (hr.2 p hp).1⟩
  · rintro d xs env ⟨rs, acc, a, l3, l4, l5, l6, h0, rfl, h1, h2, h3, h4⟩
    cases rs with
    | nil => cases h0
    | cons p rs =>
    obtain ⟨m, x⟩ := p
    cases h0
    rw [List.length_cons] at h2
    have h5 : x.length ≤ 200 := h4 _ List.mem_cons_self
    have h6 := hr.1
    simp only [rdL] at h1
    simp only [pD]
    by_cases c1 : m < 0 ∨ (a.length : Int) < m
    · rw [if_pos c1] at h1
      by_cases c0 : 0 ≤ m
      · have c2 : ¬ m ≤ (a.length : Int) := by omega
        simp (disch := first | omega | (simp only [List.length_map, List.length_append, List.length_cons, List.length_nil, List.length_reverse, List.length_take, List.length_drop]; omega)) only [evS, evE, evA, evT, evI, evP, Z.bok, look, looks, slot_0, slot_s, getP, bindT, bindTs, setS, pureD_own, pureD_frz, pureD_scr, pureD_tup, pureD_int, pureD_str, pureD_bl, pureD_non, pureD_io, pureD_if, pureD_is, rootP, srcT, srcL, tmps, doCall, nodupB, roots, writeBack, setE, setP, mt_appL, mt_rev, isLst, augS, prS, un, bi, tri, int1, int2, intS, lenS, addS, sumS, listS, tupleS, revS, sliceS, itemS, eqS_int, neS_int, frzD, outS, clr, Z.rest, R.ne, Option.bind_some, Option.bind_none, Option.map_some, Option.map_none, if_true, if_false, List.length_cons, List.length_nil, List.length_map, List.map_cons, List.map_nil, List.set_cons_zero, List.set_cons_succ, List.set_nil, List.replicate_succ, List.replicate_zero, List.nil_append, List.cons_append, Bool.false_eq_true, Bool.not_true, Bool.not_false, Bool.and_true, Bool.true_and, Bool.and_self, Bool.false_and, Bool.and_false, List.contains_cons, List.contains_nil, Bool.or_false, Bool.false_or, Bool.or_self, Nat.reduceBEq, Nat.reduceLT, Nat.reduceAdd, Nat.reduceSub, Nat.reduceEqDiff, reduceIte, reduceCtorEq, Nat.zero_lt_succ, decide_true, decide_false, id_eq, RE_ok, RE_exc, RE_nil, RE_cons, RE_ite, ↓RE_try, RE_hand, RE_handN, LcE_ok, LcE_ite, LcT_ok, bind_ite, bind_exc, cfx, xN, fdIx, nx2_nx, nx2_rt, nx2_bk, nx2_ct, trn_nx, trn_ct, trn_bk, trn_rt, fin_rt, fin_nx, fix_eq, ex_some, ints?_dI, pures_dI, frzDs_dI, atI_0, atI_1, atI_2, stoS_0, stoS_1, dI_app, ltS_int, isTy_int_int, isTy_int_bool, isTy_int_str, isTy_int_tuple, isTy_int_list, isTy_int_NoneType, isTy_bool_int, isTy_bool_bool, isTy_bool_str, isTy_bool_tuple, isTy_bool_list, isTy_bool_NoneType, isTy_str_int, isTy_str_bool, isTy_str_str, isTy_str_tuple, isTy_str_list, isTy_str_NoneType, isTy_tuple_int, isTy_tuple_bool, isTy_tuple_str, isTy_tuple_tuple, isTy_tuple_list, isTy_tuple_NoneType, isTy_list_int, isTy_list_bool, isTy_list_str, isTy_list_tuple, isTy_list_list, isTy_list_NoneType, dI_snoc, own_scr, mt_pop', mt_popI, smallOk, smallLt, bd_int, bd_nat, if_pos, if_neg, eqS_int, neS_int, decide_eq_true_eq, Bool.not_eq_true', decide_eq_false_iff_not, ← List.map_drop, ← List.map_take, ← List.map_reverse, Int.toNat_natCast, Int.reduceToNat, ite_self, and_self, and_true, true_and, frzDs, List.reverse_cons, List.reverse_nil, Option.toList_some, Option.toList_none, List.all_cons, List.all_nil, List.length_append, b3_1, c0, c2]
        exact ⟨acc.length, h1.symm, rfl⟩
      · simp (disch := first | omega | (simp only [List.length_map, List.length_append, List.length_cons, List.length_nil, List.length_reverse, List.length_take, List.length_drop]; omega)) only [evS, evE, evA, evT, evI, evP, Z.bok, look, looks, slot_0, slot_s, getP, bindT, bindTs, setS, pureD_own, pureD_frz, pureD_scr, pureD_tup, pureD_int, pureD_str, pureD_bl, pureD_non, pureD_io, pureD_if, pureD_is, rootP, srcT, srcL, tmps, doCall, nodupB, roots, writeBack, setE, setP, mt_appL, mt_rev, isLst, augS, prS, un, bi, tri, int1, int2, intS, lenS, addS, sumS, listS, tupleS, revS, sliceS, itemS, eqS_int, neS_int, frzD, outS, clr, Z.rest, R.ne, Option.bind_some, Option.bind_none, Option.map_some, Option.map_none, if_true, if_false, List.length_cons, List.length_nil, List.length_map, List.map_cons, List.map_nil, List.set_cons_zero, List.set_cons_succ, List.set_nil, List.replicate_succ, List.replicate_zero, List.nil_append, List.cons_append, Bool.false_eq_true, Bool.not_true, Bool.not_false, Bool.and_true, Bool.true_and, Bool.and_self, Bool.false_and, Bool.and_false, List.contains_cons, List.contains_nil, Bool.or_false, Bool.false_or, Bool.or_self, Nat.reduceBEq, Nat.reduceLT, Nat.reduceAdd, Nat.reduceSub, Nat.reduceEqDiff, reduceIte, reduceCtorEq, Nat.zero_lt_succ, decide_true, decide_false, id_eq, RE_ok, RE_exc, RE_nil, RE_cons, RE_ite, ↓RE_try, RE_hand, RE_handN, LcE_ok, LcE_ite, LcT_ok, bind_ite, bind_exc, cfx, xN, fdIx, nx2_nx, nx2_rt, nx2_bk, nx2_ct, trn_nx, trn_ct, trn_bk, trn_rt, fin_rt, fin_nx, fix_eq, ex_some, ints?_dI, pures_dI, frzDs_dI, atI_0, atI_1, atI_2, stoS_0, stoS_1, dI_app, ltS_int, isTy_int_int, isTy_int_bool, isTy_int_str, isTy_int_tuple, isTy_int_list, isTy_int_NoneType, isTy_bool_int, isTy_bool_bool, isTy_bool_str, isTy_bool_tuple, isTy_bool_list, isTy_bool_NoneType, isTy_str_int, isTy_str_bool, isTy_str_str, isTy_str_tuple, isTy_str_list, isTy_str_NoneType, isTy_tuple_int, isTy_tuple_bool, isTy_tuple_str, isTy_tuple_tuple, isTy_tuple_list, isTy_tuple_NoneType, isTy_list_int, isTy_list_bool, isTy_list_str, isTy_list_tuple, isTy_list_list, isTy_list_NoneType, dI_snoc, own_scr, mt_pop', mt_popI, smallOk, smallLt, bd_int, bd_nat, if_pos, if_neg, eqS_int, neS_int, decide_eq_true_eq, Bool.not_eq_true', decide_eq_false_iff_not, ← List.map_drop, ← List.map_take, ← List.map_reverse, Int.toNat_natCast, Int.reduceToNat, ite_self, and_self, and_true, true_and, frzDs, List.reverse_cons, List.reverse_nil, Option.toList_some, Option.toList_none, List.all_cons, List.all_nil, List.length_append, b3_1, c0]
        exact ⟨acc.length, h1.symm, rfl⟩
    · rw [if_neg c1] at h1
      obtain ⟨k, rfl⟩ : ∃ k : Nat, m = k := ⟨m.toNat, by omega⟩
      have c2 : (0 : Int) ≤ (k : Int) := by omega
      have c3 : (k : Int) ≤ (a.length : Int) := by omega
      have hbi := bad_iff (a := a) (x := x) (n := k) (by omega)
      simp only [Int.toNat_natCast] at h1
      by_cases c4 : (k : Int) < a.length ∧ x.take 1 = (a.drop k).take 1
      · rw [if_pos c4] at h1
        have c5 : ¬ ((sh (a.take k ++ x) a : Nat) : Int) = (k : Int) := fun h => hbi.mp (by omega) ⟨by omega, c4.2⟩
        simp (disch := first | omega | (simp only [List.length_map, List.length_append, List.length_cons, List.length_nil, List.length_reverse, List.length_take, List.length_drop]; omega)) only [evS, evE, evA, evT, evI, evP, Z.bok, look, looks, slot_0, slot_s, getP, bindT, bindTs, setS, pureD_own, pureD_frz, pureD_scr, pureD_tup, pureD_int, pureD_str, pureD_bl, pureD_non, pureD_io, pureD_if, pureD_is, rootP, srcT, srcL, tmps, doCall, nodupB, roots, writeBack, setE, setP, mt_appL, mt_rev, isLst, augS, prS, un, bi, tri, int1, int2, intS, lenS, addS, sumS, listS, tupleS, revS, sliceS, itemS, eqS_int, neS_int, frzD, outS, clr, Z.rest, R.ne, Option.bind_some, Option.bind_none, Option.map_some, Option.map_none, if_true, if_false, List.length_cons, List.length_nil, List.length_map, List.map_cons, List.map_nil, List.set_cons_zero, List.set_cons_succ, List.set_nil, List.replicate_succ, List.replicate_zero, List.nil_append, List.cons_append, Bool.false_eq_true, Bool.not_true, Bool.not_false, Bool.and_true, Bool.true_and, Bool.and_self, Bool.false_and, Bool.and_false, List.contains_cons, List.contains_nil, Bool.or_false, Bool.false_or, Bool.or_self, Nat.reduceBEq, Nat.reduceLT, Nat.reduceAdd, Nat.reduceSub, Nat.reduceEqDiff, reduceIte, reduceCtorEq, Nat.zero_lt_succ, decide_true, decide_false, id_eq, RE_ok, RE_exc, RE_nil, RE_cons, RE_ite, ↓RE_try, RE_hand, RE_handN, LcE_ok, LcE_ite, LcT_ok, bind_ite, bind_exc, cfx, xN, fdIx, nx2_nx, nx2_rt, nx2_bk, nx2_ct, trn_nx, trn_ct, trn_bk, trn_rt, fin_rt, fin_nx, fix_eq, ex_some, ints?_dI, pures_dI, frzDs_dI, atI_0, atI_1, atI_2, stoS_0, stoS_1, dI_app, ltS_int, isTy_int_int, isTy_int_bool, isTy_int_str, isTy_int_tuple, isTy_int_list, isTy_int_NoneType, isTy_bool_int, isTy_bool_bool, isTy_bool_str, isTy_bool_tuple, isTy_bool_list, isTy_bool_NoneType, isTy_str_int, isTy_str_bool, isTy_str_str, isTy_str_tuple, isTy_str_list, isTy_str_NoneType, isTy_tuple_int, isTy_tuple_bool, isTy_tuple_str, isTy_tuple_tuple, isTy_tuple_list, isTy_tuple_NoneType, isTy_list_int, isTy_list_bool, isTy_list_str, isTy_list_tuple, isTy_list_list, isTy_list_NoneType, dI_snoc, own_scr, mt_pop', mt_popI, smallOk, smallLt, bd_int, bd_nat, if_pos, if_neg, eqS_int, neS_int, decide_eq_true_eq, Bool.not_eq_true', decide_eq_false_iff_not, ← List.map_drop, ← List.map_take, ← List.map_reverse, Int.toNat_natCast, Int.reduceToNat, ite_self, and_self, and_true, true_and, frzDs, List.reverse_cons, List.reverse_nil, Option.toList_some, Option.toList_none, List.all_cons, List.all_nil, List.length_append, b3_1, c2, c3, cut_map, cut_take, r0, c5]
        exact ⟨acc.length, h1.symm, rfl⟩
      · rw [if_neg c4] at h1
        have c5 : ((sh (a.take k ++ x) a : Nat) : Int) = (k : Int) := by rw [hbi.mpr fun h => c4 ⟨by omega, h.2⟩]
        simp (disch := first | omega | (simp only [List.length_map, List.length_append, List.length_cons, List.length_nil, List.length_reverse, List.length_take, List.length_drop]; omega)) only [evS, evE, evA, evT, evI, evP, Z.bok, look, looks, slot_0, slot_s, getP, bindT, bindTs, setS, pureD_own, pureD_frz, pureD_scr, pureD_tup, pureD_int, pureD_str, pureD_bl, pureD_non, pureD_io, pureD_if, pureD_is, rootP, srcT, srcL, tmps, doCall, nodupB, roots, writeBack, setE, setP, mt_appL, mt_rev, isLst, augS, prS, un, bi, tri, int1, int2, intS, lenS, addS, sumS, listS, tupleS, revS, sliceS, itemS, eqS_int, neS_int, frzD, outS, clr, Z.rest, R.ne, Option.bind_some, Option.bind_none, Option.map_some, Option.map_none, if_true, if_false, List.length_cons, List.length_nil, List.length_map, List.map_cons, List.map_nil, List.set_cons_zero, List.set_cons_succ, List.set_nil, List.replicate_succ, List.replicate_zero, List.nil_append, List.cons_append, Bool.false_eq_true, Bool.not_true, Bool.not_false, Bool.and_true, Bool.true_and, Bool.and_self, Bool.false_and, Bool.and_false, List.contains_cons, List.contains_nil, Bool.or_false, Bool.false_or, Bool.or_self, Nat.reduceBEq, Nat.reduceLT, Nat.reduceAdd, Nat.reduceSub, Nat.reduceEqDiff, reduceIte, reduceCtorEq, Nat.zero_lt_succ, decide_true, decide_false, id_eq, RE_ok, RE_exc, RE_nil, RE_cons, RE_ite, ↓RE_try, RE_hand, RE_handN, LcE_ok, LcE_ite, LcT_ok, bind_ite, bind_exc, cfx, xN, fdIx, nx2_nx, nx2_rt, nx2_bk, nx2_ct, trn_nx, trn_ct, trn_bk, trn_rt, fin_rt, fin_nx, fix_eq, ex_some, ints?_dI, pures_dI, frzDs_dI, atI_0, atI_1, atI_2, stoS_0, stoS_1, dI_app, ltS_int, isTy_int_int, isTy_int_bool, isTy_int_str, isTy_int_tuple, isTy_int_list, isTy_int_NoneType, isTy_bool_int, isTy_bool_bool, isTy_bool_str, isTy_bool_tuple, isTy_bool_list, isTy_bool_NoneType, isTy_str_int, isTy_str_bool, isTy_str_str, isTy_str_tuple, isTy_str_list, isTy_str_NoneType, isTy_tuple_int, isTy_tuple_bool, isTy_tuple_str, isTy_tuple_tuple, isTy_tuple_list, isTy_tuple_NoneType, isTy_list_int, isTy_list_bool, isTy_list_str, isTy_list_tuple, isTy_list_list, isTy_list_NoneType, dI_snoc, own_scr, mt_pop', mt_popI, smallOk, smallLt, bd_int, bd_nat, if_pos, if_neg, eqS_int, neS_int, decide_eq_true_eq, Bool.not_eq_true', decide_eq_false_iff_not, ← List.map_drop, ← List.map_take, ← List.map_reverse, Int.toNat_natCast, Int.reduceToNat, ite_self, and_self, and_true, true_and, frzDs, List.reverse_cons, List.reverse_nil, Option.toList_some, Option.toList_none, List.all_cons, List.all_nil, List.length_append, b3_1, c2, c3, cut_map, cut_take, r0, c5, cDs_snoc]
        refine ⟨rs, acc ++ [a.take k ++ x], a.take k ++ x, _, _, _, _, by simp only [List.length_append, List.length_singleton], rfl, h1, by rw [List.length_append, List.length_singleton]; omega, ?_, fun p hp => h4 p (List.mem_cons_of_mem _ hp)⟩
        simp only [List.length_append, List.length_singleton, List.length_take]
        omega
  · rintro env ⟨rs, acc, a, l3, l4, l5, l6, h0, rfl, h1, h2, h3, h4⟩
    cases enum_nil h0
    simp (disch := first | omega | (simp only [List.length_map, List.length_append, List.length_cons, List.length_nil, List.length_reverse, List.length_take, List.length_drop]; omega)) only [evS, evE, evA, evT, evI, evP, Z.bok, look, looks, slot_0, slot_s, getP, bindT, bindTs, setS, pureD_own, pureD_frz, pureD_scr, pureD_tup, pureD_int, pureD_str, pureD_bl, pureD_non, pureD_io, pureD_if, pureD_is, rootP, srcT, srcL, tmps, doCall, nodupB, roots, writeBack, setE, setP, mt_appL, mt_rev, isLst, augS, prS, un, bi, tri, int1, int2, intS, lenS, addS, sumS, listS, tupleS, revS, sliceS, itemS, eqS_int, neS_int, frzD, outS, clr, Z.rest, R.ne, Option.bind_some, Option.bind_none, Option.map_some, Option.map_none, if_true, if_false, List.length_cons, List.length_nil, List.length_map, List.map_cons, List.map_nil, List.set_cons_zero, List.set_cons_succ, List.set_nil, List.replicate_succ, List.replicate_zero, List.nil_append, List.cons_append, Bool.false_eq_true, Bool.not_true, Bool.not_false, Bool.and_true, Bool.true_and, Bool.and_self, Bool.false_and, Bool.and_false, List.contains_cons, List.contains_nil, Bool.or_false, Bool.false_or, Bool.or_self, Nat.reduceBEq, Nat.reduceLT, Nat.reduceAdd, Nat.reduceSub, Nat.reduceEqDiff, reduceIte, reduceCtorEq, Nat.zero_lt_succ, decide_true, decide_false, id_eq, RE_ok, RE_exc, RE_nil, RE_cons, RE_ite, ↓RE_try, RE_hand, RE_handN, LcE_ok, LcE_ite, LcT_ok, bind_ite, bind_exc, cfx, xN, fdIx, nx2_nx, nx2_rt, nx2_bk, nx2_ct, trn_nx, trn_ct, trn_bk, trn_rt, fin_rt, fin_nx, fix_eq, ex_some, ints?_dI, pures_dI, frzDs_dI, atI_0, atI_1, atI_2, stoS_0, stoS_1, dI_app, ltS_int, isTy_int_int, isTy_int_bool, isTy_int_str, isTy_int_tuple, isTy_int_list, isTy_int_NoneType, isTy_bool_int, isTy_bool_bool, isTy_bool_str, isTy_bool_tuple, isTy_bool_list, isTy_bool_NoneType, isTy_str_int, isTy_str_bool, isTy_str_str, isTy_str_tuple, isTy_str_list, isTy_str_NoneType, isTy_tuple_int, isTy_tuple_bool, isTy_tuple_str, isTy_tuple_tuple, isTy_tuple_list, isTy_tuple_NoneType, isTy_list_int, isTy_list_bool, isTy_list_str, isTy_list_tuple, isTy_list_list, isTy_list_NoneType, dI_snoc, own_scr, mt_pop', mt_popI, smallOk, smallLt, bd_int, bd_nat, if_pos, if_neg, eqS_int, neS_int, decide_eq_true_eq, Bool.not_eq_true', decide_eq_false_iff_not, ← List.map_drop, ← List.map_take, ← List.map_reverse, Int.toNat_natCast, Int.reduceToNat, ite_self, and_self, and_true, true_and, frzDs, List.reverse_cons, List.reverse_nil, Option.toList_some, Option.toList_none, List.all_cons, List.all_nil, List.length_append, b3_2]
    exact ⟨acc, h1.symm, rfl⟩
end Law

namespace Law
open Z

theorem rdL_ok : ∀ {rs : List (Int × List Int)} {a : List Int} {acc cs : List (List Int)}, rdL a acc rs = .ok cs → (∀ p ∈ rs, p.2.length ≤ 200 ∧ okV p.2) → okV a → a.length ≤ 200 * acc.length → (∀ c ∈ acc, c.length ≤ 12400 ∧ okV c) → acc.length + rs.length ≤ 62 → cs.length ≤ 62 ∧ ∀ c ∈ cs, c.length ≤ 12400 ∧ okV c
  | [], a, acc, cs, h, _, _, _, h3, h4 => by
    cases h
    exact ⟨by simpa using h4, h3⟩
  | (m, x) :: rs, a, acc, cs, h, h1, h2, h5, h3, h4 => by
    rw [rdL] at h
    split at h
    · cases h
    · split at h
      · cases h
      · rw [List.length_cons] at h4
        obtain ⟨k1, k2⟩ := h1 _ List.mem_cons_self
        have k1 : x.length ≤ 200 := k1
        have hl : (a.take m.toNat ++ x).length ≤ 200 * (acc.length + 1) := by rw [List.length_append, List.length_take]; omega
        have hv : okV (a.take m.toNat ++ x) := okV_app (okV_take h2) k2
        refine rdL_ok h (fun p hp => h1 p (List.mem_cons_of_mem _ hp)) hv (by rw [List.length_append (as := acc), List.length_singleton]; exact hl) (fun c hc => ?_) (by rw [List.length_append, List.length_singleton]; omega)
        rcases List.mem_append.mp hc with hc | hc
        · exact h3 c hc
        · cases List.mem_singleton.mp hc
          exact ⟨by omega, hv⟩
theorem rep_cDs {f : Fl} {cs : List (List Int)} (h : cs.length ≤ 62) (k : ∀ c ∈ cs, c.length ≤ 12400 ∧ okV c) : reprS (.lst f (cDs cs)) = some (.str (shwL (cDs cs))) :=
  reprL 12400 (fun x => dep_dI x) (fun c hc => sm_dI c fun v hv => by have := (k c hc).2 v hv; omega) (fun c hc => by rw [bk_tup, bk_dI]; exact (k c hc).1) (by omega)
theorem rep_bad (k : Nat) (h : k ≤ 1000) : reprS (.tup [.str "bad", .int k]) = some (.str (toPy (.tup [.str "bad", .int k])).shown) :=
  repr_ok (show (depD 59 (.str "bad") && (true && true)) = true by decide +kernel) (show (smD (.str "bad") && (smD (.int k) && true)) = true by rw [show smD (.int k) = true from sm_int (by omega)]; decide +kernel) (show (3 + 1 + (0 + 1 + 0) : Nat) ≤ 2 ^ 20 by decide)
theorem dep_pD (l : List (Int × List Int)) : depDs 59 (l.map pD) = true := dep_map (fun x => by
  show depDs 58 [D.int x.1, cD x.2] = true
  rw [dep_s, dep_s, dep_i, show depD 58 (cD x.2) = true from dep_dI (n := 57) x.2, dep_n]
  rfl) l
theorem rdL_err : ∀ {rs : List (Int × List Int)} {a : List Int} {acc : List (List Int)} {k : Nat}, rdL a acc rs = .error k → k ≤ acc.length + rs.length
  | [], _, _, _, h => by cases h
  | (m, x) :: rs, a, acc, k, h => by
    rw [rdL] at h
    split at h
    · cases h; omega
    · split at h
      · cases h; omega
      · have := rdL_err h
        rw [List.length_append, List.length_singleton] at this
        rw [List.length_cons]
        omega
theorem r10 (n : Nat) (f : Fl) (row : List (Int × List Int)) (hr : okR row) : run ft (n+3) 10 [.lst f (row.map pD)] = .ok (.bl true) [.lst f (row.map pD)] := by
  refine RE.eq (fn := f10) rfl rfl ?_
  simp only [f10]
  have e9 := r9 (n+1) f row hr
  have hrl := hr.1
  rcases r3 n .own row hr with ⟨d, os, e3, cs, h, rfl, rfl⟩ | ⟨c, ks, fs, os, e3, k, h, rfl, rfl, rfl, rfl⟩
  · rw [h] at e9
    simp only at e9
    obtain ⟨b1, b2⟩ := rdL_ok h hr.2 (fun _ z => absurd z List.not_mem_nil) (Nat.le_refl _) (fun _ z => absurd z List.not_mem_nil) (by simpa using hrl)
    simp (disch := first | omega | (simp only [List.length_map, List.length_append, List.length_cons, List.length_nil, List.length_reverse, List.length_take, List.length_drop]; omega)) only [evS, evE, evA, evT, evI, evP, Z.bok, look, looks, slot_0, slot_s, getP, bT_nm, bT_tup, bT_nil, bT_cons, setS, pureD_own, pureD_frz, pureD_scr, pureD_tup, pureD_int, pureD_str, pureD_bl, pureD_non, pureD_io, pureD_if, pureD_is, rootP, srcT, srcL, tmps, doCall, nodupB, roots, writeBack, setE, setP, mt_appL, mt_rev, isLst, augS, prS, un, bi, tri, int1, int2, intS, lenS, addS, sumS, listS, tupleS, revS, sliceS, itemS, eqS_int, neS_int, frzD, outS, clr, Z.rest, R.ne, Option.bind_some, Option.bind_none, Option.map_some, Option.map_none, if_true, if_false, List.length_cons, List.length_nil, List.length_map, List.map_cons, List.map_nil, List.set_cons_zero, List.set_cons_succ, List.set_nil, List.replicate_succ, List.replicate_zero, List.nil_append, List.cons_append, Bool.false_eq_true, Bool.not_true, Bool.not_false, Bool.and_true, Bool.true_and, Bool.and_self, Bool.false_and, Bool.and_false, List.contains_cons, List.contains_nil, Bool.or_false, Bool.false_or, Bool.or_self, Nat.reduceBEq, Nat.reduceLT, Nat.reduceAdd, Nat.reduceSub, Nat.reduceEqDiff, reduceIte, reduceCtorEq, Nat.zero_lt_succ, decide_true, decide_false, id_eq, RE_ok, RE_exc, RE_nil, RE_cons, RE_ite, ↓RE_try, RE_hand, RE_handN, LcE_ok, LcE_ite, LcT_ok, bind_ite, bind_exc, cfx, xN, fdIx, nx2_nx, nx2_rt, nx2_bk, nx2_ct, trn_nx, trn_ct, trn_bk, trn_rt, fin_rt, fin_nx, fix_eq, ex_some, ints?_dI, pures_dI, pures_nil, pures_cons, beq_self_eq_true, List.getElem?_cons_zero, List.getElem?_cons_succ, frzDs_dI, atI_0, atI_1, atI_2, stoS_0, stoS_1, dI_app, ltS_int, isTy_int_int, isTy_int_bool, isTy_int_str, isTy_int_tuple, isTy_int_list, isTy_int_NoneType, isTy_bool_int, isTy_bool_bool, isTy_bool_str, isTy_bool_tuple, isTy_bool_list, isTy_bool_NoneType, isTy_str_int, isTy_str_bool, isTy_str_str, isTy_str_tuple, isTy_str_list, isTy_str_NoneType, isTy_tuple_int, isTy_tuple_bool, isTy_tuple_str, isTy_tuple_tuple, isTy_tuple_list, isTy_tuple_NoneType, isTy_list_int, isTy_list_bool, isTy_list_str, isTy_list_tuple, isTy_list_list, isTy_list_NoneType, dI_snoc, own_scr, mt_pop', mt_popI, smallOk, smallLt, bd_int, bd_nat, if_pos, if_neg, eqS_int, neS_int, decide_eq_true_eq, Bool.not_eq_true', decide_eq_false_iff_not, ← List.map_drop, ← List.map_take, ← List.map_reverse, Int.toNat_natCast, Int.reduceToNat, ite_self, and_self, and_true, true_and, frzDs, List.reverse_cons, List.reverse_nil, Option.toList_some, Option.toList_none, List.all_cons, List.all_nil, List.length_append, b10, e9, pures_pD, b10_1, e3, b10_3, rep_cDs b1 b2, neS_str, eqS_str, eqS_lst (dep_pD row)]
  · rw [h] at e9
    simp only at e9
    have hk := rdL_err h
    simp (disch := first | omega | (simp only [List.length_map, List.length_append, List.length_cons, List.length_nil, List.length_reverse, List.length_take, List.length_drop]; omega)) only [evS, evE, evA, evT, evI, evP, Z.bok, look, looks, slot_0, slot_s, getP, bT_nm, bT_tup, bT_nil, bT_cons, setS, pureD_own, pureD_frz, pureD_scr, pureD_tup, pureD_int, pureD_str, pureD_bl, pureD_non, pureD_io, pureD_if, pureD_is, rootP, srcT, srcL, tmps, doCall, nodupB, roots, writeBack, setE, setP, mt_appL, mt_rev, isLst, augS, prS, un, bi, tri, int1, int2, intS, lenS, addS, sumS, listS, tupleS, revS, sliceS, itemS, eqS_int, neS_int, frzD, outS, clr, Z.rest, R.ne, Option.bind_some, Option.bind_none, Option.map_some, Option.map_none, if_true, if_false, List.length_cons, List.length_nil, List.length_map, List.map_cons, List.map_nil, List.set_cons_zero, List.set_cons_succ, List.set_nil, List.replicate_succ, List.replicate_zero, List.nil_append, List.cons_append, Bool.false_eq_true, Bool.not_true, Bool.not_false, Bool.and_true, Bool.true_and, Bool.and_self, Bool.false_and, Bool.and_false, List.contains_cons, List.contains_nil, Bool.or_false, Bool.false_or, Bool.or_self, Nat.reduceBEq, Nat.reduceLT, Nat.reduceAdd, Nat.reduceSub, Nat.reduceEqDiff, reduceIte, reduceCtorEq, Nat.zero_lt_succ, decide_true, decide_false, id_eq, RE_ok, RE_exc, RE_nil, RE_cons, RE_ite, ↓RE_try, RE_hand, RE_handN, LcE_ok, LcE_ite, LcT_ok, bind_ite, bind_exc, cfx, xN, fdIx, nx2_nx, nx2_rt, nx2_bk, nx2_ct, trn_nx, trn_ct, trn_bk, trn_rt, fin_rt, fin_nx, fix_eq, ex_some, ints?_dI, pures_dI, pures_nil, pures_cons, beq_self_eq_true, List.getElem?_cons_zero, List.getElem?_cons_succ, frzDs_dI, atI_0, atI_1, atI_2, stoS_0, stoS_1, dI_app, ltS_int, isTy_int_int, isTy_int_bool, isTy_int_str, isTy_int_tuple, isTy_int_list, isTy_int_NoneType, isTy_bool_int, isTy_bool_bool, isTy_bool_str, isTy_bool_tuple, isTy_bool_list, isTy_bool_NoneType, isTy_str_int, isTy_str_bool, isTy_str_str, isTy_str_tuple, isTy_str_list, isTy_str_NoneType, isTy_tuple_int, isTy_tuple_bool, isTy_tuple_str, isTy_tuple_tuple, isTy_tuple_list, isTy_tuple_NoneType, isTy_list_int, isTy_list_bool, isTy_list_str, isTy_list_tuple, isTy_list_list, isTy_list_NoneType, dI_snoc, own_scr, mt_pop', mt_popI, smallOk, smallLt, bd_int, bd_nat, if_pos, if_neg, eqS_int, neS_int, decide_eq_true_eq, Bool.not_eq_true', decide_eq_false_iff_not, ← List.map_drop, ← List.map_take, ← List.map_reverse, Int.toNat_natCast, Int.reduceToNat, ite_self, and_self, and_true, true_and, frzDs, List.reverse_cons, List.reverse_nil, Option.toList_some, Option.toList_none, List.all_cons, List.all_nil, List.length_append, b10, e9, pures_pD, b10_1, e3, b10_2, rep_bad k (by simp at hk; omega), eqS_str, eqS_lst (dep_pD row)]
theorem c_pow1018 : (0 ≤ (18 : Int) ∧ (PySem.Builtin.Int.intBits 10 : Int) * 18 ≤ 2 ^ 27) = True := eq_true (by decide +kernel)
theorem atI_map {α : Type} {f : α → D} {l : List α} {k : Nat} {x : α} (h : l[k]? = some x) : L2.atI (l.map f) (k : Int) = some (f x) := atI_nat (by rw [List.getElem?_map, h]; rfl)
theorem pD_eq {n : Int} {x : List Int} : pD (n, x) = .tup [.int n, cD x] := rfl
theorem r11 (n : Nat) (p : List Int) (f f2 : Fl) (hf2 : f2 ≠ .scr) (row : List (Int × List Int)) (cs : List (List Int)) (k m : Nat) (x y c : List Int) (hp : 2 ≤ p.length) (hx : row[k]? = some ((m : Int), x)) (hy : (([] : List Int) :: cs)[k]? = some y) (hc : cs[k]? = some c) (hcs : cs.length ≤ 100)
    (x1 : x.length ≤ 62 ∧ okV x) (y1 : y.length ≤ 62 ∧ okV y) (c1 : c.length ≤ 62 ∧ okV c) :
    ∃ (p' : List Int) (ps : List (Int × List Int)), run ft (n+2) 11 [.lst .own (dI p), .lst f (row.map pD), .lst f2 (cDs cs), .int k] = .ok (.lst .own (ps.map pD)) [.lst .own (dI p'), .lst f (row.map pD), .lst f2 (cDs cs), .int k] ∧ 2 ≤ p'.length ∧ ps.length ≤ 12 ∧ ∀ q ∈ ps, q.2.length ≤ 200 ∧ okV q.2 := by
  have key : ∃ d os, run ft (n+2) 11 [.lst .own (dI p), .lst f (row.map pD), .lst f2 (cDs cs), .int k] = .ok d os ∧ ∃ (p' : List Int) (ps : List (Int × List Int)), d = .lst .own (ps.map pD) ∧ os = [.lst .own (dI p'), .lst f (row.map pD), .lst f2 (cDs cs), .int k] ∧ 2 ≤ p'.length ∧ ps.length ≤ 12 ∧ ∀ q ∈ ps, q.2.length ≤ 200 ∧ okV q.2 := by
    refine RE.of (fn := f11) rfl rfl ?_
    simp only [f11]
    obtain ⟨p1, a1, e1, q1, l1, u1⟩ := r5 n p 4 (by decide) hp
    obtain ⟨s, rfl⟩ := Int.eq_ofNat_of_zero_le l1
    have hn2 : (f2 != Fl.scr) = true := by cases f2 <;> first | rfl | exact absurd rfl hf2
    obtain ⟨acc, env', h1, p5, fresh, l9', rfl, rfl, h4, h5, h6⟩ := lc_goT (el := fun env => evE (run ft (n+1)) e11_1 env) (tg := .nm 12) (own := [12]) (xs := rangeD 0 s 1) (acc := [])
      (env := [some (.lst .own (dI p1)), some (.lst f (row.map pD)), some (.lst f2 (cDs cs)), some (.int k), some (cD y), some (cD ((y.drop m).take 1 ++ x)), none, none, none, none, some (.int m), some (cD x), none])
      (fun rest acc env => ∃ (p : List Int) (fresh : List Int) (l9 : Option D), env = [some (.lst .own (dI p)), some (.lst f (row.map pD)), some (.lst f2 (cDs cs)), some (.int k), some (cD y), some (cD ((y.drop m).take 1 ++ x)), none, none, none, none, some (.int m), some (cD x), l9] ∧ acc = dI fresh ∧ 2 ≤ p.length ∧ fresh.length + rest.length = s ∧ okV fresh)
      (by
        rintro d xs acc env ⟨p, fresh, l9, rfl, rfl, hp, hl, hv⟩
        rw [List.length_cons] at hl
        obtain ⟨p6, a6, e6, q6, l6, u6⟩ := r5 n p 3 (by decide) hp
        simp (disch := first | omega | (simp only [List.length_map, List.length_append, List.length_cons, List.length_nil, List.length_reverse, List.length_take, List.length_drop]; omega)) only [evS, evE, evA, evT, evI, evP, Z.bok, look, looks, slot_0, slot_s, getP, bT_nm, bT_tup, bT_nil, bT_cons, setS, pureD_own, pureD_frz, pureD_scr, pureD_tup, pureD_int, pureD_str, pureD_bl, pureD_non, pureD_io, pureD_if, pureD_is, rootP, srcT, srcL, tmps, doCall, nodupB, roots, writeBack, setE, setP, mt_appL, mt_rev, isLst, augS, prS, un, bi, tri, int1, int2, intS, lenS, addS, sumS, listS, tupleS, revS, sliceS, itemS, eqS_int, neS_int, frzD, outS, clr, Z.rest, R.ne, Option.bind_some, Option.bind_none, Option.map_some, Option.map_none, if_true, if_false, List.length_cons, List.length_nil, List.length_map, List.map_cons, List.map_nil, List.set_cons_zero, List.set_cons_succ, List.set_nil, List.replicate_succ, List.replicate_zero, List.nil_append, List.cons_append, Bool.false_eq_true, Bool.not_true, Bool.not_false, Bool.and_true, Bool.true_and, Bool.and_self, Bool.false_and, Bool.and_false, List.contains_cons, List.contains_nil, Bool.or_false, Bool.false_or, Bool.or_self, Nat.reduceBEq, Nat.reduceLT, Nat.reduceAdd, Nat.reduceSub, Nat.reduceEqDiff, reduceIte, reduceCtorEq, Nat.zero_lt_succ, decide_true, decide_false, id_eq, RE_ok, RE_exc, RE_nil, RE_cons, RE_ite, ↓RE_try, RE_hand, RE_handN, LcE_ok, LcE_ite, LcT_ok, bind_ite, bind_exc, cfx, xN, fdIx, nx2_nx, nx2_rt, nx2_bk, nx2_ct, trn_nx, trn_ct, trn_bk, trn_rt, fin_rt, fin_nx, fix_eq, ex_some, ints?_dI, pures_dI, pures_nil, pures_cons, beq_self_eq_true, List.getElem?_cons_zero, List.getElem?_cons_succ, frzDs_dI, atI_0, atI_1, atI_2, stoS_0, stoS_1, dI_app, ltS_int, isTy_int_int, isTy_int_bool, isTy_int_str, isTy_int_tuple, isTy_int_list, isTy_int_NoneType, isTy_bool_int, isTy_bool_bool, isTy_bool_str, isTy_bool_tuple, isTy_bool_list, isTy_bool_NoneType, isTy_str_int, isTy_str_bool, isTy_str_str, isTy_str_tuple, isTy_str_list, isTy_str_NoneType, isTy_tuple_int, isTy_tuple_bool, isTy_tuple_str, isTy_tuple_tuple, isTy_tuple_list, isTy_tuple_NoneType, isTy_list_int, isTy_list_bool, isTy_list_str, isTy_list_tuple, isTy_list_list, isTy_list_NoneType, dI_snoc, own_scr, mt_pop', mt_popI, smallOk, smallLt, bd_int, bd_nat, if_pos, if_neg, eqS_int, neS_int, decide_eq_true_eq, Bool.not_eq_true', decide_eq_false_iff_not, ← List.map_drop, ← List.map_take, ← List.map_reverse, Int.toNat_natCast, Int.reduceToNat, ite_self, and_self, and_true, true_and, frzDs, List.reverse_cons, List.reverse_nil, Option.toList_some, Option.toList_none, List.all_cons, List.all_nil, List.length_append, e11_1, e6]
        refine ⟨by omega, p6, fresh ++ [a6], _, rfl, rfl, q6, ?_, okV_app hv fun v hv => ?_⟩
        · rw [List.length_append, List.length_singleton]; omega
        · cases List.mem_singleton.mp hv; omega) ⟨p1, [], none, rfl, rfl, q1, by rw [rangeD_length]; simp, fun _ z => absurd z List.not_mem_nil⟩
    simp only [List.length_nil, Nat.add_zero] at h5
    obtain ⟨p6, a6, e6, q6, l6, u6⟩ := r5 n p5 900 (by decide) h4
    obtain ⟨p7, a7, e7, q7, l7, u7⟩ := r5 n p6 ((m : Int) + 1) (by omega) q6
    obtain ⟨g, rfl⟩ := Int.eq_ofNat_of_zero_le l7
    have ay : L2.atI (D.tup [] :: cDs cs) (k : Int) = some (cD y) := atI_map (f := cD) (l := [] :: cs) hy
    have py : pures [D.tup []] = true := rfl
    have z1 := x1.1
    have z2 := y1.1
    have z3 := c1.1
    have ax : L2.atI (row.map pD) (k : Int) = some (.tup [.int m, cD x]) := atI_map hx
    have ac : L2.atI (cDs cs) (k : Int) = some (cD c) := atI_map hc
    simp (disch := first | omega | (simp only [List.length_map, List.length_append, List.length_cons, List.length_nil, List.length_reverse, List.length_take, List.length_drop]; omega)) only [evS, evE, evA, evT, evI, evP, Z.bok, look, looks, slot_0, slot_s, getP, bT_nm, bT_tup, bT_nil, bT_cons, setS, pureD_own, pureD_frz, pureD_scr, pureD_tup, pureD_int, pureD_str, pureD_bl, pureD_non, pureD_io, pureD_if, pureD_is, rootP, srcT, srcL, tmps, doCall, nodupB, roots, writeBack, setE, setP, mt_appL, mt_rev, isLst, augS, prS, un, bi, tri, int1, int2, intS, lenS, addS, sumS, listS, tupleS, revS, sliceS, itemS, eqS_int, neS_int, frzD, outS, clr, Z.rest, R.ne, Option.bind_some, Option.bind_none, Option.map_some, Option.map_none, if_true, if_false, List.length_cons, List.length_nil, List.length_map, List.map_cons, List.map_nil, List.set_cons_zero, List.set_cons_succ, List.set_nil, List.replicate_succ, List.replicate_zero, List.nil_append, List.cons_append, Bool.false_eq_true, Bool.not_true, Bool.not_false, Bool.and_true, Bool.true_and, Bool.and_self, Bool.false_and, Bool.and_false, List.contains_cons, List.contains_nil, Bool.or_false, Bool.false_or, Bool.or_self, Nat.reduceBEq, Nat.reduceLT, Nat.reduceAdd, Nat.reduceSub, Nat.reduceEqDiff, reduceIte, reduceCtorEq, Nat.zero_lt_succ, decide_true, decide_false, id_eq, RE_ok, RE_exc, RE_nil, RE_cons, RE_ite, ↓RE_try, RE_hand, RE_handN, LcE_ok, LcE_ite, LcT_ok, bind_ite, bind_exc, cfx, xN, fdIx, nx2_nx, nx2_rt, nx2_bk, nx2_ct, trn_nx, trn_ct, trn_bk, trn_rt, fin_rt, fin_nx, fix_eq, ex_some, ints?_dI, pures_dI, pures_nil, pures_cons, beq_self_eq_true, List.getElem?_cons_zero, List.getElem?_cons_succ, frzDs_dI, atI_0, atI_1, atI_2, stoS_0, stoS_1, dI_app, ltS_int, isTy_int_int, isTy_int_bool, isTy_int_str, isTy_int_tuple, isTy_int_list, isTy_int_NoneType, isTy_bool_int, isTy_bool_bool, isTy_bool_str, isTy_bool_tuple, isTy_bool_list, isTy_bool_NoneType, isTy_str_int, isTy_str_bool, isTy_str_str, isTy_str_tuple, isTy_str_list, isTy_str_NoneType, isTy_tuple_int, isTy_tuple_bool, isTy_tuple_str, isTy_tuple_tuple, isTy_tuple_list, isTy_tuple_NoneType, isTy_list_int, isTy_list_bool, isTy_list_str, isTy_list_tuple, isTy_list_list, isTy_list_NoneType, dI_snoc, own_scr, mt_pop', mt_popI, smallOk, smallLt, bd_int, bd_nat, if_pos, if_neg, eqS_int, neS_int, decide_eq_true_eq, Bool.not_eq_true', decide_eq_false_iff_not, ← List.map_drop, ← List.map_take, ← List.map_reverse, Int.toNat_natCast, Int.reduceToNat, ite_self, and_self, and_true, true_and, frzDs, List.reverse_cons, List.reverse_nil, Option.toList_some, Option.toList_none, List.all_cons, List.all_nil, List.length_append, b11, ax, ay, py, pures_cD, hn2, cut_map, cut_one, cut_drop, e1, h1, c_pow1018, e6, e7, ac]
    have yv : okV ((y.drop m).take 1 ++ x) := okV_app (okV_take (okV_drop y1.2)) x1.2
    have yl : ((y.drop m).take 1 ++ x).length ≤ 200 := by rw [List.length_append, List.length_take]; omega
    refine ⟨p7, [((m : Int) + 1, x), ((m : Int) - 1, x), (10 ^ 18 + a6, x), (-(10 ^ 18 + a6), x), (0, x), ((y.length : Nat), x), ((m : Int), []), ((m : Int), fresh), ((m : Int), x ++ fresh), ((m : Int), y.drop m), ((m : Int), (y.drop m).take 1 ++ x), ((g : Nat), c.drop g)], rfl, rfl, q7, Nat.le_refl 12, ?_⟩
    have xx : x.length ≤ 200 ∧ okV x := ⟨by omega, x1.2⟩
    simp only [List.mem_cons, List.not_mem_nil, or_false]
    rintro q (rfl | rfl | rfl | rfl | rfl | rfl | rfl | rfl | rfl | rfl | rfl | rfl)
    · exact xx
    · exact xx
    · exact xx
    · exact xx
    · exact xx
    · exact xx
    · exact ⟨Nat.zero_le _, fun _ z => absurd z List.not_mem_nil⟩
    · exact ⟨show fresh.length ≤ 200 by omega, h6⟩
    · exact ⟨show (x ++ fresh).length ≤ 200 by rw [List.length_append]; omega, okV_app x1.2 h6⟩
    · exact ⟨show (y.drop m).length ≤ 200 by rw [List.length_drop]; omega, okV_drop y1.2⟩
    · exact ⟨yl, yv⟩
    · exact ⟨show (c.drop g).length ≤ 200 by rw [List.length_drop]; omega, okV_drop c1.2⟩
  obtain ⟨d, os, h, p', ps, rfl, rfl, k⟩ := key
  exact ⟨p', ps, h, k⟩
end Law

namespace Law
open Z

theorem cutL_len : ∀ (p : List Int) (cs : List (List Int)), (cutL p cs).length = cs.length
  | _, [] => rfl
  | p, c :: cs => congrArg (· + 1) (cutL_len c cs)
theorem cutL_at : ∀ (p : List Int) (cs : List (List Int)) (k : Nat) (c : List Int), cs[k]? = some c → ∃ y, (p :: cs)[k]? = some y ∧ (cutL p cs)[k]? = some ((sh c y : Int), c.drop (sh c y))
  | _, [], _, _, h => by simp at h
  | p, d :: cs, 0, c, h => by
    cases h
    exact ⟨p, rfl, rfl⟩
  | p, d :: cs, k + 1, c, h => by
    obtain ⟨y, h1, h2⟩ := cutL_at d cs k c (by simpa using h)
    exact ⟨y, by simpa using h1, by simpa [cutL] using h2⟩
theorem cutL_ok : ∀ (p : List Int) (cs : List (List Int)), (∀ c ∈ cs, okC c) → ∀ q ∈ cutL p cs, q.2.length ≤ 60 ∧ okV q.2
  | _, [], _, q, h => absurd h List.not_mem_nil
  | p, c :: cs, hc, q, h => by
    rcases List.mem_cons.mp h with rfl | h
    · have h1 := hc c List.mem_cons_self
      exact ⟨show (c.drop (sh c p)).length ≤ 60 by rw [List.length_drop]; have := h1.1; omega, okV_drop h1.2⟩
    · exact cutL_ok c cs (fun d hd => hc d (List.mem_cons_of_mem _ hd)) q h
/-- a list of rows -/
abbrev rD (r : List (Int × List Int)) : D := .lst .frz (r.map pD)
theorem frz_pD (l : List (Int × List Int)) : frzDs (l.map pD) = l.map pD := frzDs_map (fun _ => rfl) l
theorem pD_app (a b : List (Int × List Int)) : a.map pD ++ b.map pD = (a ++ b).map pD := List.map_append.symm
theorem rD_snoc (l : List (List (Int × List Int))) (r : List (Int × List Int)) : l.map rD ++ [.lst .frz (r.map pD)] = (l ++ [r]).map rD := map_snoc (f := rD) l r
theorem pD_ap1 (l : List (Int × List Int)) (q : Int × List Int) : l.map pD ++ [pD q] = (l ++ [q]).map pD := map_snoc l q
theorem frzD_l {f : Fl} {ds : List D} : frzD (.lst .own ds) = .lst .frz (frzDs ds) := rfl
theorem okP_cut {l : List (Int × List Int)} (h : ∀ q ∈ l, q.2.length ≤ 60 ∧ okV q.2) {lo hi : Option Int} : ∀ q ∈ cut l lo hi, q.2.length ≤ 60 ∧ okV q.2 := fun q hq => h q (cut_mem hq)
theorem r12 (n : Nat) (p : List Int) (f f2 : Fl) (hf : f ≠ .scr) (hf2 : f2 ≠ .scr) (cs : List (List Int)) (hp : 2 ≤ p.length) (h0 : 0 < cs.length) (h1 : cs.length ≤ 59) (hc : ∀ c ∈ cs, okC c) :
    ∃ (p' : List Int) (rs : List (List (Int × List Int))), run ft (n+3) 12 [.lst .own (dI p), .lst f ((cutL [] cs).map pD), .lst f2 (cDs cs)] = .ok (.lst .own (rs.map rD)) [.lst .own (dI p'), .lst f ((cutL [] cs).map pD), .lst f2 (cDs cs)] ∧ rs.length ≤ 20 ∧ ∀ r ∈ rs, okR r := by
  have key : ∃ d os, run ft (n+3) 12 [.lst .own (dI p), .lst f ((cutL [] cs).map pD), .lst f2 (cDs cs)] = .ok d os ∧ ∃ (p' : List Int) (rs : List (List (Int × List Int))), d = .lst .own (rs.map rD) ∧ os = [.lst .own (dI p'), .lst f ((cutL [] cs).map pD), .lst f2 (cDs cs)] ∧ rs.length ≤ 20 ∧ ∀ r ∈ rs, okR r := by
    refine RE.of (fn := f12) rfl rfl ?_
    simp only [f12]
    have hl := cutL_len [] cs
    obtain ⟨p1, a1, e1, q1, l1, u1⟩ := r5 (n+1) p ((cs.length : Nat) : Int) (by omega) hp
    obtain ⟨k, rfl⟩ := Int.eq_ofNat_of_zero_le l1
    obtain ⟨c, hck⟩ : ∃ c, cs[k]? = some c := ⟨_, List.getElem?_eq_getElem (by omega)⟩
    obtain ⟨y, hy, hx⟩ := cutL_at [] cs k c hck
    have cok := hc c (List.mem_of_getElem? hck)
    have yok : okC y := by
      rcases List.mem_cons.mp (List.mem_of_getElem? hy) with rfl | h
      · exact ⟨Nat.zero_le _, fun _ z => absurd z List.not_mem_nil⟩
      · exact hc y h
    have Rok := cutL_ok [] cs hc
    generalize hR : cutL [] cs = Rw at *
    obtain ⟨p2, ps, e2, q2, lp, ops⟩ := r11 n p1 f f2 hf2 Rw cs k (sh c y) (c.drop (sh c y)) y c q1 hx hy hck (by omega) ⟨by rw [List.length_drop]; have := cok.1; omega, okV_drop cok.2⟩ ⟨by have := yok.1; omega, yok.2⟩ ⟨by have := cok.1; omega, cok.2⟩
    have hn : (f != Fl.scr) = true := by cases f <;> first | rfl | exact absurd rfl hf
    have la : (Rw.take k).length = k := by rw [List.length_take]; omega
    have lb : (Rw.drop (k + 1)).length = Rw.length - (k + 1) := by rw [List.length_drop]
    have lx : ((Rw.drop k).take 1).length ≤ 1 := by rw [List.length_take]; omega
    have up : ∀ {l : List (Int × List Int)}, (∀ q ∈ l, q ∈ Rw) → ∀ q ∈ l, q.2.length ≤ 200 ∧ okV q.2 := fun h q hq => ⟨by have := (Rok q (h q hq)).1; omega, (Rok q (h q hq)).2⟩
    have pa := up (l := Rw.take k) fun q hq => List.mem_of_mem_take hq
    have pb := up (l := Rw.drop (k + 1)) fun q hq => List.mem_of_mem_drop hq
    have px := up (l := (Rw.drop k).take 1) fun q hq => List.mem_of_mem_drop (List.mem_of_mem_take hq)
    generalize hA : Rw.take k = A at *
    generalize hB : Rw.drop (k + 1) = B at *
    generalize hX : (Rw.drop k).take 1 = Xx at *
    have lb1 : (B.take 1).length + (B.drop 1).length = B.length := by rw [List.length_take, List.length_drop]; omega
    have ap : ∀ {a b : List (Int × List Int)}, (∀ q ∈ a, q.2.length ≤ 200 ∧ okV q.2) → (∀ q ∈ b, q.2.length ≤ 200 ∧ okV q.2) → ∀ q ∈ a ++ b, q.2.length ≤ 200 ∧ okV q.2 := fun h1 h2 q hq => (List.mem_append.mp hq).elim (h1 q) (h2 q)
    have pb1 : ∀ q ∈ B.take 1, q.2.length ≤ 200 ∧ okV q.2 := fun q hq => pb q (List.mem_of_mem_take hq)
    have pb2 : ∀ q ∈ B.drop 1, q.2.length ≤ 200 ∧ okV q.2 := fun q hq => pb q (List.mem_of_mem_drop hq)
    have e1' : run ft (n+2) 5 [.lst .own (dI p), .int (Rw.length : Nat)] = .ok (.int k) [.lst .own (dI p1), .int (Rw.length : Nat)] := by rw [hl]; exact e1
    have t1 : ∀ {l : List (Int × List Int)}, cut l none (some 1) = l.take 1 := cut_take (by decide)
    have t2 : ∀ {l : List (Int × List Int)}, cut l (some 1) none = l.drop 1 := cut_drop (by decide)
    have t3 : ∀ {l : List (Int × List Int)}, cut l none (some (k : Int)) = l.take k := cut_take (by omega)
    have t4 : ∀ {l : List (Int × List Int)}, cut l (some ((k : Int) + 1)) none = l.drop (k + 1) := cut_drop (by omega)
    simp (disch := first | omega | (simp only [List.length_map, List.length_append, List.length_cons, List.length_nil, List.length_reverse, List.length_take, List.length_drop]; omega)) only [evS, evE, evA, evT, evI, evP, Z.bok, look, looks, slot_0, slot_s, getP, bT_nm, bT_tup, bT_nil, bT_cons, setS, pureD_own, pureD_frz, pureD_scr, pureD_tup, pureD_int, pureD_str, pureD_bl, pureD_non, pureD_io, pureD_if, pureD_is, rootP, srcT, srcL, tmps, doCall, nodupB, roots, writeBack, setE, setP, mt_appL, mt_rev, isLst, augS, prS, un, bi, tri, int1, int2, intS, lenS, addS, sumS, listS, tupleS, revS, sliceS, itemS, eqS_int, neS_int, frzD, outS, clr, Z.rest, R.ne, Option.bind_some, Option.bind_none, Option.map_some, Option.map_none, if_true, if_false, List.length_cons, List.length_nil, List.length_map, List.map_cons, List.map_nil, List.set_cons_zero, List.set_cons_succ, List.set_nil, List.replicate_succ, List.replicate_zero, List.nil_append, List.cons_append, Bool.false_eq_true, Bool.not_true, Bool.not_false, Bool.and_true, Bool.true_and, Bool.and_self, Bool.false_and, Bool.and_false, List.contains_cons, List.contains_nil, Bool.or_false, Bool.false_or, Bool.or_self, Nat.reduceBEq, Nat.reduceLT, Nat.reduceAdd, Nat.reduceSub, Nat.reduceEqDiff, reduceIte, reduceCtorEq, Nat.zero_lt_succ, decide_true, decide_false, id_eq, RE_ok, RE_exc, RE_nil, RE_cons, RE_ite, ↓RE_try, RE_hand, RE_handN, LcE_ok, LcE_ite, LcT_ok, bind_ite, bind_exc, cfx, xN, fdIx, nx2_nx, nx2_rt, nx2_bk, nx2_ct, trn_nx, trn_ct, trn_bk, trn_rt, fin_rt, fin_nx, fix_eq, ex_some, ints?_dI, pures_dI, pures_nil, pures_cons, beq_self_eq_true, List.getElem?_cons_zero, List.getElem?_cons_succ, frzDs_dI, atI_0, atI_1, atI_2, stoS_0, stoS_1, dI_app, ltS_int, isTy_int_int, isTy_int_bool, isTy_int_str, isTy_int_tuple, isTy_int_list, isTy_int_NoneType, isTy_bool_int, isTy_bool_bool, isTy_bool_str, isTy_bool_tuple, isTy_bool_list, isTy_bool_NoneType, isTy_str_int, isTy_str_bool, isTy_str_str, isTy_str_tuple, isTy_str_list, isTy_str_NoneType, isTy_tuple_int, isTy_tuple_bool, isTy_tuple_str, isTy_tuple_tuple, isTy_tuple_list, isTy_tuple_NoneType, isTy_list_int, isTy_list_bool, isTy_list_str, isTy_list_tuple, isTy_list_list, isTy_list_NoneType, dI_snoc, own_scr, mt_pop', mt_popI, smallOk, smallLt, bd_int, bd_nat, if_pos, if_neg, eqS_int, neS_int, decide_eq_true_eq, Bool.not_eq_true', decide_eq_false_iff_not, ← List.map_drop, ← List.map_take, ← List.map_reverse, Int.toNat_natCast, Int.reduceToNat, ite_self, and_self, and_true, true_and, frzDs, List.reverse_cons, List.reverse_nil, Option.toList_some, Option.toList_none, List.all_cons, List.all_nil, List.length_append, b12, e1', pures_pD, cut_map, cut_one, t1, t2, t3, t4, hA, hB, hX, hn, pD_app, frzD_l, frz_pD, e2]
    refine RE.goM (fun rest env => ∃ (rs : List (List (Int × List Int))) (l8 : Option D), env = [some (.lst .own (dI p2)), some (.lst f (Rw.map pD)), some (.lst f2 (cDs cs)), some (.int k), some (.lst .own (A.map pD)), some (.lst .own (B.map pD)), some (.lst .own (Xx.map pD)), some (.lst .own (rs.map rD)), l8] ∧ rs.length + rest.length ≤ 20 ∧ (∀ r ∈ rs, okR r) ∧ ∀ q ∈ rest, q.2.length ≤ 200 ∧ okV q.2) ?_ ?_ ⟨[A ++ B, A ++ Xx ++ Xx ++ B, A ++ B.take 1 ++ Xx ++ B.drop 1], none, rfl, by simp only [List.length_cons, List.length_nil]; omega, ?_, ops⟩
    · rintro q xs env ⟨rs, l8, rfl, k1, k2, k3⟩
      rw [List.length_cons] at k1
      have pq : pureD (pD q) = true := rfl
      simp (disch := first | omega | (simp only [List.length_map, List.length_append, List.length_cons, List.length_nil, List.length_reverse, List.length_take, List.length_drop]; omega)) only [evS, evE, evA, evT, evI, evP, Z.bok, look, looks, slot_0, slot_s, getP, bT_nm, bT_tup, bT_nil, bT_cons, setS, pureD_own, pureD_frz, pureD_scr, pureD_tup, pureD_int, pureD_str, pureD_bl, pureD_non, pureD_io, pureD_if, pureD_is, rootP, srcT, srcL, tmps, doCall, nodupB, roots, writeBack, setE, setP, mt_appL, mt_rev, isLst, augS, prS, un, bi, tri, int1, int2, intS, lenS, addS, sumS, listS, tupleS, revS, sliceS, itemS, eqS_int, neS_int, frzD, outS, clr, Z.rest, R.ne, Option.bind_some, Option.bind_none, Option.map_some, Option.map_none, if_true, if_false, List.length_cons, List.length_nil, List.length_map, List.map_cons, List.map_nil, List.set_cons_zero, List.set_cons_succ, List.set_nil, List.replicate_succ, List.replicate_zero, List.nil_append, List.cons_append, Bool.false_eq_true, Bool.not_true, Bool.not_false, Bool.and_true, Bool.true_and, Bool.and_self, Bool.false_and, Bool.and_false, List.contains_cons, List.contains_nil, Bool.or_false, Bool.false_or, Bool.or_self, Nat.reduceBEq, Nat.reduceLT, Nat.reduceAdd, Nat.reduceSub, Nat.reduceEqDiff, reduceIte, reduceCtorEq, Nat.zero_lt_succ, decide_true, decide_false, id_eq, RE_ok, RE_exc, RE_nil, RE_cons, RE_ite, ↓RE_try, RE_hand, RE_handN, LcE_ok, LcE_ite, LcT_ok, bind_ite, bind_exc, cfx, xN, fdIx, nx2_nx, nx2_rt, nx2_bk, nx2_ct, trn_nx, trn_ct, trn_bk, trn_rt, fin_rt, fin_nx, fix_eq, ex_some, ints?_dI, pures_dI, pures_nil, pures_cons, beq_self_eq_true, List.getElem?_cons_zero, List.getElem?_cons_succ, frzDs_dI, atI_0, atI_1, atI_2, stoS_0, stoS_1, dI_app, ltS_int, isTy_int_int, isTy_int_bool, isTy_int_str, isTy_int_tuple, isTy_int_list, isTy_int_NoneType, isTy_bool_int, isTy_bool_bool, isTy_bool_str, isTy_bool_tuple, isTy_bool_list, isTy_bool_NoneType, isTy_str_int, isTy_str_bool, isTy_str_str, isTy_str_tuple, isTy_str_list, isTy_str_NoneType, isTy_tuple_int, isTy_tuple_bool, isTy_tuple_str, isTy_tuple_tuple, isTy_tuple_list, isTy_tuple_NoneType, isTy_list_int, isTy_list_bool, isTy_list_str, isTy_list_tuple, isTy_list_list, isTy_list_NoneType, dI_snoc, own_scr, mt_pop', mt_popI, smallOk, smallLt, bd_int, bd_nat, if_pos, if_neg, eqS_int, neS_int, decide_eq_true_eq, Bool.not_eq_true', decide_eq_false_iff_not, ← List.map_drop, ← List.map_take, ← List.map_reverse, Int.toNat_natCast, Int.reduceToNat, ite_self, and_self, and_true, true_and, frzDs, List.reverse_cons, List.reverse_nil, Option.toList_some, Option.toList_none, List.all_cons, List.all_nil, List.length_append, b12_1, pures_pD, pq, pD_ap1, pD_app, frzD_l, frz_pD, rD_snoc]
      refine ⟨rs ++ [A ++ [q] ++ B], _, rfl, by rw [List.length_append, List.length_singleton]; omega, fun r hr => ?_, fun q hq => k3 q (List.mem_cons_of_mem _ hq)⟩
      rcases List.mem_append.mp hr with hr | hr
      · exact k2 r hr
      · cases List.mem_singleton.mp hr
        refine ⟨by rw [List.length_append, List.length_append, List.length_singleton]; omega, ap (ap pa fun z hz => ?_) pb⟩
        cases List.mem_singleton.mp hz
        exact k3 q List.mem_cons_self
    · rintro env ⟨rs, l8, rfl, k1, k2, k3⟩
      simp (disch := first | omega | (simp only [List.length_map, List.length_append, List.length_cons, List.length_nil, List.length_reverse, List.length_take, List.length_drop]; omega)) only [evS, evE, evA, evT, evI, evP, Z.bok, look, looks, slot_0, slot_s, getP, bT_nm, bT_tup, bT_nil, bT_cons, setS, pureD_own, pureD_frz, pureD_scr, pureD_tup, pureD_int, pureD_str, pureD_bl, pureD_non, pureD_io, pureD_if, pureD_is, rootP, srcT, srcL, tmps, doCall, nodupB, roots, writeBack, setE, setP, mt_appL, mt_rev, isLst, augS, prS, un, bi, tri, int1, int2, intS, lenS, addS, sumS, listS, tupleS, revS, sliceS, itemS, eqS_int, neS_int, frzD, outS, clr, Z.rest, R.ne, Option.bind_some, Option.bind_none, Option.map_some, Option.map_none, if_true, if_false, List.length_cons, List.length_nil, List.length_map, List.map_cons, List.map_nil, List.set_cons_zero, List.set_cons_succ, List.set_nil, List.replicate_succ, List.replicate_zero, List.nil_append, List.cons_append, Bool.false_eq_true, Bool.not_true, Bool.not_false, Bool.and_true, Bool.true_and, Bool.and_self, Bool.false_and, Bool.and_false, List.contains_cons, List.contains_nil, Bool.or_false, Bool.false_or, Bool.or_self, Nat.reduceBEq, Nat.reduceLT, Nat.reduceAdd, Nat.reduceSub, Nat.reduceEqDiff, reduceIte, reduceCtorEq, Nat.zero_lt_succ, decide_true, decide_false, id_eq, RE_ok, RE_exc, RE_nil, RE_cons, RE_ite, ↓RE_try, RE_hand, RE_handN, LcE_ok, LcE_ite, LcT_ok, bind_ite, bind_exc, cfx, xN, fdIx, nx2_nx, nx2_rt, nx2_bk, nx2_ct, trn_nx, trn_ct, trn_bk, trn_rt, fin_rt, fin_nx, fix_eq, ex_some, ints?_dI, pures_dI, pures_nil, pures_cons, beq_self_eq_true, List.getElem?_cons_zero, List.getElem?_cons_succ, frzDs_dI, atI_0, atI_1, atI_2, stoS_0, stoS_1, dI_app, ltS_int, isTy_int_int, isTy_int_bool, isTy_int_str, isTy_int_tuple, isTy_int_list, isTy_int_NoneType, isTy_bool_int, isTy_bool_bool, isTy_bool_str, isTy_bool_tuple, isTy_bool_list, isTy_bool_NoneType, isTy_str_int, isTy_str_bool, isTy_str_str, isTy_str_tuple, isTy_str_list, isTy_str_NoneType, isTy_tuple_int, isTy_tuple_bool, isTy_tuple_str, isTy_tuple_tuple, isTy_tuple_list, isTy_tuple_NoneType, isTy_list_int, isTy_list_bool, isTy_list_str, isTy_list_tuple, isTy_list_list, isTy_list_NoneType, dI_snoc, own_scr, mt_pop', mt_popI, smallOk, smallLt, bd_int, bd_nat, if_pos, if_neg, eqS_int, neS_int, decide_eq_true_eq, Bool.not_eq_true', decide_eq_false_iff_not, ← List.map_drop, ← List.map_take, ← List.map_reverse, Int.toNat_natCast, Int.reduceToNat, ite_self, and_self, and_true, true_and, frzDs, List.reverse_cons, List.reverse_nil, Option.toList_some, Option.toList_none, List.all_cons, List.all_nil, List.length_append, b12_2]
      exact ⟨p2, rs, rfl, rfl, by simpa using k1, k2⟩
    · intro r hr
      simp only [List.mem_cons, List.not_mem_nil, or_false] at hr
      rcases hr with rfl | rfl | rfl
      · exact ⟨by rw [List.length_append]; omega, ap pa pb⟩
      · exact ⟨by rw [List.length_append, List.length_append, List.length_append]; omega, ap (ap (ap pa px) px) pb⟩
      · exact ⟨by rw [List.length_append, List.length_append, List.length_append]; omega, ap (ap (ap pa pb1) px) pb2⟩
  obtain ⟨d, os, h, p', rs, rfl, rfl, k⟩ := key
  exact ⟨p', rs, h, k⟩
end Law

namespace Law
open Z

theorem sh_pre : ∀ (c p : List Int), c.take (sh c p) = p.take (sh c p)
  | [], p => by simp [sh]
  | x :: c, [] => by simp [sh]
  | x :: c, y :: p => by
    rw [sh]
    split
    · rename_i e
      rw [List.take_succ_cons, List.take_succ_cons, e, sh_pre c p]
    · rfl
theorem rd_cut : ∀ (cs : List (List Int)) (p : List Int) (acc : List (List Int)), rdL p acc (cutL p cs) = .ok (acc ++ cs)
  | [], p, acc => by rw [cutL, rdL, List.append_nil]
  | c :: cs, p, acc => by
    have h1 := sh_le c p
    have e : p.take (sh c p) ++ c.drop (sh c p) = c := by rw [← sh_pre, List.take_append_drop]
    have hb := (bad_iff (a := p) (x := c.drop (sh c p)) (n := sh c p) (by omega)).mp (by rw [e])
    rw [cutL, rdL, if_neg (by omega), Int.toNat_natCast, if_neg (fun h => hb ⟨by omega, h.2⟩), e, rd_cut cs c, List.append_assoc]
    rfl
theorem rep_pD {f : Fl} {l : List (Int × List Int)} (h : l.length ≤ 62) (k : ∀ q ∈ l, q.2.length ≤ 60 ∧ okV q.2) (ki : ∀ q ∈ l, 0 ≤ q.1 ∧ q.1 ≤ 60) : reprS (.lst f (l.map pD)) = some (.str (shwL (l.map pD))) :=
  reprL 100 (fun x => by
    show depDs 58 [D.int x.1, cD x.2] = true
    rw [dep_s, dep_s, dep_i, show depD 58 (cD x.2) = true from dep_dI (n := 57) x.2, dep_n]
    rfl) (fun q hq => by
    show (smD (.int q.1) && (smDs (dI q.2) && true)) = true
    rw [sm_int (by have := ki q hq; omega), sm_dI q.2 fun v hv => by have := (k q hq).2 v hv; omega]
    rfl) (fun q hq => by
    show 0 + 1 + (bkDs (dI q.2) + 1 + 0) ≤ 100
    rw [bk_dI]
    have := (k q hq).1
    omega) (by omega)
theorem cutL_n : ∀ (p : List Int) (cs : List (List Int)), (∀ c ∈ cs, okC c) → ∀ q ∈ cutL p cs, 0 ≤ q.1 ∧ q.1 ≤ 60
  | _, [], _, q, h => absurd h List.not_mem_nil
  | p, c :: cs, hc, q, h => by
    rcases List.mem_cons.mp h with rfl | h
    · have h1 := (hc c List.mem_cons_self).1
      have h2 := sh_le c p
      exact ⟨Int.natCast_nonneg _, show ((sh c p : Nat) : Int) ≤ 60 by omega⟩
    · exact cutL_n c cs (fun d hd => hc d (List.mem_cons_of_mem _ hd)) q h
def cL (cs : List (List Int)) : D := .lst .frz (cDs cs)
theorem okC_12 : okC [1, 2] := ⟨by decide, fun v hv => by
  rcases List.mem_cons.mp hv with rfl | hv
  · decide
  · cases List.mem_singleton.mp hv; decide⟩
theorem all_true (l : List (List (Int × List Int))) : allS (.lst .own (l.map fun _ => D.bl true)) = some (.bl true) := by
  have h : ∀ l : List (List (Int × List Int)), bools? (l.map fun _ => D.bl true) = some (l.map fun _ => true) := fun l => by
    induction l with
    | nil => rfl
    | cons a l ih =>
      show (bools? (l.map fun _ => D.bl true)).map (true :: ·) = _
      rw [ih]
      rfl
  show ((bools? (l.map fun _ => D.bl true)).map fun bs => D.bl (bs.all id)) = _
  rw [h]
  show some (D.bl ((l.map fun _ => true).all id)) = _
  rw [show (l.map fun _ => true).all id = true from by simp]
theorem cs_rev {cs : List (List Int)} : (cDs cs).reverse = cDs cs.reverse := List.map_reverse.symm
theorem law_true : ∀ ns : List Int, ns.length ≤ 63 → ∃ outs, run ft 6 13 [scriptD ns] = .ok (.bl true) outs := by
  intro ns hns
  obtain ⟨p, e1, hp⟩ := r4 4 ns hns
  obtain ⟨p2, cs0, e2, hp2, cl, cok⟩ := r6 3 p hp
  have key : ∃ d os, run ft 6 13 [scriptD ns] = .ok d os ∧ d = .bl true := by
    refine RE.of (fn := f13) rfl rfl ?_
    simp only [f13]
    have hcs : ∀ c ∈ cs0 ++ [[1, 2]], okC c := fun c hc => (List.mem_append.mp hc).elim (cok c) fun h => by cases List.mem_singleton.mp h; exact okC_12
    have hlen : (cs0 ++ [[1, 2]]).length ≤ 59 := by rw [List.length_append, List.length_singleton]; omega
    have hpos : 0 < (cs0 ++ [[1, 2]]).length := by rw [List.length_append, List.length_singleton]; omega
    have e12 : cDs cs0 ++ [D.tup [D.int 1, D.int 2]] = cDs (cs0 ++ [[1, 2]]) := map_snoc (f := cD) cs0 [1, 2]
    generalize hC : cs0 ++ [[1, 2]] = cs at *
    have t1 : cut cs none (some 1) = cs.take 1 := cut_take (by decide)
    have app : ∀ a b : List (List Int), cDs a ++ cDs b = cDs (a ++ b) := fun a b => List.map_append.symm
    simp (disch := first | omega | (simp only [List.length_map, List.length_append, List.length_cons, List.length_nil, List.length_reverse, List.length_take, List.length_drop]; omega)) only [evS, evE, evA, evT, evI, evP, Z.bok, look, looks, slot_0, slot_s, getP, bT_nm, bT_tup, bT_nil, bT_cons, setS, pureD_own, pureD_frz, pureD_scr, pureD_tup, pureD_int, pureD_str, pureD_bl, pureD_non, pureD_io, pureD_if, pureD_is, rootP, srcT, srcL, tmps, doCall, nodupB, roots, writeBack, setE, setP, mt_appL, mt_rev, isLst, augS, prS, un, bi, tri, int1, int2, intS, lenS, addS, sumS, listS, tupleS, revS, sliceS, itemS, eqS_int, neS_int, frzD, outS, clr, Z.rest, R.ne, Option.bind_some, Option.bind_none, Option.map_some, Option.map_none, if_true, if_false, List.length_cons, List.length_nil, List.length_map, List.map_cons, List.map_nil, List.set_cons_zero, List.set_cons_succ, List.set_nil, List.replicate_succ, List.replicate_zero, List.nil_append, List.cons_append, Bool.false_eq_true, Bool.not_true, Bool.not_false, Bool.and_true, Bool.true_and, Bool.and_self, Bool.false_and, Bool.and_false, List.contains_cons, List.contains_nil, Bool.or_false, Bool.false_or, Bool.or_self, Nat.reduceBEq, Nat.reduceLT, Nat.reduceAdd, Nat.reduceSub, Nat.reduceEqDiff, reduceIte, reduceCtorEq, Nat.zero_lt_succ, decide_true, decide_false, id_eq, RE_ok, RE_exc, RE_nil, RE_cons, RE_ite, ↓RE_try, RE_hand, RE_handN, LcE_ok, LcE_ite, LcT_ok, bind_ite, bind_exc, cfx, xN, fdIx, nx2_nx, nx2_rt, nx2_bk, nx2_ct, trn_nx, trn_ct, trn_bk, trn_rt, fin_rt, fin_nx, fix_eq, ex_some, ex_some1, ints?_dI, pures_dI, pures_nil, pures_cons, beq_self_eq_true, List.getElem?_cons_zero, List.getElem?_cons_succ, frzDs_dI, atI_0, atI_1, atI_2, stoS_0, stoS_1, dI_app, ltS_int, isTy_int_int, isTy_int_bool, isTy_int_str, isTy_int_tuple, isTy_int_list, isTy_int_NoneType, isTy_bool_int, isTy_bool_bool, isTy_bool_str, isTy_bool_tuple, isTy_bool_list, isTy_bool_NoneType, isTy_str_int, isTy_str_bool, isTy_str_str, isTy_str_tuple, isTy_str_list, isTy_str_NoneType, isTy_tuple_int, isTy_tuple_bool, isTy_tuple_str, isTy_tuple_tuple, isTy_tuple_list, isTy_tuple_NoneType, isTy_list_int, isTy_list_bool, isTy_list_str, isTy_list_tuple, isTy_list_list, isTy_list_NoneType, dI_snoc, own_scr, frz_scr, mt_pop', mt_popI, smallOk, smallLt, bd_int, bd_nat, if_pos, if_neg, eqS_int, neS_int, decide_eq_true_eq, Bool.not_eq_true', decide_eq_false_iff_not, ← List.map_drop, ← List.map_take, ← List.map_reverse, Int.toNat_natCast, Int.reduceToNat, ite_self, and_self, and_true, true_and, frzDs, List.reverse_cons, List.reverse_nil, Option.toList_some, Option.toList_none, List.all_cons, List.all_nil, List.length_append, b13, e1, e2, e12, pures_cD, cut_map, t1, app, cs_rev, frzD_l, frz_cD]
    refine RE.goM (f := cL) (l := [cs, cs.reverse, cs.take 1 ++ cs, []]) (fun rest env => ∃ (l3 l5 l6 l7 : Option D), env = [some (scriptD ns), some (.lst .own (dI p2)), some (.lst .frz (cDs cs)), l3, none, l5, l6, l7, none] ∧ ∀ c ∈ rest, c.length ≤ 60 ∧ ∀ x ∈ c, okC x) ?_ ?_ ⟨none, none, none, none, rfl, ?_⟩
    · rintro x xs env ⟨l3, l5, l6, l7, rfl, hr⟩
      obtain ⟨x1, x2⟩ := hr x List.mem_cons_self
      have q8 := r8 3 .frz x (by omega) fun c hc => by have := (x2 c hc).1; omega
      have q2 := r2 2 .own x (by omega)
      have l1 := cutL_len [] x
      have oR : okR (cutL [] x) := ⟨by omega, fun q hq => ⟨by have := (cutL_ok [] x x2 q hq).1; omega, (cutL_ok [] x x2 q hq).2⟩⟩
      have rp := @rep_pD
      have rpR : ∀ {f : Fl}, reprS (.lst f ((cutL [] x).map pD)) = some (.str (shwL ((cutL [] x).map pD))) := rep_pD (by omega) (cutL_ok [] x x2) (cutL_n [] x x2)
      have rpC : ∀ {f : Fl}, reprS (.lst f (cDs x)) = some (.str (shwL (cDs x))) := rep_cDs (by omega) fun c hc => ⟨by have := (x2 c hc).1; omega, (x2 c hc).2⟩
      rcases r3 3 .own (cutL [] x) oR with ⟨d, os, e3, cs3, h, rfl, rfl⟩ | ⟨c, ks, fs, os, e3, k, h, _⟩
      · rw [rd_cut x [] []] at h
        cases h
        simp only [List.nil_append] at e3
        simp (disch := first | omega | (simp only [List.length_map, List.length_append, List.length_cons, List.length_nil, List.length_reverse, List.length_take, List.length_drop]; omega)) only [evS, evE, evA, evT, evI, evP, Z.bok, look, looks, slot_0, slot_s, getP, bT_nm, bT_tup, bT_nil, bT_cons, setS, pureD_own, pureD_frz, pureD_scr, pureD_tup, pureD_int, pureD_str, pureD_bl, pureD_non, pureD_io, pureD_if, pureD_is, rootP, srcT, srcL, tmps, doCall, nodupB, roots, writeBack, setE, setP, mt_appL, mt_rev, isLst, augS, prS, un, bi, tri, int1, int2, intS, lenS, addS, sumS, listS, tupleS, revS, sliceS, itemS, eqS_int, neS_int, frzD, outS, clr, Z.rest, R.ne, Option.bind_some, Option.bind_none, Option.map_some, Option.map_none, if_true, if_false, List.length_cons, List.length_nil, List.length_map, List.map_cons, List.map_nil, List.set_cons_zero, List.set_cons_succ, List.set_nil, List.replicate_succ, List.replicate_zero, List.nil_append, List.cons_append, Bool.false_eq_true, Bool.not_true, Bool.not_false, Bool.and_true, Bool.true_and, Bool.and_self, Bool.false_and, Bool.and_false, List.contains_cons, List.contains_nil, Bool.or_false, Bool.false_or, Bool.or_self, Nat.reduceBEq, Nat.reduceLT, Nat.reduceAdd, Nat.reduceSub, Nat.reduceEqDiff, reduceIte, reduceCtorEq, Nat.zero_lt_succ, decide_true, decide_false, id_eq, RE_ok, RE_exc, RE_nil, RE_cons, RE_ite, ↓RE_try, RE_hand, RE_handN, LcE_ok, LcE_ite, LcT_ok, bind_ite, bind_exc, cfx, xN, fdIx, nx2_nx, nx2_rt, nx2_bk, nx2_ct, trn_nx, trn_ct, trn_bk, trn_rt, fin_rt, fin_nx, fix_eq, ex_some, ex_some1, ints?_dI, pures_dI, pures_nil, pures_cons, beq_self_eq_true, List.getElem?_cons_zero, List.getElem?_cons_succ, frzDs_dI, atI_0, atI_1, atI_2, stoS_0, stoS_1, dI_app, ltS_int, isTy_int_int, isTy_int_bool, isTy_int_str, isTy_int_tuple, isTy_int_list, isTy_int_NoneType, isTy_bool_int, isTy_bool_bool, isTy_bool_str, isTy_bool_tuple, isTy_bool_list, isTy_bool_NoneType, isTy_str_int, isTy_str_bool, isTy_str_str, isTy_str_tuple, isTy_str_list, isTy_str_NoneType, isTy_tuple_int, isTy_tuple_bool, isTy_tuple_str, isTy_tuple_tuple, isTy_tuple_list, isTy_tuple_NoneType, isTy_list_int, isTy_list_bool, isTy_list_str, isTy_list_tuple, isTy_list_list, isTy_list_NoneType, dI_snoc, own_scr, frz_scr, mt_pop', mt_popI, smallOk, smallLt, bd_int, bd_nat, if_pos, if_neg, eqS_int, neS_int, decide_eq_true_eq, Bool.not_eq_true', decide_eq_false_iff_not, ← List.map_drop, ← List.map_take, ← List.map_reverse, Int.toNat_natCast, Int.reduceToNat, ite_self, and_self, and_true, true_and, frzDs, List.reverse_cons, List.reverse_nil, Option.toList_some, Option.toList_none, List.all_cons, List.all_nil, List.length_append, cL, b13_1, q8, q2, e3, pures_cD, pures_pD, rpR, rpC, neS_str, neS_lst (dep_map (n := 59) (f := cD) (fun c => dep_dI (n := 58) c) x)]
        exact ⟨_, _, _, _, rfl, fun c hc => hr c (List.mem_cons_of_mem _ hc)⟩
      · rw [rd_cut x [] []] at h
        cases h
    · rintro env ⟨l3, l5, l6, l7, rfl, _⟩
      have q8 := r8 3 .frz cs (by omega) fun c hc => by have := (hcs c hc).1; omega
      obtain ⟨p', rs, q12, k1, k2⟩ := r12 2 p2 .frz .frz (by decide) (by decide) cs hp2 hpos hlen hcs
      have l1 := cutL_len [] cs
      have oR : okR (cutL [] cs) := ⟨by omega, fun q hq => ⟨by have := (cutL_ok [] cs hcs q hq).1; omega, (cutL_ok [] cs hcs q hq).2⟩⟩
      have pr : pures (rs.map rD) = true := pures_map (fun _ => rfl) rs
      have oAll : ∀ r ∈ cutL [] cs :: [] :: rs, okR r := fun r hr => by
        rcases List.mem_cons.mp hr with rfl | hr
        · exact oR
        · rcases List.mem_cons.mp hr with rfl | hr
          · exact ⟨Nat.zero_le _, fun _ z => absurd z List.not_mem_nil⟩
          · exact k2 r hr
      have e0 : D.lst .frz ((cutL [] cs).map pD) :: D.lst .frz [] :: rs.map rD = (cutL [] cs :: [] :: rs).map rD := rfl
      have rsl : (cutL [] cs :: [] :: rs).length ≤ 30 := by simp only [List.length_cons]; omega
      generalize cutL [] cs :: [] :: rs = RS at *
      obtain ⟨acc, env', h1, rest, done, h2, rfl, h3, l8, rfl, _⟩ := lc_goT (el := fun env => evE (run ft 5) e13_2 env) (tg := .nm 8) (own := [8]) (xs := RS.map rD) (acc := [])
        (env := [some (scriptD ns), some (.lst .own (dI p')), some (.lst .frz (cDs cs)), some (.lst .own (RS.map rD)), some (.lst .frz ((cutL [] cs).map pD)), l5, l6, l7, none])
        (fun xs acc env => ∃ (rest done : List (List (Int × List Int))), xs = rest.map rD ∧ acc = (done.map fun _ => D.bl true) ∧ (∀ r ∈ rest, okR r) ∧ ∃ l8, env = [some (scriptD ns), some (.lst .own (dI p')), some (.lst .frz (cDs cs)), some (.lst .own (RS.map rD)), some (.lst .frz ((cutL [] cs).map pD)), l5, l6, l7, l8] ∧ done.length + rest.length ≤ 30)
        (by
          rintro x xs acc env ⟨rest, done, h2, rfl, h3, l8, rfl, hd⟩
          cases rest with
          | nil => cases h2
          | cons r rest =>
            cases h2
            rw [List.length_cons] at hd
            have q10 := r10 2 .frz r (h3 r List.mem_cons_self)
            simp (disch := first | omega | (simp only [List.length_map, List.length_append, List.length_cons, List.length_nil, List.length_reverse, List.length_take, List.length_drop]; omega)) only [evS, evE, evA, evT, evI, evP, Z.bok, look, looks, slot_0, slot_s, getP, bT_nm, bT_tup, bT_nil, bT_cons, setS, pureD_own, pureD_frz, pureD_scr, pureD_tup, pureD_int, pureD_str, pureD_bl, pureD_non, pureD_io, pureD_if, pureD_is, rootP, srcT, srcL, tmps, doCall, nodupB, roots, writeBack, setE, setP, mt_appL, mt_rev, isLst, augS, prS, un, bi, tri, int1, int2, intS, lenS, addS, sumS, listS, tupleS, revS, sliceS, itemS, eqS_int, neS_int, frzD, outS, clr, Z.rest, R.ne, Option.bind_some, Option.bind_none, Option.map_some, Option.map_none, if_true, if_false, List.length_cons, List.length_nil, List.length_map, List.map_cons, List.map_nil, List.set_cons_zero, List.set_cons_succ, List.set_nil, List.replicate_succ, List.replicate_zero, List.nil_append, List.cons_append, Bool.false_eq_true, Bool.not_true, Bool.not_false, Bool.and_true, Bool.true_and, Bool.and_self, Bool.false_and, Bool.and_false, List.contains_cons, List.contains_nil, Bool.or_false, Bool.false_or, Bool.or_self, Nat.reduceBEq, Nat.reduceLT, Nat.reduceAdd, Nat.reduceSub, Nat.reduceEqDiff, reduceIte, reduceCtorEq, Nat.zero_lt_succ, decide_true, decide_false, id_eq, RE_ok, RE_exc, RE_nil, RE_cons, RE_ite, ↓RE_try, RE_hand, RE_handN, LcE_ok, LcE_ite, LcT_ok, bind_ite, bind_exc, cfx, xN, fdIx, nx2_nx, nx2_rt, nx2_bk, nx2_ct, trn_nx, trn_ct, trn_bk, trn_rt, fin_rt, fin_nx, fix_eq, ex_some, ex_some1, ints?_dI, pures_dI, pures_nil, pures_cons, beq_self_eq_true, List.getElem?_cons_zero, List.getElem?_cons_succ, frzDs_dI, atI_0, atI_1, atI_2, stoS_0, stoS_1, dI_app, ltS_int, isTy_int_int, isTy_int_bool, isTy_int_str, isTy_int_tuple, isTy_int_list, isTy_int_NoneType, isTy_bool_int, isTy_bool_bool, isTy_bool_str, isTy_bool_tuple, isTy_bool_list, isTy_bool_NoneType, isTy_str_int, isTy_str_bool, isTy_str_str, isTy_str_tuple, isTy_str_list, isTy_str_NoneType, isTy_tuple_int, isTy_tuple_bool, isTy_tuple_str, isTy_tuple_tuple, isTy_tuple_list, isTy_tuple_NoneType, isTy_list_int, isTy_list_bool, isTy_list_str, isTy_list_tuple, isTy_list_list, isTy_list_NoneType, dI_snoc, own_scr, frz_scr, mt_pop', mt_popI, smallOk, smallLt, bd_int, bd_nat, if_pos, if_neg, eqS_int, neS_int, decide_eq_true_eq, Bool.not_eq_true', decide_eq_false_iff_not, ← List.map_drop, ← List.map_take, ← List.map_reverse, Int.toNat_natCast, Int.reduceToNat, ite_self, and_self, and_true, true_and, frzDs, List.reverse_cons, List.reverse_nil, Option.toList_some, Option.toList_none, List.all_cons, List.all_nil, List.length_append, e13_2, q10]
            exact ⟨by omega, rest, done ++ [r], rfl, by rw [List.map_append]; rfl, fun r hr => h3 r (List.mem_cons_of_mem _ hr), _, rfl, by rw [List.length_append, List.length_singleton]; omega⟩) ⟨_, [], rfl, rfl, oAll, none, rfl, by simpa using rsl⟩
      have pz : pures (RS.map rD) = true := pures_map (fun _ => rfl) _
      simp (disch := first | omega | (simp only [List.length_map, List.length_append, List.length_cons, List.length_nil, List.length_reverse, List.length_take, List.length_drop]; omega)) only [evS, evE, evA, evT, evI, evP, Z.bok, look, looks, slot_0, slot_s, getP, bT_nm, bT_tup, bT_nil, bT_cons, setS, pureD_own, pureD_frz, pureD_scr, pureD_tup, pureD_int, pureD_str, pureD_bl, pureD_non, pureD_io, pureD_if, pureD_is, rootP, srcT, srcL, tmps, doCall, nodupB, roots, writeBack, setE, setP, mt_appL, mt_rev, isLst, augS, prS, un, bi, tri, int1, int2, intS, lenS, addS, sumS, listS, tupleS, revS, sliceS, itemS, eqS_int, neS_int, frzD, outS, clr, Z.rest, R.ne, Option.bind_some, Option.bind_none, Option.map_some, Option.map_none, if_true, if_false, List.length_cons, List.length_nil, List.length_map, List.map_cons, List.map_nil, List.set_cons_zero, List.set_cons_succ, List.set_nil, List.replicate_succ, List.replicate_zero, List.nil_append, List.cons_append, Bool.false_eq_true, Bool.not_true, Bool.not_false, Bool.and_true, Bool.true_and, Bool.and_self, Bool.false_and, Bool.and_false, List.contains_cons, List.contains_nil, Bool.or_false, Bool.false_or, Bool.or_self, Nat.reduceBEq, Nat.reduceLT, Nat.reduceAdd, Nat.reduceSub, Nat.reduceEqDiff, reduceIte, reduceCtorEq, Nat.zero_lt_succ, decide_true, decide_false, id_eq, RE_ok, RE_exc, RE_nil, RE_cons, RE_ite, ↓RE_try, RE_hand, RE_handN, LcE_ok, LcE_ite, LcT_ok, bind_ite, bind_exc, cfx, xN, fdIx, nx2_nx, nx2_rt, nx2_bk, nx2_ct, trn_nx, trn_ct, trn_bk, trn_rt, fin_rt, fin_nx, fix_eq, ex_some, ex_some1, ints?_dI, pures_dI, pures_nil, pures_cons, beq_self_eq_true, List.getElem?_cons_zero, List.getElem?_cons_succ, frzDs_dI, atI_0, atI_1, atI_2, stoS_0, stoS_1, dI_app, ltS_int, isTy_int_int, isTy_int_bool, isTy_int_str, isTy_int_tuple, isTy_int_list, isTy_int_NoneType, isTy_bool_int, isTy_bool_bool, isTy_bool_str, isTy_bool_tuple, isTy_bool_list, isTy_bool_NoneType, isTy_str_int, isTy_str_bool, isTy_str_str, isTy_str_tuple, isTy_str_list, isTy_str_NoneType, isTy_tuple_int, isTy_tuple_bool, isTy_tuple_str, isTy_tuple_tuple, isTy_tuple_list, isTy_tuple_NoneType, isTy_list_int, isTy_list_bool, isTy_list_str, isTy_list_tuple, isTy_list_list, isTy_list_NoneType, dI_snoc, own_scr, frz_scr, mt_pop', mt_popI, smallOk, smallLt, bd_int, bd_nat, if_pos, if_neg, eqS_int, neS_int, decide_eq_true_eq, Bool.not_eq_true', decide_eq_false_iff_not, ← List.map_drop, ← List.map_take, ← List.map_reverse, Int.toNat_natCast, Int.reduceToNat, ite_self, and_self, and_true, true_and, frzDs, List.reverse_cons, List.reverse_nil, Option.toList_some, Option.toList_none, List.all_cons, List.all_nil, List.length_append, b13_3, q8, frzD_l, frz_pD, q12, pr, e0, pz, h1, all_true]
    · intro c hc
      simp only [List.mem_cons, List.not_mem_nil, or_false] at hc
      rcases hc with rfl | rfl | rfl | rfl
      · exact ⟨by omega, hcs⟩
      · exact ⟨by rw [List.length_reverse]; omega, fun x hx => hcs x (List.mem_reverse.mp hx)⟩
      · exact ⟨by rw [List.length_append, List.length_take]; omega, fun x hx => (List.mem_append.mp hx).elim (fun h => hcs x (List.mem_of_mem_take h)) (hcs x)⟩
      · exact ⟨Nat.zero_le _, fun _ z => absurd z List.not_mem_nil⟩
  obtain ⟨d, os, h, rfl⟩ := key
  exact ⟨os, h⟩
end Law

open PySem PySem.W PyProof.Rows in
set_option maxRecDepth 100000 in
set_option maxHeartbeats 0 in
theorem PySem.Challenge.cw_mergepapers_k09_cut_rows_holds : PySem.Challenge.rw_mergepapers_k09_cut_rows.Holds := by
  w_on; o_law; k_head; (case hw => w_witness2)
  k_fill
  refine Z.law_walk (l := PySem.Challenge.rw_mergepapers_k09_cut_rows) (n := 63) (k := 2 * Law.LV + 1) (cf := Z.run Law.ft Law.LV) (f := 13) rfl (by decide) rfl ⟨rfl, by decide, by decide⟩ (fun w h Y => PySem.W.kIn_of Y) ?F Law.law_true
  case F =>
    intro w mg fa h KX G hmg
    refine' Law.all_mk KX G hmg ?a0 ?l0 ?c0 ?k0 ?a1 ?l1 ?c1 ?k1 ?a2 ?l2 ?c2 ?k2 ?a3 ?l3 ?c3 ?k3 ?a4 ?l4 ?c4 ?k4 ?a5 ?l5 ?c5 ?k5 ?a6 ?l6 ?c6 ?k6 ?a7 ?l7 ?c7 ?k7 ?a8 ?l8 ?c8 ?k8 ?a9 ?l9 ?c9 ?k9 ?a10 ?l10 ?c10 ?k10 ?a11 ?l11 ?c11 ?k11 ?a12 ?l12 ?c12 ?k12 ?a13 ?l13 ?c13 ?k13 ?z0 ?z1 ?z2 ?z3 ?z4 ?z5 ?z6 ?z7 ?z8 ?z9 ?z10 ?z11 ?ga1 ?xl1 ?sa1 ?ex1 ?ty1 ?kc1 ?n1_at ?xi1 ?xt1 ?xk1 ?xc1 ?hd1 ?sb1_1 ?gt1 ?gg1
    (case a0 => first | k_is | rfl)
    (case l0 => first | k_is | rfl)
    (case c0 => first | k_is | rfl)
    (case k0 => first | k_is | rfl)
    (case a1 => first | k_is | rfl)
    (case l1 => first | k_is | rfl)
    (case c1 => first | k_is | rfl)
    (case k1 => first | k_is | rfl)
    (case a2 => first | k_is | rfl)
    (case l2 => first | k_is | rfl)
    (case c2 => first | k_is | rfl)
    (case k2 => first | k_is | rfl)
    (case a3 => first | k_is | rfl)
    (case l3 => first | k_is | rfl)
    (case c3 => first | k_is | rfl)
    (case k3 => first | k_is | rfl)
    (case a4 => first | k_is | rfl)
    (case l4 => first | k_is | rfl)
    (case c4 => first | k_is | rfl)
    (case k4 => first | k_is | rfl)
    (case a5 => first | k_is | rfl)
    (case l5 => first | k_is | rfl)
    (case c5 => first | k_is | rfl)
    (case k5 => first | k_is | rfl)
    (case a6 => first | k_is | rfl)
    (case l6 => first | k_is | rfl)
    (case c6 => first | k_is | rfl)
    (case k6 => first | k_is | rfl)
    (case a7 => first | k_is | rfl)
    (case l7 => first | k_is | rfl)
    (case c7 => first | k_is | rfl)
    (case k7 => first | k_is | rfl)
    (case a8 => first | k_is | rfl)
    (case l8 => first | k_is | rfl)
    (case c8 => first | k_is | rfl)
    (case k8 => first | k_is | rfl)
    (case a9 => first | k_is | rfl)
    (case l9 => first | k_is | rfl)
    (case c9 => first | k_is | rfl)
    (case k9 => first | k_is | rfl)
    (case a10 => first | k_is | rfl)
    (case l10 => first | k_is | rfl)
    (case c10 => first | k_is | rfl)
    (case k10 => first | k_is | rfl)
    (case a11 => first | k_is | rfl)
    (case l11 => first | k_is | rfl)
    (case c11 => first | k_is | rfl)
    (case k11 => first | k_is | rfl)
    (case a12 => first | k_is | rfl)
    (case l12 => first | k_is | rfl)
    (case c12 => first | k_is | rfl)
    (case k12 => first | k_is | rfl)
    (case a13 => first | k_is | rfl)
    (case l13 => first | k_is | rfl)
    (case c13 => first | k_is | rfl)
    (case k13 => first | k_is | rfl)
    (case z0 => first | k_is | rfl)
    (case z1 => first | k_is | rfl)
    (case z2 => first | k_is | rfl)
    (case z3 => first | k_is | rfl)
    (case z4 => first | k_is | rfl)
    (case z5 => first | k_is | rfl)
    (case z6 => first | k_is | rfl)
    (case z7 => first | k_is | rfl)
    (case z8 => first | k_is | rfl)
    (case z9 => first | k_is | rfl)
    (case z10 => first | k_is | rfl)
    (case z11 => first | k_is | rfl)
    (case ga1 => first | k_is | rfl)
    (case xl1 => first | k_is | rfl)
    (case sa1 => first | k_is | rfl)
    (case ex1 => first | k_is | rfl)
    (case ty1 => first | k_is | rfl)
    (case kc1 => first | k_is | rfl)
    (case n1_at => first | k_is | rfl)
    (case xi1 => first | k_is | rfl)
    (case xt1 => first | k_is | rfl)
    (case xk1 => first | k_is | rfl)
    (case xc1 => first | k_is | rfl)
    (case hd1 => first | k_is | rfl)
    (case sb1_1 => first | k_is | rfl)
    (case gt1 => first | k_is | rfl)
    (case gg1 => first | k_is | rfl)

