import PyProof.Rows.All
import Wide.All
import OpenK.AllK
import Wide.FinOn
import HandS.ForMost
import HandS.TupAny
import HandS.Evl
import HandS.Codes
import HandS.Defaults
import HandS.Conv
import HandS.Strs
import HandS.Steps
import HandS.Style
import HandS.Exc
import HandS.HeadHook1
import HandS.HeadHook2
import HandS.RevRange
import HandS.More
import HandS.IsInst
import HandS.ClsMeth
import KE.KeyNested
import KE.KDictKeyed
import HandS.SetFor
import HandS.SetTxt0
import KE.KStateDown
import Lean
import HandS.Head0
import HandS.Head1
import HandS.Head2
import HandS.HeadEnd
import PySem.Challenge.RW_graftform_k94_whole_turned_forms_without
set_option Elab.async false
set_option linter.all false
set_option maxRecDepth 100000
set_option maxHeartbeats 4000000
/-! The data layer: immutable data as Lean values, slots as data, readings as evaluations. -/
namespace G
open PySem L2
open Evl (Ex)

/-! ### data -/
inductive D where
  | non | bl (b : Bool) | int (i : Int) | str (s : Str) | tu (f : Bool) (l : List D)
/-- a tuple; one whose object is known to have no dict -/
abbrev D.tup (l : List D) : D := .tu false l
abbrev D.tupF (l : List D) : D := .tu true l
def TupAt (H : Hp) (f : Bool) (a : Addr) (vs : List V) : Prop := match f with
  | false => H a = some (.tup vs)
  | true => ∃ o : Obj, H a = some (.frz o (.tup vs)) ∧ o.dict = none

mutual
def At (H : Hp) : D → V → Prop
  | .non, v => v = .non
  | .bl b, v => v = .bl b
  | .int i, v => v = .int i
  | .str s, v => v = .str s
  | .tu f l, v => ∃ a vs, v = .ref a ∧ TupAt H f a vs ∧ AtL H l vs
def AtL (H : Hp) : List D → List V → Prop
  | [], vs => vs = []
  | d :: l, vs => ∃ v ws, vs = v :: ws ∧ At H d v ∧ AtL H l ws
end

/-- tuples stay -/
def isT : HO → Bool
  | .tup _ => true
  | .frz _ (.tup _) => true
  | _ => false
def TEx (H H' : Hp) : Prop := ∀ a u, isT u = true → H a = some u → H' a = some u
theorem TEx.refl (H : Hp) : TEx H H := fun _ _ _ h => h
theorem TEx.trans {H H1 H2 : Hp} (a : TEx H H1) (b : TEx H1 H2) : TEx H H2 := fun x o t h => b x o t (a x o t h)
theorem TEx.of {H H' : Hp} (e : Ex H H') : TEx H H' := fun a u _ h => e a _ h
theorem TEx.upd {H : Hp} {p : Addr} {o : HO} (h : ∀ u, H p = some u → isT u = false) : TEx H (upd H p o) := fun a u t e => by
  rw [upd_ne]
  · exact e
  · rintro rfl
    rw [h u e] at t
    cases t
theorem TupAt.mono {H H' : Hp} (e : TEx H H') : ∀ {f : Bool} {a : Addr} {vs : List V}, TupAt H f a vs → TupAt H' f a vs
  | false, a, vs, h => e a _ rfl h
  | true, a, vs, ⟨o, h, d⟩ => ⟨o, e a _ rfl h, d⟩
theorem TupAt.sq {K : PySem.W.Frag} {H : Hp} : ∀ {f : Bool} {a : Addr} {vs : List V}, TupAt H f a vs → SqT K H a vs
  | false, a, vs, h => SqT.of h
  | true, a, vs, ⟨o, h, d⟩ => .inl (.inr ⟨o, h⟩)
theorem TupAt.ne {H : Hp} {b : Addr} {xs : List V} : ∀ {f : Bool} {a : Addr} {vs : List V}, TupAt H f a vs → H b = some (.lst xs) → a ≠ b
  | false, a, vs, h, q => ne_of h q (by intro z; cases z)
  | true, a, vs, ⟨o, h, d⟩, q => ne_of h q (by intro z; cases z)

mutual
theorem At.mono {H H' : Hp} (e : TEx H H') : ∀ (d : D) {v : V}, At H d v → At H' d v
  | .non, _, h => h
  | .bl _, _, h => h
  | .int _, _, h => h
  | .str _, _, h => h
  | .tu f l, v, h => by
    rw [At] at h ⊢
    obtain ⟨a, vs, r, ha, hl⟩ := h
    exact ⟨a, vs, r, ha.mono e, AtL.mono e l hl⟩
theorem AtL.mono {H H' : Hp} (e : TEx H H') : ∀ (l : List D) {vs : List V}, AtL H l vs → AtL H' l vs
  | [], _, h => h
  | d :: l, vs, h => by
    rw [AtL] at h ⊢
    obtain ⟨v, ws, r, h1, h2⟩ := h
    exact ⟨v, ws, r, At.mono e d h1, AtL.mono e l h2⟩
end
theorem At.ex {H H' : Hp} {d : D} {v : V} (e : Ex H H') (h : At H d v) : At H' d v := At.mono (.of e) d h
theorem AtL.ex {H H' : Hp} {l : List D} {vs : List V} (e : Ex H H') (h : AtL H l vs) : AtL H' l vs := AtL.mono (.of e) l h

section
variable {H : Hp}
theorem at_int {i : Int} {v : V} : At H (.int i) v ↔ v = .int i := by rw [At]
theorem at_str {i : Str} {v : V} : At H (.str i) v ↔ v = .str i := by rw [At]
theorem at_bl {i : Bool} {v : V} : At H (.bl i) v ↔ v = .bl i := by rw [At]
theorem at_non {v : V} : At H .non v ↔ v = .non := by rw [At]
theorem at_tu {f : Bool} {l : List D} {v : V} : At H (.tu f l) v ↔ ∃ a vs, v = .ref a ∧ TupAt H f a vs ∧ AtL H l vs := by rw [At]
theorem at_tup {l : List D} {v : V} : At H (.tup l) v ↔ ∃ a vs, v = .ref a ∧ H a = some (.tup vs) ∧ AtL H l vs := at_tu
theorem atL_nil {vs : List V} : AtL H [] vs ↔ vs = [] := by rw [AtL]
theorem atL_cons {d : D} {l : List D} {vs : List V} : AtL H (d :: l) vs ↔ ∃ v ws, vs = v :: ws ∧ At H d v ∧ AtL H l ws := by rw [AtL]
theorem AtL.length : ∀ {l : List D} {vs : List V}, AtL H l vs → vs.length = l.length
  | [], _, h => by rw [atL_nil.mp h]; rfl
  | d :: l, _, h => by
    obtain ⟨v, ws, rfl, _, h2⟩ := atL_cons.mp h
    simp [AtL.length h2]
theorem AtL.get : ∀ {l : List D} {vs : List V} {i : Nat} {d : D}, AtL H l vs → l[i]? = some d → ∃ v, vs[i]? = some v ∧ At H d v
  | [], _, _, _, _, e => by simp at e
  | d :: l, _, 0, x, h, e => by
    obtain ⟨v, ws, rfl, h1, h2⟩ := atL_cons.mp h
    simp at e
    subst e
    exact ⟨v, rfl, h1⟩
  | d :: l, _, i + 1, x, h, e => by
    obtain ⟨v, ws, rfl, h1, h2⟩ := atL_cons.mp h
    obtain ⟨u, q, r⟩ := AtL.get (i := i) h2 (by simpa using e)
    exact ⟨u, by simpa using q, r⟩
theorem AtL.back {l : List D} {vs : List V} {i : Nat} {v : V} (h : AtL H l vs) (e : vs[i]? = some v) : ∃ d, l[i]? = some d ∧ At H d v := by
  have hl := h.length
  obtain ⟨hi, _⟩ := List.getElem?_eq_some_iff.mp e
  have hi' : i < l.length := by omega
  obtain ⟨u, q, r⟩ := h.get (List.getElem?_eq_getElem hi')
  rw [e] at q
  cases q
  exact ⟨_, List.getElem?_eq_getElem hi', r⟩
theorem AtL.append : ∀ {l m : List D} {vs ws : List V}, AtL H l vs → AtL H m ws → AtL H (l ++ m) (vs ++ ws)
  | [], m, _, ws, h, k => by rw [atL_nil.mp h]; exact k
  | d :: l, m, _, ws, h, k => by
    obtain ⟨v, us, rfl, h1, h2⟩ := atL_cons.mp h
    exact atL_cons.mpr ⟨v, us ++ ws, rfl, h1, AtL.append h2 k⟩
theorem AtL.one {d : D} {v : V} (h : At H d v) : AtL H [d] [v] := atL_cons.mpr ⟨v, [], rfl, h, atL_nil.mpr rfl⟩
theorem AtL.drop : ∀ {l : List D} {vs : List V} (n : Nat), AtL H l vs → AtL H (l.drop n) (vs.drop n)
  | l, vs, 0, h => h
  | [], vs, n + 1, h => by rw [atL_nil.mp h]; exact atL_nil.mpr rfl
  | d :: l, _, n + 1, h => by
    obtain ⟨v, us, rfl, h1, h2⟩ := atL_cons.mp h
    exact AtL.drop n h2
theorem AtL.take : ∀ {l : List D} {vs : List V} (n : Nat), AtL H l vs → AtL H (l.take n) (vs.take n)
  | l, vs, 0, h => atL_nil.mpr rfl
  | [], vs, n + 1, h => by rw [atL_nil.mp h]; exact atL_nil.mpr rfl
  | d :: l, _, n + 1, h => by
    obtain ⟨v, us, rfl, h1, h2⟩ := atL_cons.mp h
    exact atL_cons.mpr ⟨v, us.take n, rfl, h1, AtL.take n h2⟩
theorem AtL.set : ∀ {l : List D} {vs : List V} (n : Nat) {d : D} {v : V}, At H d v → AtL H l vs → AtL H (l.set n d) (vs.set n v)
  | [], vs, n, _, _, _, h => by rw [atL_nil.mp h]; exact atL_nil.mpr rfl
  | d :: l, _, 0, _, _, k, h => by
    obtain ⟨v, us, rfl, h1, h2⟩ := atL_cons.mp h
    exact atL_cons.mpr ⟨_, us, rfl, k, h2⟩
  | d :: l, _, n + 1, _, _, k, h => by
    obtain ⟨v, us, rfl, h1, h2⟩ := atL_cons.mp h
    exact atL_cons.mpr ⟨v, _, rfl, h1, AtL.set n k h2⟩
theorem AtL.reverse : ∀ {l : List D} {vs : List V}, AtL H l vs → AtL H l.reverse vs.reverse
  | [], vs, h => by rw [atL_nil.mp h]; exact atL_nil.mpr rfl
  | d :: l, _, h => by
    obtain ⟨v, us, rfl, h1, h2⟩ := atL_cons.mp h
    rw [List.reverse_cons, List.reverse_cons]
    exact (AtL.reverse h2).append (.one h1)
theorem atL_ints : ∀ {ns : List Int} {vs : List V}, AtL H (ns.map .int) vs ↔ vs = ns.map V.int
  | [], vs => atL_nil
  | n :: ns, vs => by
    rw [List.map_cons, atL_cons, List.map_cons]
    constructor
    · rintro ⟨v, ws, rfl, h1, h2⟩
      rw [at_int.mp h1, atL_ints.mp h2]
    · rintro rfl
      exact ⟨_, _, rfl, at_int.mpr rfl, atL_ints.mpr rfl⟩
theorem atL_strs : ∀ {ns : List Str} {vs : List V}, AtL H (ns.map .str) vs ↔ vs = ns.map V.str
  | [], vs => atL_nil
  | n :: ns, vs => by
    rw [List.map_cons, atL_cons, List.map_cons]
    constructor
    · rintro ⟨v, ws, rfl, h1, h2⟩
      rw [at_str.mp h1, atL_strs.mp h2]
    · rintro rfl
      exact ⟨_, _, rfl, at_str.mpr rfl, atL_strs.mpr rfl⟩
theorem atL_bls : ∀ {ns : List Bool} {vs : List V}, AtL H (ns.map .bl) vs ↔ vs = ns.map V.bl
  | [], vs => atL_nil
  | n :: ns, vs => by
    rw [List.map_cons, atL_cons, List.map_cons]
    constructor
    · rintro ⟨v, ws, rfl, h1, h2⟩
      rw [at_bl.mp h1, atL_bls.mp h2]
    · rintro rfl
      exact ⟨_, _, rfl, at_bl.mpr rfl, atL_bls.mpr rfl⟩
end

/-! ### equality of data -/
mutual
def D.toP : D → PyData
  | .non => .none
  | .bl b => .bool b
  | .int i => .int i
  | .str s => .str s
  | .tu _ l => .tuple (D.toPs l)
def D.toPs : List D → List PyData
  | [] => []
  | d :: l => d.toP :: D.toPs l
end
mutual
theorem At.dp {K : PySem.W.Frag} {H : Hp} : ∀ (d : D) {v : V}, At H d v → Dp K H v d.toP
  | .non, v, h => by rw [at_non.mp h]; exact .non
  | .bl b, v, h => by rw [at_bl.mp h]; exact .bl b
  | .int i, v, h => by rw [at_int.mp h]; exact .int i
  | .str s, v, h => by rw [at_str.mp h]; exact .str s
  | .tu f l, v, h => by
    obtain ⟨a, vs, rfl, ha, hl⟩ := at_tu.mp h
    exact .tup ha.sq (AtL.dp l hl)
theorem AtL.dp {K : PySem.W.Frag} {H : Hp} : ∀ (l : List D) {vs : List V}, AtL H l vs → DpAll K H vs (D.toPs l)
  | [], vs, h => by rw [atL_nil.mp h]; exact .nil
  | d :: l, vs, h => by
    obtain ⟨v, us, rfl, h1, h2⟩ := atL_cons.mp h
    exact .cons (At.dp d h1) (AtL.dp l h2)
end

/-! ### what an argument, a slot is -/
/-- what is known of a part of the heap: its footprint, and that it stays while the footprint and the tuples do -/
structure HA where
  φ : Hp → Prop
  fp : Addr → Prop
  st : ∀ H H', φ H → TEx H H' → (∀ a o, fp a → H a = some o → H' a = some o) → φ H'
theorem HA.ex (x : HA) {H H' : Hp} (e : Ex H H') (h : x.φ H) : x.φ H' := x.st _ _ h (.of e) fun a o _ q => e a o q
inductive A where | d (x : D) | l (xs : List D) | r (xs : List D) | w (v : V) | o (k : HA) (v : V)
def AAt (K : PySem.W.Frag) (H : Hp) : A → V → Prop
  | .d x, v => At H x v
  | .l xs, v => ∃ a vs, v = .ref a ∧ H a = some (.lst vs) ∧ AtL H xs vs
  | .r xs, v => ∃ a vs, v = .ref a ∧ SqL K H a vs ∧ AtL H xs vs
  | .w u, v => v = u
  | .o k u, v => v = u ∧ k.φ H
def AAtL (K : PySem.W.Frag) (H : Hp) : List A → List V → Prop
  | [], vs => vs = []
  | x :: l, vs => ∃ v ws, vs = v :: ws ∧ AAt K H x v ∧ AAtL K H l ws
inductive Sl where | no | a (x : A) | own (xs : List D)
def Sl.val : Sl → Option A
  | .no => none
  | .a x => some x
  | .own xs => some (.l xs)
def Sl.rf : Sl → Bool
  | .own _ => true
  | .a (.l _) => true
  | _ => false
def SAt (K : PySem.W.Frag) (B F H : Hp) : Sl → Option V → Prop
  | .no, _ => True
  | .a (.d x), o => ∃ v, o = some v ∧ At H x v
  | .a (.l xs), o => ∃ a vs, o = some (.ref a) ∧ H a = some (.lst vs) ∧ AtL H xs vs
  | .a (.r xs), o => ∃ a vs, o = some (.ref a) ∧ SqL K B a vs ∧ AtL H xs vs
  | .a (.w u), o => o = some u
  | .a (.o k u), o => o = some u ∧ k.φ B
  | .own xs, o => ∃ a vs, o = some (.ref a) ∧ F a = none ∧ H a = some (.lst vs) ∧ AtL H xs vs

/-- the slots ss stand over the frame's values, B the heap at the entry, F what is not changed: both stand -/
structure Ok (K : PySem.W.Frag) (B F H : Hp) (ss : List Sl) (σ : St) : Prop where
  bf : Ex B F
  ex : Ex F H
  len : ss.length = σ.length
  at_ : ∀ (i : Nat) (s : Sl), ss[i]? = some s → ∃ o, σ[i]? = some o ∧ SAt K B F H s o
  sep : ∀ (i j : Nat) xs s a, ss[i]? = some (.own xs) → ss[j]? = some s → s.rf = true → σ[i]? = some (some (.ref a)) → σ[j]? = some (some (.ref a)) → i = j

section
variable {K : PySem.W.Frag} {B F H H' : Hp} {ss : List Sl} {σ : St} {x : A} {v : V}
theorem AAt.ex (e : Ex H H') (h : AAt K H x v) : AAt K H' x v := by
  cases x with
  | d x => exact At.ex e h
  | l xs => obtain ⟨a, vs, r, ha, hl⟩ := h; exact ⟨a, vs, r, e _ _ ha, hl.ex e⟩
  | r xs => obtain ⟨a, vs, r, ha, hl⟩ := h; exact ⟨a, vs, r, Evl.ex_l e ha, hl.ex e⟩
  | w u => exact h
  | o k u => exact ⟨h.1, k.ex e h.2⟩
theorem AAtL.ex (e : Ex H H') : ∀ {l : List A} {vs : List V}, AAtL K H l vs → AAtL K H' l vs
  | [], _, h => h
  | x :: l, vs, ⟨v, ws, r, h1, h2⟩ => ⟨v, ws, r, h1.ex e, AAtL.ex e h2⟩
theorem AAtL.length : ∀ {l : List A} {vs : List V}, AAtL K H l vs → vs.length = l.length
  | [], _, h => by cases h; rfl
  | x :: l, vs, ⟨v, ws, r, h1, h2⟩ => by subst r; simp [AAtL.length h2]
theorem SAt.ex {s : Sl} {o : Option V} (e : Ex H H') (h : SAt K B F H s o) : SAt K B F H' s o := by
  cases s with
  | no => trivial
  | a x =>
    cases x with
    | d x => obtain ⟨v, r, h⟩ := h; exact ⟨v, r, h.ex e⟩
    | l xs => obtain ⟨a, vs, r, ha, hl⟩ := h; exact ⟨a, vs, r, e _ _ ha, hl.ex e⟩
    | r xs => obtain ⟨a, vs, r, ha, hl⟩ := h; exact ⟨a, vs, r, ha, hl.ex e⟩
    | w u => exact h
    | o k u => exact h
  | own xs => obtain ⟨a, vs, r, hb, ha, hl⟩ := h; exact ⟨a, vs, r, hb, e _ _ ha, hl.ex e⟩
theorem Ok.mono (e : Ex H H') (h : Ok K B F H ss σ) : Ok K B F H' ss σ := ⟨h.bf, h.ex.trans e, h.len, fun i s hi => by
  obtain ⟨o, ho, hs⟩ := h.at_ i s hi
  exact ⟨o, ho, hs.ex e⟩, h.sep⟩
theorem Ok.get {i : Nat} {s : Sl} (h : Ok K B F H ss σ) (hi : ss[i]? = some s) (hv : s.val = some x) : ∃ v, σ[i]? = some (some v) ∧ AAt K H x v := by
  obtain ⟨o, ho, hs⟩ := h.at_ i s hi
  cases s with
  | no => cases hv
  | a y =>
    cases hv
    cases x with
    | d x => obtain ⟨v, r, h⟩ := hs; subst r; exact ⟨v, ho, h⟩
    | l xs => obtain ⟨a, vs, r, ha, hl⟩ := hs; subst r; exact ⟨_, ho, a, vs, rfl, ha, hl⟩
    | r xs => obtain ⟨a, vs, r, ha, hl⟩ := hs; subst r; exact ⟨_, ho, a, vs, rfl, Evl.ex_l (h.bf.trans h.ex) ha, hl⟩
    | w u => cases hs; exact ⟨u, ho, rfl⟩
    | o k u => obtain ⟨r, q⟩ := hs; subst r; exact ⟨u, ho, rfl, k.ex (h.bf.trans h.ex) q⟩
  | own xs =>
    cases hv
    obtain ⟨a, vs, r, hb, ha, hl⟩ := hs
    subst r
    exact ⟨_, ho, a, vs, rfl, ha, hl⟩
/-- a slot is stored -/
theorem Ok.set {i : Nat} {s : Sl} {v : V} (h : Ok K B F H ss σ) (hs : SAt K B F H s (some v)) (hf : s.rf = true → ∀ (j : Nat) t, j ≠ i → ss[j]? = some t → t.rf = true → σ[j]? ≠ some (some v)) : Ok K B F H (ss.set i s) (σ.set i (some v)) := by
  have hl : ∀ (m : Nat) t, (ss.set i s)[m]? = some t → m < ss.length := fun m t q => by
    have := (List.getElem?_eq_some_iff.mp q).1
    simpa using this
  refine ⟨h.bf, h.ex, by simp [h.len], fun j t hj => ?_, fun j k xs t a hj hk hr h1 h2 => ?_⟩
  · by_cases e : j = i
    · subst e
      have hl := hl _ _ hj
      rw [List.getElem?_set_self hl] at hj
      cases hj
      exact ⟨some v, by rw [List.getElem?_set_self (by rw [← h.len]; exact hl)], hs⟩
    · rw [List.getElem?_set_ne (Ne.symm e)] at hj
      obtain ⟨o, ho, q⟩ := h.at_ j t hj
      exact ⟨o, by rw [List.getElem?_set_ne (Ne.symm e)]; exact ho, q⟩
  · have two : ∀ (j k : Nat) t t', (ss.set i s)[j]? = some t → (ss.set i s)[k]? = some t' → t.rf = true → t'.rf = true → (σ.set i (some v))[j]? = some (some (.ref a)) → (σ.set i (some v))[k]? = some (some (.ref a)) → j = i → k ≠ i → False := fun j k t t' hj hk r1 r2 h1 h2 e ne => by
      subst e
      have hjl := hl _ _ hj
      rw [List.getElem?_set_self hjl] at hj
      cases hj
      rw [List.getElem?_set_self (by rw [← h.len]; exact hjl)] at h1
      cases h1
      rw [List.getElem?_set_ne (Ne.symm ne)] at hk h2
      exact hf r1 k t' ne hk r2 h2
    by_cases e : j = i
    · by_cases e2 : k = i
      · rw [e, e2]
      · exact (two j k _ _ hj hk rfl hr h1 h2 e e2).elim
    · by_cases e2 : k = i
      · exact (two k j _ _ hk hj hr rfl h2 h1 e2 e).elim
      · rw [List.getElem?_set_ne (Ne.symm e)] at hj h1
        rw [List.getElem?_set_ne (Ne.symm e2)] at hk h2
        exact h.sep j k xs t a hj hk hr h1 h2
theorem Ok.setD {i : Nat} {d : D} (h : Ok K B F H ss σ) (hv : At H d v) : Ok K B F H (ss.set i (.a (.d d))) (σ.set i (some v)) := h.set ⟨v, rfl, hv⟩ fun e => nomatch e
theorem Ok.setW {i : Nat} (h : Ok K B F H ss σ) : Ok K B F H (ss.set i (.a (.w v))) (σ.set i (some v)) := h.set rfl fun e => nomatch e
/-- an address that was free is in no slot of a list -/
theorem Ok.newNe {a : Addr} {j : Nat} {t : Sl} (h : Ok K B F H ss σ) (ha : H a = none) (hj : ss[j]? = some t) (hr : t.rf = true) : σ[j]? ≠ some (some (.ref a)) := fun hs => by
  obtain ⟨o, ho, q⟩ := h.at_ j t hj
  rw [hs] at ho
  cases ho
  cases t with
  | no => cases hr
  | own xs => obtain ⟨b, vs, r, _, q, _⟩ := q; cases r; rw [ha] at q; cases q
  | a x =>
    cases x with
    | d x => cases hr
    | w x => cases hr
    | l xs => obtain ⟨b, vs, r, q, _⟩ := q; cases r; rw [ha] at q; cases q
    | r xs => cases hr
    | o k u => cases hr
/-- an own list is changed -/
theorem Ok.chg {i : Nat} {xs ys : List D} {a : Addr} {ws : List V} (h : Ok K B F H ss σ) (hi : ss[i]? = some (.own xs)) (ho : σ[i]? = some (some (.ref a))) (hl : AtL H ys ws) : Ok K B F (upd H a (.lst ws)) (ss.set i (.own ys)) σ := by
  obtain ⟨o, ho', a', vs, r, hb, ha, _⟩ := h.at_ i _ hi
  rw [ho] at ho'
  cases ho'
  cases r
  have te : TEx H (upd H a (.lst ws)) := TEx.upd fun zs e => by rw [ha] at e; cases e; rfl
  have hil : i < ss.length := (List.getElem?_eq_some_iff.mp hi).1
  refine ⟨h.bf, fun b u e => ?_, by simp [h.len], fun j t hj => ?_, fun j k us t b hj hk hr h1 h2 => ?_⟩
  · rw [upd_ne (ne_of_none e hb)]
    exact h.ex b u e
  · by_cases e : j = i
    · subst e
      rw [List.getElem?_set_self hil] at hj
      cases hj
      exact ⟨_, ho, a, ws, rfl, hb, upd_same, AtL.mono te _ hl⟩
    · rw [List.getElem?_set_ne (Ne.symm e)] at hj
      obtain ⟨o, hoj, q⟩ := h.at_ j t hj
      refine ⟨o, hoj, ?_⟩
      have ne : ∀ b, o = some (.ref b) → t.rf = true → b ≠ a := by
        rintro b rfl hr rfl
        exact e (h.sep i j xs t _ hi hj hr ho hoj).symm
      cases t with
      | no => trivial
      | a x =>
        cases x with
        | d x => obtain ⟨v, r, q⟩ := q; exact ⟨v, r, At.mono te _ q⟩
        | l xs => obtain ⟨b, vs, r, q1, q2⟩ := q; exact ⟨b, vs, r, by rw [upd_ne (ne b r rfl)]; exact q1, AtL.mono te _ q2⟩
        | r xs => obtain ⟨b, vs, r, q1, q2⟩ := q; exact ⟨b, vs, r, q1, AtL.mono te _ q2⟩
        | w u => exact q
        | o k u => exact q
      | own zs =>
        obtain ⟨b, vs', r, q0, q1, q2⟩ := q
        exact ⟨b, vs', r, q0, by rw [upd_ne (ne b r rfl)]; exact q1, AtL.mono te _ q2⟩
  · have g : ∀ (m : Nat) t, (ss.set i (.own ys))[m]? = some t → t.rf = true → ∃ t', ss[m]? = some t' ∧ t'.rf = true ∧ ∀ us, t = .own us → ∃ us', t' = .own us' := fun m t q hr => by
      by_cases e : m = i
      · subst e; exact ⟨_, hi, rfl, fun us _ => ⟨xs, rfl⟩⟩
      · rw [List.getElem?_set_ne (Ne.symm e)] at q; exact ⟨t, q, hr, fun us z => ⟨us, z⟩⟩
    obtain ⟨t1, g1, r1, e1⟩ := g j _ hj rfl
    obtain ⟨u1, rfl⟩ := e1 us rfl
    obtain ⟨t2, g2, r2, e2⟩ := g k _ hk hr
    exact h.sep j k u1 t2 b g1 g2 r2 h1 h2
/-- a new list at a -/
theorem Ok.setN {i : Nat} {xs : List D} {a : Addr} {vs : List V} {H1 : Hp} (h : Ok K B F H ss σ) (e : Ex H H1) (ha : H a = none) (h1 : H1 a = some (.lst vs)) (hl : AtL H1 xs vs) : Ok K B F H1 (ss.set i (.own xs)) (σ.set i (some (.ref a))) :=
  (h.mono e).set ⟨a, vs, rfl, Evl.fresh_back h.ex ha, h1, hl⟩ fun _ j t ne hj hr => h.newNe ha hj hr
/-- one more object that isn't changed, and back -/
theorem Ok.up {p : Addr} {o : HO} (h : Ok K B F H ss σ) (hf : F p = none) (hp : H p = some o) (hn : ∀ (i : Nat) xs, ss[i]? = some (.own xs) → σ[i]? ≠ some (some (.ref p))) : Ok K B (upd F p o) H ss σ := by
  refine ⟨h.bf.trans (Evl.Ex.new hf), fun b u e => ?_, h.len, fun i s hi => ?_, h.sep⟩
  · by_cases hb : b = p
    · subst hb; rw [upd_same] at e; cases e; exact hp
    · rw [upd_ne hb] at e; exact h.ex b u e
  · obtain ⟨o', ho, q⟩ := h.at_ i s hi
    refine ⟨o', ho, ?_⟩
    cases s with
    | no => trivial
    | a x => cases x <;> exact q
    | own xs =>
      obtain ⟨b, vs, r, hb, q⟩ := q
      refine ⟨b, vs, r, ?_, q⟩
      rw [upd_ne]
      · exact hb
      · rintro rfl
        subst r
        exact hn i xs hi ho
theorem Ok.down {F' : Hp} (h : Ok K B F' H ss σ) (hb : Ex B F) (e : Ex F F') : Ok K B F H ss σ := by
  refine ⟨hb, e.trans h.ex, h.len, fun i s hi => ?_, h.sep⟩
  obtain ⟨o', ho, q⟩ := h.at_ i s hi
  refine ⟨o', ho, ?_⟩
  cases s with
  | no => trivial
  | a x => cases x <;> exact q
  | own xs =>
    obtain ⟨b, vs, r, hb, q⟩ := q
    exact ⟨b, vs, r, Evl.fresh_back e hb, q⟩
end
end G
/-! The data layer: expressions. -/
namespace G
open PySem L2
open Evl (Ex)

def Ev (K : PySem.W.Frag) (te : TE) (ss : List Sl) (x : A) : Prop := ∀ B F H σ (Q : VK), Ok K B F H ss σ → (∀ v H2, Ex H H2 → AAt K H2 x v → Q v H2) → te σ H Q
def EvN (K : PySem.W.Frag) (te : TE) (ss : List Sl) (xs : List D) : Prop := ∀ B F H σ (Q : VK), Ok K B F H ss σ → (∀ a vs H2, H a = none → Ex H H2 → H2 a = some (.lst vs) → AtL H2 xs vs → Q (.ref a) H2) → te σ H Q
def EvT (K : PySem.W.Frag) (tt : TT) (ss : List Sl) (b : Bool) : Prop := ∀ B F H σ (Q : Bool → Hp → Prop), Ok K B F H ss σ → (∀ H2, Ex H H2 → Q b H2) → tt σ H Q
def EvAs (K : PySem.W.Frag) (ta : TA) (ss : List Sl) (xs : List A) : Prop := ∀ B F H σ (Q : List V → Hp → Prop), Ok K B F H ss σ → (∀ vs H2, Ex H H2 → AAtL K H2 xs vs → Q vs H2) → ta σ H Q
def EvO (K : PySem.W.Frag) (to : TO) (ss : List Sl) (o : Option Int) : Prop := ∀ B F H σ (Q : Option Int → Hp → Prop), Ok K B F H ss σ → (∀ H2, Ex H H2 → Q o H2) → to σ H Q
/-- operators by values -/
def ROp (K : PySem.W.Frag) (r : R2) (x y z : A) : Prop := ∀ H v u (Q : VK), AAt K H x v → AAt K H y u → (∀ w H2, Ex H H2 → AAt K H2 z w → Q w H2) → r v u H Q
def ROpN (K : PySem.W.Frag) (r : R2) (x y : A) (zs : List D) : Prop := ∀ H v u (Q : VK), AAt K H x v → AAt K H y u → (∀ a vs H2, H a = none → Ex H H2 → H2 a = some (.lst vs) → AtL H2 zs vs → Q (.ref a) H2) → r v u H Q
/-- calls by values -/
def RCl (K : PySem.W.Frag) (r : List V → Hp → VK → Prop) (xs : List A) (z : A) : Prop := ∀ H vs (Q : VK), AAtL K H xs vs → (∀ w H2, Ex H H2 → AAt K H2 z w → Q w H2) → r vs H Q
def RClN (K : PySem.W.Frag) (r : List V → Hp → VK → Prop) (xs : List A) (zs : List D) : Prop := ∀ H vs (Q : VK), AAtL K H xs vs → (∀ a vs H2, H a = none → Ex H H2 → H2 a = some (.lst vs) → AtL H2 zs vs → Q (.ref a) H2) → r vs H Q

section
variable {K : PySem.W.Frag} {H : Hp} {v : V}
theorem ad_int {i : Int} : AAt K H (.d (.int i)) (.int i) := (at_int (H := H)).mpr rfl
theorem ad_int' {m n : Nat} (h : m = n) : AAt K H (.d (.int (n : Int))) (.int (m : Int)) := (at_int (H := H)).mpr (by rw [h])
theorem ad_str {i : Str} : AAt K H (.d (.str i)) (.str i) := (at_str (H := H)).mpr rfl
theorem ad_bl {i : Bool} : AAt K H (.d (.bl i)) (.bl i) := (at_bl (H := H)).mpr rfl
theorem ad_bl' {i j : Bool} (h : i = j) : AAt K H (.d (.bl i)) (.bl j) := (at_bl (H := H)).mpr (by rw [h])
theorem ad_non : AAt K H (.d .non) .non := (at_non (H := H)).mpr rfl
theorem ad_tup {l : List D} {a : Addr} {vs : List V} (ha : H a = some (.tup vs)) (hl : AtL H l vs) : AAt K H (.d (.tup l)) (.ref a) := (at_tup (H := H)).mpr ⟨a, vs, rfl, ha, hl⟩
theorem un_int {i : Int} (h : AAt K H (.d (.int i)) v) : v = .int i := (at_int (H := H)).mp h
theorem un_str {i : Str} (h : AAt K H (.d (.str i)) v) : v = .str i := (at_str (H := H)).mp h
theorem un_bl {i : Bool} (h : AAt K H (.d (.bl i)) v) : v = .bl i := (at_bl (H := H)).mp h
theorem un_non (h : AAt K H (.d .non) v) : v = .non := (at_non (H := H)).mp h
theorem ad_tu {f : Bool} {l : List D} {a : Addr} {vs : List V} (ha : TupAt H f a vs) (hl : AtL H l vs) : AAt K H (.d (.tu f l)) (.ref a) := (at_tu (H := H)).mpr ⟨a, vs, rfl, ha, hl⟩
theorem un_tu {f : Bool} {l : List D} (h : AAt K H (.d (.tu f l)) v) : ∃ a vs, v = .ref a ∧ TupAt H f a vs ∧ AtL H l vs := (at_tu (H := H)).mp h
theorem un_tup {l : List D} (h : AAt K H (.d (.tup l)) v) : ∃ a vs, v = .ref a ∧ H a = some (.tup vs) ∧ AtL H l vs := (at_tup (H := H)).mp h
end

section
variable {K : PySem.W.Frag} {ss : List Sl} {ta tb te tc : TE} {t u : TT} {x y z : A} {r : R2} {d e : D} {xs ys zs : List D}

theorem EvN.l (h : EvN K te ss xs) : Ev K te ss (.l xs) := fun B F H σ Q ok q => h B F H σ Q ok fun a vs H2 _ e h1 h2 => q _ H2 e ⟨a, vs, rfl, h1, h2⟩
theorem Ev.to (h : Ev K te ss x) (e : x = y) : Ev K te ss y := e ▸ h
theorem EvN.to (h : EvN K te ss xs) (e : xs = ys) : EvN K te ss ys := e ▸ h
theorem EvT.to {a b : Bool} (h : EvT K t ss a) (e : a = b) : EvT K t ss b := e ▸ h
theorem ev_var {i : Nat} {s : Sl} (h : ss[i]? = some s) (hv : s.val = some x) : Ev K (tVar i) ss x := fun B F H σ Q ok q => by
  obtain ⟨v, ho, ha⟩ := ok.get h hv
  exact ⟨v, ho, q v H (Ex.refl H) ha⟩
theorem ev_int {i : Int} : Ev K (tC (.int i)) ss (.d (.int i)) := fun B F H σ Q ok q => q _ H (Ex.refl H) ad_int
theorem ev_str {i : Str} : Ev K (tC (.str i)) ss (.d (.str i)) := fun B F H σ Q ok q => q _ H (Ex.refl H) ad_str
theorem ev_bl {i : Bool} : Ev K (tC (.bl i)) ss (.d (.bl i)) := fun B F H σ Q ok q => q _ H (Ex.refl H) ad_bl
theorem ev_non : Ev K (tC .non) ss (.d .non) := fun B F H σ Q ok q => q _ H (Ex.refl H) ad_non
theorem ev_op (ha : Ev K ta ss x) (hb : Ev K tb ss y) (hr : ROp K r x y z) : Ev K (tOp r ta tb) ss z := fun B F H σ Q ok q =>
  ha B F H σ _ ok fun v H2 e2 r1 => hb B F H2 σ _ (ok.mono e2) fun u H3 e3 r2 => hr H3 v u Q (r1.ex e3) r2 fun w H4 e4 r3 => q w H4 ((e2.trans e3).trans e4) r3
theorem evn_op (ha : Ev K ta ss x) (hb : Ev K tb ss y) (hr : ROpN K r x y zs) : EvN K (tOp r ta tb) ss zs := fun B F H σ Q ok q =>
  ha B F H σ _ ok fun v H2 e2 r1 => hb B F H2 σ _ (ok.mono e2) fun u H3 e3 r2 => hr H3 v u Q (r1.ex e3) r2 fun a vs H4 ha e4 h1 h2 => q a vs H4 (Evl.fresh_back (e2.trans e3) ha) ((e2.trans e3).trans e4) h1 h2

/-! ### operators -/
theorem rop_i {g : Int → Int → Int} {i j : Int} : ROp K (rI0 fun i j => .int (g i j)) (.d (.int i)) (.d (.int j)) (.d (.int (g i j))) := fun H v u Q h1 h2 q =>
  ⟨i, j, un_int h1, un_int h2, q _ H (Ex.refl H) ad_int⟩
theorem rop_ic {C : Int → Int → Prop} {g : Int → Int → Int} {i j : Int} (c : C i j) : ROp K (rI C fun i j => .int (g i j)) (.d (.int i)) (.d (.int j)) (.d (.int (g i j))) := fun H v u Q h1 h2 q =>
  ⟨i, j, un_int h1, un_int h2, c, q _ H (Ex.refl H) ad_int⟩
theorem rop_ib {g : Int → Int → Bool} {i j : Int} : ROp K (rI0 fun i j => .bl (g i j)) (.d (.int i)) (.d (.int j)) (.d (.bl (g i j))) := fun H v u Q h1 h2 q =>
  ⟨i, j, un_int h1, un_int h2, q _ H (Ex.refl H) ad_bl⟩
theorem rop_eqI {i j : Int} : ROp K rEq (.d (.int i)) (.d (.int j)) (.d (.bl (decide (i = j)))) := fun H v u Q h1 h2 q => by
  rw [un_int h1, un_int h2]
  refine ⟨rfl, q _ H (Ex.refl H) (ad_bl' ?_)⟩
  simp
theorem rop_neI {i j : Int} : ROp K rNe (.d (.int i)) (.d (.int j)) (.d (.bl (!decide (i = j)))) := fun H v u Q h1 h2 q => by
  rw [un_int h1, un_int h2]
  refine ⟨rfl, q _ H (Ex.refl H) (ad_bl' ?_)⟩
  simp
theorem rop_eqS {i j : Str} : ROp K rEq (.d (.str i)) (.d (.str j)) (.d (.bl (decide (i = j)))) := fun H v u Q h1 h2 q => by
  rw [un_str h1, un_str h2]
  refine ⟨rfl, q _ H (Ex.refl H) (ad_bl' ?_)⟩
  simp
theorem rop_neS {i j : Str} : ROp K rNe (.d (.str i)) (.d (.str j)) (.d (.bl (!decide (i = j)))) := fun H v u Q h1 h2 q => by
  rw [un_str h1, un_str h2]
  refine ⟨rfl, q _ H (Ex.refl H) (ad_bl' ?_)⟩
  simp
theorem rop_eqD {b : Bool} (h1 : SeqAt.shaped d.toP = true) (h2 : SeqAt.shaped e.toP = true) (hb : PyData.eqv d.toP e.toP = b) : ROp K (rEqD K) (.d d) (.d e) (.d (.bl b)) := fun H v u Q r1 r2 q =>
  ⟨d.toP, e.toP, At.dp d r1, At.dp e r2, h1, h2, q _ H (Ex.refl H) (ad_bl' hb.symm)⟩
theorem rop_neD {b : Bool} (h1 : SeqAt.shaped d.toP = true) (h2 : SeqAt.shaped e.toP = true) (hb : PyData.eqv d.toP e.toP = b) : ROp K (rNeD K) (.d d) (.d e) (.d (.bl (!b))) := fun H v u Q r1 r2 q =>
  ⟨d.toP, e.toP, At.dp d r1, At.dp e r2, h1, h2, q _ H (Ex.refl H) (ad_bl' (by rw [hb]))⟩
theorem rop_neL {b : Bool} (h1 : SeqAt.shaped (.list (D.toPs xs)) = true) (h2 : SeqAt.shaped (.list (D.toPs ys)) = true) (hb : PyData.eqvAll (D.toPs xs) (D.toPs ys) = b) : ROp K (rNeD K) (.l xs) (.l ys) (.d (.bl (!b))) := fun H v u Q r1 r2 q => by
  obtain ⟨a, vs, rfl, ha, hl⟩ := r1
  obtain ⟨a2, vs2, rfl, ha2, hl2⟩ := r2
  refine ⟨.list (D.toPs xs), .list (D.toPs ys), .lst (SqL.of ha) (AtL.dp xs hl), .lst (SqL.of ha2) (AtL.dp ys hl2), h1, h2, q _ H (Ex.refl H) (ad_bl' ?_)⟩
  rw [PyData.eqv, hb]
theorem rop_eqL {b : Bool} (h1 : SeqAt.shaped (.list (D.toPs xs)) = true) (h2 : SeqAt.shaped (.list (D.toPs ys)) = true) (hb : PyData.eqvAll (D.toPs xs) (D.toPs ys) = b) : ROp K (rEqD K) (.l xs) (.l ys) (.d (.bl b)) := fun H v u Q r1 r2 q => by
  obtain ⟨a, vs, rfl, ha, hl⟩ := r1
  obtain ⟨a2, vs2, rfl, ha2, hl2⟩ := r2
  refine ⟨.list (D.toPs xs), .list (D.toPs ys), .lst (SqL.of ha) (AtL.dp xs hl), .lst (SqL.of ha2) (AtL.dp ys hl2), h1, h2, q _ H (Ex.refl H) (ad_bl' ?_)⟩
  rw [PyData.eqv, hb]
/-- items by place -/
theorem atI_at {H : Hp} {vs : List V} {i : Int} (h : AtL H xs vs) (e : atI xs i = some d) : ∃ v, atI vs i = some v ∧ At H d v := by
  unfold atI at e ⊢
  rw [h.length]
  cases q : ixN xs.length i with
  | none => rw [q] at e; cases e
  | some j =>
    rw [q] at e
    exact h.get e
theorem rop_ixT {f : Bool} {i : Int} (e : atI xs i = some d) : ROp K (rIxT K) (.d (.tu f xs)) (.d (.int i)) (.d d) := fun H v u Q h1 h2 q => by
  obtain ⟨a, vs, rfl, ha, hl⟩ := un_tu h1
  obtain ⟨w, h3, h4⟩ := atI_at hl e
  exact ⟨a, vs, i, w, rfl, un_int h2, ha.sq, h3, q w H (Ex.refl H) h4⟩
theorem rop_ixL {i : Int} (e : atI xs i = some d) : ROp K (rIxL K) (.l xs) (.d (.int i)) (.d d) := fun H v u Q h1 h2 q => by
  obtain ⟨a, vs, rfl, ha, hl⟩ := h1
  obtain ⟨w, h3, h4⟩ := atI_at hl e
  exact ⟨a, vs, i, w, rfl, un_int h2, SqL.of ha, h3, q w H (Ex.refl H) h4⟩
theorem rop_ixR {i : Int} (e : atI xs i = some d) : ROp K (rIxL K) (.r xs) (.d (.int i)) (.d d) := fun H v u Q h1 h2 q => by
  obtain ⟨a, vs, rfl, ha, hl⟩ := h1
  obtain ⟨w, h3, h4⟩ := atI_at hl e
  exact ⟨a, vs, i, w, rfl, un_int h2, ha, h3, q w H (Ex.refl H) h4⟩
theorem rop_ixS {s : Str} {i : Int} {c : Nat} (hs : s.length ≤ 100000) (e : atI s.cps.toList i = some c) : ROp K rIxS (.d (.str s)) (.d (.int i)) (.d (.str ⟨#[c]⟩)) := fun H v u Q h1 h2 q =>
  ⟨s, i, c, un_str h1, un_int h2, Evl.sz_of hs, e, q _ H (Ex.refl H) ad_str⟩
theorem rop_catA (hz : xs.length + ys.length ≤ 100000) : ROp K (rCatA K) (.d (.tup xs)) (.d (.tup ys)) (.d (.tup (xs ++ ys))) := fun H v u Q h1 h2 q => by
  obtain ⟨a, vs, rfl, ha, hl⟩ := un_tup h1
  obtain ⟨b, ws, rfl, hb, hm⟩ := un_tup h2
  have l1 := hl.length
  have l2 := hm.length
  refine ⟨a, b, vs, ws, rfl, rfl, SqT.of ha, SqT.of hb, Evl.sz_of (by omega), fun e => ?_, fun _ e => ?_, fun _ _ p hp => ?_⟩
  · subst e
    have : xs = [] := List.eq_nil_of_length_eq_zero (by rw [← l1]; rfl)
    subst this
    exact q _ H (Ex.refl H) h2
  · subst e
    have : ys = [] := List.eq_nil_of_length_eq_zero (by rw [← l2]; rfl)
    subst this
    refine q _ H (Ex.refl H) ?_
    rw [List.append_nil]
    exact h1
  · have e : Ex H (upd H p (.tup (vs ++ ws))) := Evl.Ex.new hp
    exact q _ _ e (ad_tup upd_same ((hl.append hm).ex e))
theorem rop_cat (hz : xs.length + ys.length ≤ 100000) : ROpN K rCat (.l xs) (.l ys) (xs ++ ys) := fun H v u Q h1 h2 q => by
  obtain ⟨a, vs, rfl, ha, hl⟩ := h1
  obtain ⟨b, ws, rfl, hb, hm⟩ := h2
  have l1 := hl.length
  have l2 := hm.length
  refine ⟨a, b, vs, ws, rfl, rfl, ha, hb, Evl.sz_of (by omega), fun p hp => ?_⟩
  have e : Ex H (upd H p (.lst (vs ++ ws))) := Evl.Ex.new hp
  exact q p _ _ hp e upd_same ((hl.append hm).ex e)
def rAddS : R2 := fun x y H Q => ∃ i j, x = .str i ∧ y = .str j ∧ i.length + j.length ≤ sizeLine ∧ Q (.str (i ++ j)) H
theorem op_addS {X : Cx} : OpR X (binaryOp .Add) rAddS := op_add_str
theorem rop_addS {s s' : Str} (h : s.length + s'.length ≤ 100000) : ROp K rAddS (.d (.str s)) (.d (.str s')) (.d (.str (s ++ s'))) := fun H v u Q h1 h2 q =>
  ⟨s, s', un_str h1, un_str h2, Evl.sz_of h, q _ H (Ex.refl H) ad_str⟩
/-- text in a list, a tuple of texts -/
theorem all_flat (l : List Str) : (l.map V.str).all flatV = true := by
  rw [List.all_map, List.all_eq_true]
  intro x _
  rfl
theorem inV_strs (s : Str) (l : List Str) : inV (.str s) (l.map V.str) = decide (s ∈ l) := by
  unfold inV
  rw [List.any_map]
  rw [Bool.eq_iff_iff, List.any_eq_true, decide_eq_true_eq]
  constructor
  · rintro ⟨x, hx, he⟩
    have : x = s := by simpa [eqV] using he
    rw [← this]; exact hx
  · intro h
    exact ⟨s, h, by simp [eqV]⟩
theorem rop_inT {f : Bool} {s : Str} {l : List Str} : ROp K (rIn K false) (.d (.str s)) (.d (.tu f (l.map .str))) (.d (.bl (decide (s ∈ l)))) := fun H v u Q h1 h2 q => by
  obtain ⟨a, vs, rfl, ha, hl⟩ := un_tu h2
  rw [atL_strs.mp hl] at ha
  rw [un_str h1]
  refine ⟨a, _, rfl, .inr (ha.sq), rfl, all_flat l, q _ H (Ex.refl H) (ad_bl' ?_)⟩
  rw [if_neg Bool.false_ne_true, inV_strs]
theorem rop_inL {s : Str} {l : List Str} : ROp K (rIn K false) (.d (.str s)) (.l (l.map .str)) (.d (.bl (decide (s ∈ l)))) := fun H v u Q h1 h2 q => by
  obtain ⟨a, vs, rfl, ha, hl⟩ := h2
  rw [atL_strs.mp hl] at ha
  rw [un_str h1]
  refine ⟨a, _, rfl, .inl (SqL.of ha), rfl, all_flat l, q _ H (Ex.refl H) (ad_bl' ?_)⟩
  rw [if_neg Bool.false_ne_true, inV_strs]

/-! ### displays, slices -/
theorem ea_nil : EvAs K tNil ss [] := fun B F H σ Q ok q => q [] H (Ex.refl H) rfl
theorem ea_cons {tr : TA} {as : List A} (h : Ev K ta ss x) (hr : EvAs K tr ss as) : EvAs K (tCons ta tr) ss (x :: as) := fun B F H σ Q ok q =>
  h B F H σ _ ok fun v H2 e2 r1 => hr B F H2 σ _ (ok.mono e2) fun vs H3 e3 r2 => q (v :: vs) H3 (e2.trans e3) ⟨v, vs, rfl, r1.ex e3, r2⟩
theorem aatL_d {H : Hp} : ∀ {l : List D} {vs : List V}, AAtL K H (l.map .d) vs → AtL H l vs
  | [], _, h => atL_nil.mpr h
  | d :: l, _, ⟨v, ws, r, h1, h2⟩ => atL_cons.mpr ⟨v, ws, r, h1, aatL_d h2⟩
theorem aatL_of {H : Hp} : ∀ {l : List D} {vs : List V}, AtL H l vs → AAtL K H (l.map .d) vs
  | [], _, h => atL_nil.mp h
  | d :: l, _, h => by
    obtain ⟨v, ws, r, h1, h2⟩ := atL_cons.mp h
    exact ⟨v, ws, r, h1, aatL_of h2⟩
/-- a list of readings that are data -/
def EvDs (K : PySem.W.Frag) (ta : TA) (ss : List Sl) (xs : List D) : Prop := EvAs K ta ss (xs.map .d)
theorem eds_nil : EvDs K tNil ss [] := ea_nil
theorem eds_cons {tr : TA} (h : Ev K ta ss (.d d)) (hr : EvDs K tr ss xs) : EvDs K (tCons ta tr) ss (d :: xs) := ea_cons h hr
theorem ev_tup {ta : TA} (h : EvDs K ta ss xs) (hz : xs.length ≤ 100000) : Ev K (tTup ta) ss (.d (.tup xs)) := fun B F H σ Q ok q =>
  h B F H σ _ ok fun vs H2 e2 r => by
    have r' := aatL_d r
    refine ⟨Evl.sz_of (by rw [r'.length]; exact hz), fun p hp => ?_⟩
    have e : Ex H2 (upd H2 p (.tup vs)) := Evl.Ex.new hp
    exact q _ _ (e2.trans e) (ad_tup upd_same (r'.ex e))
theorem evn_lst {ta : TA} (h : EvDs K ta ss xs) (hz : xs.length ≤ 100000) : EvN K (tLst ta) ss xs := fun B F H σ Q ok q =>
  h B F H σ _ ok fun vs H2 e2 r => by
    have r' := aatL_d r
    refine ⟨Evl.sz_of (by rw [r'.length]; exact hz), fun p hp => ?_⟩
    have e : Ex H2 (upd H2 p (.lst vs)) := Evl.Ex.new hp
    exact q _ _ _ (Evl.fresh_back e2 hp) (e2.trans e) upd_same (r'.ex e)
theorem eo_none : EvO K tNoPart ss none := fun B F H σ Q ok q => q H (Ex.refl H)
theorem eo_some {i : Int} (h : Ev K te ss (.d (.int i))) : EvO K (tPart te) ss (some i) := fun B F H σ Q ok q => h B F H σ _ ok fun v H2 e2 r => ⟨i, un_int r, q H2 e2⟩
def cut {α : Type} (xs : List α) (lo hi : Option Int) : List α := (xs.drop (HT.sIx xs.length 0 lo)).take (HT.sIx xs.length xs.length hi - HT.sIx xs.length 0 lo)
theorem cut_at {H : Hp} {vs : List V} {lo hi : Option Int} (h : AtL H xs vs) : AtL H (cut xs lo hi) (cutV vs lo hi) := by
  unfold cut cutV
  rw [h.length]
  exact (h.drop _).take _
theorem cut_all {α : Type} {xs : List α} {lo hi : Option Int} (h : HT.sIx xs.length 0 lo = 0 ∧ HT.sIx xs.length xs.length hi = xs.length) : cut xs lo hi = xs := by
  unfold cut
  rw [h.1, h.2]
  simp
theorem ev_slT {tl th : TO} {lo hi : Option Int} (h : Ev K te ss (.d (.tup xs))) (h1 : EvO K tl ss lo) (h2 : EvO K th ss hi) : Ev K (tSl (rSlA K) te tl th) ss (.d (.tup (cut xs lo hi))) := fun B F H σ Q ok q =>
  h B F H σ _ ok fun v H2 e2 r => h1 B F H2 σ _ (ok.mono e2) fun H3 e3 => h2 B F H3 σ _ ((ok.mono e2).mono e3) fun H4 e4 => by
    have r := AAt.ex (e3.trans e4) r
    obtain ⟨a, vs, rfl, ha, hl⟩ := un_tup r
    refine ⟨a, vs, rfl, SqT.of ha, fun hw => ?_, fun _ p hp => ?_⟩
    · rw [hl.length] at hw
      refine q _ H4 ((e2.trans e3).trans e4) ?_
      rw [cut_all hw]
      exact r
    · have e : Ex H4 (upd H4 p (.tup (cutV vs lo hi))) := Evl.Ex.new hp
      exact q _ _ (((e2.trans e3).trans e4).trans e) (ad_tup upd_same ((cut_at hl).ex e))
theorem evn_slL {tl th : TO} {lo hi : Option Int} (h : Ev K te ss (.l xs)) (h1 : EvO K tl ss lo) (h2 : EvO K th ss hi) : EvN K (tSl (rSlL K) te tl th) ss (cut xs lo hi) := fun B F H σ Q ok q =>
  h B F H σ _ ok fun v H2 e2 r => h1 B F H2 σ _ (ok.mono e2) fun H3 e3 => h2 B F H3 σ _ ((ok.mono e2).mono e3) fun H4 e4 => by
    obtain ⟨a, vs, rfl, ha, hl⟩ := AAt.ex (e3.trans e4) r
    refine ⟨a, vs, rfl, SqL.of ha, fun p hp => ?_⟩
    have e : Ex H4 (upd H4 p (.lst (cutV vs lo hi))) := Evl.Ex.new hp
    exact q _ _ _ (Evl.fresh_back ((e2.trans e3).trans e4) hp) (((e2.trans e3).trans e4).trans e) upd_same ((cut_at hl).ex e)
theorem evn_slR {tl th : TO} {lo hi : Option Int} (h : Ev K te ss (.r xs)) (h1 : EvO K tl ss lo) (h2 : EvO K th ss hi) : EvN K (tSl (rSlL K) te tl th) ss (cut xs lo hi) := fun B F H σ Q ok q =>
  h B F H σ _ ok fun v H2 e2 r => h1 B F H2 σ _ (ok.mono e2) fun H3 e3 => h2 B F H3 σ _ ((ok.mono e2).mono e3) fun H4 e4 => by
    obtain ⟨a, vs, rfl, ha, hl⟩ := AAt.ex (e3.trans e4) r
    refine ⟨a, vs, rfl, ha, fun p hp => ?_⟩
    have e : Ex H4 (upd H4 p (.lst (cutV vs lo hi))) := Evl.Ex.new hp
    exact q _ _ _ (Evl.fresh_back ((e2.trans e3).trans e4) hp) (((e2.trans e3).trans e4).trans e) upd_same ((cut_at hl).ex e)
theorem ev_slS {tl th : TO} {lo hi : Option Int} {s : Str} (h : Ev K te ss (.d (.str s))) (h1 : EvO K tl ss lo) (h2 : EvO K th ss hi) (hz : s.length ≤ 100000) : Ev K (tSl rSlS te tl th) ss (.d (.str (cutS s lo hi))) := fun B F H σ Q ok q =>
  h B F H σ _ ok fun v H2 e2 r => h1 B F H2 σ _ (ok.mono e2) fun H3 e3 => h2 B F H3 σ _ ((ok.mono e2).mono e3) fun H4 e4 =>
    ⟨s, un_str r, Evl.sz_of hz, q _ H4 ((e2.trans e3).trans e4) ad_str⟩

/-! ### tests -/
theorem et_test {b : Bool} (h : Ev K te ss (.d (.bl b))) : EvT K (tTest te) ss b := fun B F H σ Q ok q => h B F H σ _ ok fun v H2 e2 r => ⟨b, un_bl r, q H2 e2⟩
theorem et_B {b : Bool} (h : Ev K te ss (.d (.bl b))) : EvT K (tB te) ss b := fun B F H σ Q ok q => h B F H σ _ ok fun v H2 e2 r => ⟨b, un_bl r, q H2 e2⟩
theorem et_and {a b : Bool} (h1 : EvT K t ss a) (h2 : a = true → EvT K u ss b) : EvT K (tAnd t u) ss (a && b) := fun B F H σ Q ok q => h1 B F H σ _ ok fun H2 e2 => by
  cases a with
  | true => exact h2 rfl B F H2 σ Q (ok.mono e2) fun H3 e3 => q H3 (e2.trans e3)
  | false => exact q H2 e2
theorem et_or {a b : Bool} (h1 : EvT K t ss a) (h2 : a = false → EvT K u ss b) : EvT K (tOr t u) ss (a || b) := fun B F H σ Q ok q => h1 B F H σ _ ok fun H2 e2 => by
  cases a with
  | false => exact h2 rfl B F H2 σ Q (ok.mono e2) fun H3 e3 => q H3 (e2.trans e3)
  | true => exact q H2 e2
theorem et_not {a : Bool} (h1 : EvT K t ss a) : EvT K (tNot t) ss (!a) := fun B F H σ Q ok q => h1 B F H σ _ ok q
theorem ev_orV {a b : Bool} (h1 : Ev K ta ss (.d (.bl a))) (h2 : a = false → Ev K tb ss (.d (.bl b))) : Ev K (tOrV ta tb) ss (.d (.bl (a || b))) := fun B F H σ Q ok q => h1 B F H σ _ ok fun v H2 e2 r => by
  refine ⟨a, un_bl r, ?_⟩
  cases a with
  | false => exact h2 rfl B F H2 σ Q (ok.mono e2) fun v H3 e3 r => q v H3 (e2.trans e3) r
  | true => exact q _ H2 e2 ad_bl
theorem ev_andV {a b : Bool} (h1 : Ev K ta ss (.d (.bl a))) (h2 : a = true → Ev K tb ss (.d (.bl b))) : Ev K (tAndV ta tb) ss (.d (.bl (a && b))) := fun B F H σ Q ok q => h1 B F H σ _ ok fun v H2 e2 r => by
  refine ⟨a, un_bl r, ?_⟩
  cases a with
  | true => exact h2 rfl B F H2 σ Q (ok.mono e2) fun v H3 e3 r => q v H3 (e2.trans e3) r
  | false => exact q _ H2 e2 ad_bl

/-! ### calls of the built-in -/
theorem ev_cb {r : List V → Hp → VK → Prop} {ta : TA} {as : List A} (h : EvAs K ta ss as) (hr : RCl K r as z) : Ev K (tCB r ta) ss z := fun B F H σ Q ok q =>
  h B F H σ _ ok fun vs H2 e2 r2 => hr H2 vs Q r2 fun w H3 e3 r3 => q w H3 (e2.trans e3) r3
theorem evn_cb {r : List V → Hp → VK → Prop} {ta : TA} {as : List A} (h : EvAs K ta ss as) (hr : RClN K r as zs) : EvN K (tCB r ta) ss zs := fun B F H σ Q ok q =>
  h B F H σ _ ok fun vs H2 e2 r2 => hr H2 vs Q r2 fun a vs H3 ha e3 r3 r4 => q a vs H3 (Evl.fresh_back e2 ha) (e2.trans e3) r3 r4
theorem aatL1 {H : Hp} {vs : List V} (h : AAtL K H [x] vs) : ∃ v, vs = [v] ∧ AAt K H x v := by
  obtain ⟨v, ws, rfl, h1, rfl⟩ := h
  exact ⟨v, rfl, h1⟩
theorem aatL2 {H : Hp} {vs : List V} (h : AAtL K H [x, y] vs) : ∃ v w, vs = [v, w] ∧ AAt K H x v ∧ AAt K H y w := by
  obtain ⟨v, ws, rfl, h1, h2⟩ := h
  obtain ⟨w, rfl, h3⟩ := aatL1 h2
  exact ⟨v, w, rfl, h1, h3⟩
theorem call_lenS {X : Cx} : CallR X (.builtin "len") (Evl.rLenS X.K) := call_len_seq
theorem rcl_lenT {f : Bool} : RCl K (Evl.rLenS K) [.d (.tu f xs)] (.d (.int (xs.length : Int))) := fun H vs Q h q => by
  obtain ⟨v, rfl, h1⟩ := aatL1 h
  obtain ⟨a, ws, rfl, ha, hl⟩ := un_tu h1
  exact ⟨a, ws, rfl, .inr (ha.sq), q _ H (Ex.refl H) (ad_int' hl.length)⟩
theorem rcl_lenL : RCl K (Evl.rLenS K) [.l xs] (.d (.int (xs.length : Int))) := fun H vs Q h q => by
  obtain ⟨v, rfl, h1⟩ := aatL1 h
  obtain ⟨a, ws, rfl, ha, hl⟩ := h1
  exact ⟨a, ws, rfl, .inl (SqL.of ha), q _ H (Ex.refl H) (ad_int' hl.length)⟩
theorem rcl_lenR : RCl K (Evl.rLenS K) [.r xs] (.d (.int (xs.length : Int))) := fun H vs Q h q => by
  obtain ⟨v, rfl, h1⟩ := aatL1 h
  obtain ⟨a, ws, rfl, ha, hl⟩ := h1
  exact ⟨a, ws, rfl, .inl ha, q _ H (Ex.refl H) (ad_int' hl.length)⟩
def rLenT : List V → Hp → VK → Prop := fun xs H Q => ∃ z, xs = [.str z] ∧ z.length ≤ sizeLine ∧ Q (.int z.length) H
theorem call_lenT {X : Cx} : CallR X (.builtin "len") rLenT := call_len_str
theorem rcl_lenS {s : Str} (hz : s.length ≤ 100000) : RCl K rLenT [.d (.str s)] (.d (.int (s.length : Int))) := fun H vs Q h q => by
  obtain ⟨v, rfl, h1⟩ := aatL1 h
  exact ⟨s, by rw [un_str h1], Evl.sz_of hz, q _ H (Ex.refl H) ad_int⟩
theorem call_listS {X : Cx} : CallR X (.type "list") (Evl.rListS X.K) := call_list_of
theorem rcl_listT {f : Bool} : RClN K (Evl.rListS K) [.d (.tu f xs)] xs := fun H vs Q h q => by
  obtain ⟨v, rfl, h1⟩ := aatL1 h
  obtain ⟨a, ws, rfl, ha, hl⟩ := un_tu h1
  refine ⟨a, ws, rfl, .inr (ha.sq), fun p hp => ?_⟩
  have e : Ex H (upd H p (.lst ws)) := Evl.Ex.new hp
  exact q p ws _ hp e upd_same (hl.ex e)
theorem rcl_listL : RClN K (Evl.rListS K) [.l xs] xs := fun H vs Q h q => by
  obtain ⟨v, rfl, h1⟩ := aatL1 h
  obtain ⟨a, ws, rfl, ha, hl⟩ := h1
  refine ⟨a, ws, rfl, .inl (SqL.of ha), fun p hp => ?_⟩
  have e : Ex H (upd H p (.lst ws)) := Evl.Ex.new hp
  exact q p ws _ hp e upd_same (hl.ex e)
def rTupS (K : PySem.W.Frag) : List V → Hp → VK → Prop := fun xs H Q => ∃ p ys, xs = [.ref p] ∧ ((SqL K H p ys ∧ ∀ l, H l = none → Q (.ref l) (upd H l (.tup ys))) ∨ (SqT K H p ys ∧ Q (.ref p) H))
theorem call_tupS {X : Cx} : CallR X (.type "tuple") (rTupS X.K) := call_tuple_of
theorem rcl_tupL : RCl K (rTupS K) [.l xs] (.d (.tup xs)) := fun H vs Q h q => by
  obtain ⟨v, rfl, h1⟩ := aatL1 h
  obtain ⟨a, ws, rfl, ha, hl⟩ := h1
  refine ⟨a, ws, rfl, .inl ⟨SqL.of ha, fun p hp => ?_⟩⟩
  have e : Ex H (upd H p (.tup ws)) := Evl.Ex.new hp
  exact q _ _ e (ad_tup upd_same (hl.ex e))
/-- tuple(a list), its object known -/
def rTupF (K : PySem.W.Frag) : List V → Hp → VK → Prop := fun xs H Q => ∃ p ys, xs = [.ref p] ∧ SqL K H p ys ∧ ∀ (l : Addr) (o : Obj), H l = none → o.dict = none → Q (.ref l) (upd H l (.frz o (.tup ys)))
theorem call_tupF {X : Cx} : CallR X (.type "tuple") (rTupF X.K) := by
  intro pins s σ H vs us Q I r h
  obtain ⟨p, ys, rfl, hs, q⟩ := h
  obtain ⟨u, rfl, ru⟩ := vals1 r
  obtain rfl : u = .ref p := ru
  obtain ⟨its, rv, pl, hz⟩ := I.list hs
  refine call_tuple_list pl.isList (fun h' hk => ?_) (by rw [List.size_toArray, ← rv.length]; exact hz)
  have I1 : Inv X pins σ H { s with heap := h' } := I.kept (t' := s.toks) hk
  have I2 : Inv X pins σ (upd H h'.objs.size (.frz { cls := .type "tuple", data := .seq its.toArray } (.tup ys))) { s with heap := h'.push { cls := .type "tuple", data := .seq its.toArray } } :=
    I1.laid (t' := s.toks) (fun b o e => Heap.get?_push_of_some _ e) (Nat.le_refl _) (show ObjOk X.prog X.w _ _ _ (.frz _ (.tup ys)) from ⟨Heap.get?_push_size _ rfl, hz, its, rv, PyProof.Rows.IsTup.new _ _⟩)
  exact ⟨.ref h'.objs.size, _, I2, rfl, q _ _ (I1.hok.fresh (Nat.le_refl _)) rfl⟩
theorem rcl_tupF : RCl K (rTupF K) [.l xs] (.d (.tupF xs)) := fun H vs Q h q => by
  obtain ⟨v, rfl, h1⟩ := aatL1 h
  obtain ⟨a, ws, rfl, ha, hl⟩ := h1
  refine ⟨a, ws, rfl, SqL.of ha, fun p o hp hd => ?_⟩
  have e : Ex H (upd H p (.frz o (.tup ws))) := Evl.Ex.new hp
  exact q _ _ e (ad_tu ⟨o, upd_same, hd⟩ (hl.ex e))
theorem rcl_sum {ns : List Int} : RCl K (rSum K) [.l (ns.map .int)] (.d (.int ns.sum)) := fun H vs Q h q => by
  obtain ⟨v, rfl, h1⟩ := aatL1 h
  obtain ⟨a, ws, rfl, ha, hl⟩ := h1
  rw [atL_ints.mp hl] at ha
  exact ⟨a, ns, rfl, SqL.of ha, q _ H (Ex.refl H) ad_int⟩
theorem rcl_any {bs : List Bool} : RCl K (rAny K) [.l (bs.map .bl)] (.d (.bl (bs.any id))) := fun H vs Q h q => by
  obtain ⟨v, rfl, h1⟩ := aatL1 h
  obtain ⟨a, ws, rfl, ha, hl⟩ := h1
  rw [atL_bls.mp hl] at ha
  exact ⟨a, bs, rfl, SqL.of ha, q _ H (Ex.refl H) ad_bl⟩
def rMax2 : List V → Hp → VK → Prop := fun xs H Q => ∃ i j, xs = [.int i, .int j] ∧ Q (.int (if j > i then j else i)) H
def rMin2 : List V → Hp → VK → Prop := fun xs H Q => ∃ i j, xs = [.int i, .int j] ∧ Q (.int (if j < i then j else i)) H
theorem call_max2' {X : Cx} (hc : X.calm = true) : CallR X (.builtin "max") rMax2 := call_max2 hc
theorem call_min2' {X : Cx} (hc : X.calm = true) : CallR X (.builtin "min") rMin2 := call_min2 hc
theorem rcl_max {i j : Int} : RCl K rMax2 [.d (.int i), .d (.int j)] (.d (.int (if j > i then j else i))) := fun H vs Q h q => by
  obtain ⟨v, w, rfl, h1, h2⟩ := aatL2 h
  exact ⟨i, j, by rw [un_int h1, un_int h2], q _ H (Ex.refl H) ad_int⟩
theorem rcl_min {i j : Int} : RCl K rMin2 [.d (.int i), .d (.int j)] (.d (.int (if j < i then j else i))) := fun H vs Q h q => by
  obtain ⟨v, w, rfl, h1, h2⟩ := aatL2 h
  exact ⟨i, j, by rw [un_int h1, un_int h2], q _ H (Ex.refl H) ad_int⟩
end
end G
/-! The data layer: comprehensions, promises of defs, statements. -/
namespace G
open PySem L2
open Evl (Ex)

/-! ### comprehensions -/
/-- the new list so far -/
def Acc (H H' : Hp) (Dl : Addr) (l : List D) : Prop := H Dl = none ∧ Ex H H' ∧ ∃ vs, H' Dl = some (.lst vs) ∧ AtL H' l vs
/-- what a comprehension has made in i turns -/
def gvn (p : Nat → Bool) (f : Nat → D) (i : Nat) : List D := ((List.range i).filter p).map f
theorem gvn_yes {p : Nat → Bool} {f : Nat → D} {i : Nat} (h : p i = true) : gvn p f (i + 1) = gvn p f i ++ [f i] := by
  unfold gvn
  rw [List.range_succ, List.filter_append, List.map_append, List.filter_cons, if_pos h]
  rfl
theorem gvn_no {p : Nat → Bool} {f : Nat → D} {i : Nat} (h : p i = false) : gvn p f (i + 1) = gvn p f i := by
  unfold gvn
  rw [List.range_succ, List.filter_append, List.map_append, List.filter_cons, if_neg (by rw [h]; decide)]
  show _ ++ [] = _
  rw [List.append_nil]
theorem gvn_len (p : Nat → Bool) (f : Nat → D) (n : Nat) : (gvn p f n).length ≤ n := by
  unfold gvn
  rw [List.length_map]
  have h := List.length_filter_le p (List.range n)
  rw [List.length_range] at h
  exact h
theorem gvn_all (f : Nat → D) (n : Nat) : gvn (fun _ => true) f n = (List.range n).map f := by
  unfold gvn
  rw [List.filter_eq_self.mpr (fun _ _ => rfl)]
section
variable {K : PySem.W.Frag} {ss : List Sl} {ta te tl : TE} {t : TT} {x y z : A} {d : D} {xs ys : List D} {j : Nat} {B F H H' : Hp} {σ : St}
theorem Acc.nil {Dl : Addr} (h : H Dl = none) : Acc H (upd H Dl (.lst [])) Dl [] := ⟨h, Evl.Ex.new h, [], upd_same, atL_nil.mpr rfl⟩
theorem Acc.ex {Dl : Addr} {l : List D} {H2 : Hp} (h : Acc H H' Dl l) (e : Ex H' H2) : Acc H H2 Dl l := by
  obtain ⟨h1, h2, vs, h3, h4⟩ := h
  exact ⟨h1, h2.trans e, vs, e _ _ h3, h4.ex e⟩
theorem Acc.push {Dl : Addr} {l : List D} {H2 : Hp} {v : V} (h : Acc H H' Dl l) (e : Ex H' H2) (hv : At H2 d v) (hz : l.length < 100000) :
    ∃ acc, H2 Dl = some (.lst acc) ∧ acc.length < sizeLine ∧ Acc H (upd H2 Dl (.lst (acc ++ [v]))) Dl (l ++ [d]) := by
  obtain ⟨h1, h2, vs, h3, h4⟩ := h
  have h3' := e _ _ h3
  have te : TEx H2 (upd H2 Dl (.lst (vs ++ [v]))) := TEx.upd fun zs q => by rw [h3'] at q; cases q; rfl
  exact ⟨vs, h3', Evl.sz_lt (by rw [h4.length]; exact hz), h1, Evl.Ex.mut (h2.trans e) h1, _, upd_same, AtL.mono te _ ((h4.ex e).append (.one hv))⟩
/-- one turn -/
theorem lc_turn {Dl : Addr} {i : Nat} {p : Nat → Bool} {f : Nat → D} {v : V} {x : D} {Nx : Hp → Prop} (ok : Ok K B F H ss σ) (a : Acc H H' Dl (gvn p f i)) (hv : At H' x v) (hz : i < 100000)
    (ht : EvT K t (ss.set j (.a (.d x))) (p i)) (he : p i = true → Ev K te (ss.set j (.a (.d x))) (.d (f i))) (hN : ∀ H2, Acc H H2 Dl (gvn p f (i + 1)) → Nx H2) :
    gName j v (wipe σ [j]) H' fun σ2 H2 => wipe σ2 [j] = wipe σ [j] ∧ t σ2 H2 fun b H3 =>
      if b = true then te σ2 H3 fun y H4 => ∃ acc, H4 Dl = some (.lst acc) ∧ acc.length < sizeLine ∧ Nx (upd H4 Dl (.lst (acc ++ [y]))) else Nx H3 := by
  show wipe ((wipe σ [j]).set j (some v)) [j] = wipe σ [j] ∧ t ((wipe σ [j]).set j (some v)) H' _
  have e1 : (wipe σ [j]).set j (some v) = σ.set j (some v) := by
    show (σ.set j none).set j (some v) = _
    rw [List.set_set]
  refine ⟨?_, ?_⟩
  · rw [e1]
    show (σ.set j (some v)).set j none = σ.set j none
    rw [List.set_set]
  · rw [e1]
    have ok2 : Ok K B F H' (ss.set j (.a (.d x))) (σ.set j (some v)) := (ok.mono a.2.1).setD hv
    refine ht B F H' _ _ ok2 fun H3 e3 => ?_
    cases hp : p i with
    | true =>
      rw [if_pos rfl]
      refine he hp B F H3 _ _ (ok2.mono e3) fun y H4 e4 hy => ?_
      obtain ⟨acc, h1, h2, h3⟩ := a.push (d := f i) (e3.trans e4) hy (Nat.lt_of_le_of_lt (gvn_len p f i) hz)
      exact ⟨acc, h1, h2, hN _ (by rw [gvn_yes hp]; exact h3)⟩
    | false =>
      rw [if_neg Bool.false_ne_true]
      exact hN _ (by rw [gvn_no hp]; exact a.ex e3)
/-- over a tuple -/
theorem evn_lcT_if {fr : Bool} (p : Nat → Bool) (f : Nat → D) (h : Ev K tl ss (.d (.tu fr xs))) (hz : xs.length ≤ 100000) (ht : ∀ (i : Nat) (x : D), xs[i]? = some x → EvT K t (ss.set j (.a (.d x))) (p i))
    (he : ∀ (i : Nat) (x : D), xs[i]? = some x → p i = true → Ev K te (ss.set j (.a (.d x))) (.d (f i))) : EvN K (tLc (iTup K tl) (gName j) t te [j]) ss (gvn p f xs.length) := fun B F H σ Q ok q =>
  h B F H σ _ ok fun v H1 e1 r => by
    obtain ⟨a, vs, rfl, ha, hl⟩ := un_tu r
    have hlen := hl.length
    refine ⟨a, rfl, ⟨vs, ha.sq⟩, fun Dl hD => ?_⟩
    refine lc_tup (xs := vs) (fun i H' => Acc H1 H' Dl (gvn p f i)) (Acc.nil hD) (fun i H' _ p => (ha.mono (TEx.of p.2.1)).sq) (fun i v H' hi a' => ?_) fun H' a' => ?_
    · obtain ⟨x, hx, hv⟩ := hl.back hi
      have hil : i < xs.length := (List.getElem?_eq_some_iff.mp hx).1
      exact lc_turn (ok.mono e1) a' (hv.ex a'.2.1) (by omega) (ht i x hx) (he i x hx) fun H2 z => z
    · obtain ⟨b1, b2, ws, b3, b4⟩ := a'
      rw [hlen] at b4
      exact q Dl ws H' (Evl.fresh_back e1 b1) (e1.trans b2) b3 b4
/-- over a list -/
def A.items : A → Option (List D)
  | .l xs => some xs
  | .r xs => some xs
  | _ => none
theorem A.items_at {x : A} {v : V} (hx : x.items = some xs) (r : AAt K H x v) : ∃ a vs, v = .ref a ∧ SqL K H a vs ∧ AtL H xs vs := by
  cases x with
  | l ys => cases hx; obtain ⟨a, vs, r, h1, h2⟩ := r; exact ⟨a, vs, r, SqL.of h1, h2⟩
  | r ys => cases hx; exact r
  | d _ => cases hx
  | w _ => cases hx
  | o _ _ => cases hx
theorem evn_lcL_if (p : Nat → Bool) (f : Nat → D) (h : Ev K tl ss x) (hx : x.items = some xs) (hz : xs.length ≤ 100000) (ht : ∀ (i : Nat) (x : D), xs[i]? = some x → EvT K t (ss.set j (.a (.d x))) (p i))
    (he : ∀ (i : Nat) (x : D), xs[i]? = some x → p i = true → Ev K te (ss.set j (.a (.d x))) (.d (f i))) : EvN K (tLc (iList K tl) (gName j) t te [j]) ss (gvn p f xs.length) := fun B F H σ Q ok q =>
  h B F H σ _ ok fun v H1 e1 r => by
    obtain ⟨a, vs, rfl, ha, hl⟩ := A.items_at hx r
    have hlen := hl.length
    refine ⟨a, rfl, ⟨vs, ha⟩, fun Dl hD => ?_⟩
    refine lc_list (xs := vs) (fun i H' => Acc H1 H' Dl (gvn p f i)) (Acc.nil hD) (fun i H' _ p => Evl.ex_l p.2.1 ha) (fun i v H' hi a' => ?_) fun H' a' => ?_
    · obtain ⟨x, hx, hv⟩ := hl.back hi
      have hil : i < xs.length := (List.getElem?_eq_some_iff.mp hx).1
      exact lc_turn (ok.mono e1) a' (hv.ex a'.2.1) (by omega) (ht i x hx) (he i x hx) fun H2 z => z
    · obtain ⟨b1, b2, ws, b3, b4⟩ := a'
      rw [hlen] at b4
      exact q Dl ws H' (Evl.fresh_back e1 b1) (e1.trans b2) b3 b4
/-- over range(n) -/
theorem evn_lcR_if {ta : TA} {n : Nat} (p : Nat → Bool) (f : Nat → D) (h : EvDs K ta ss [.int (n : Int)]) (hz : n ≤ 100000) (ht : ∀ (i : Nat), i < n → EvT K t (ss.set j (.a (.d (.int (i : Int))))) (p i))
    (he : ∀ (i : Nat), i < n → p i = true → Ev K te (ss.set j (.a (.d (.int (i : Int))))) (.d (f i))) : EvN K (tLc (iRng1 ta) (gName j) t te [j]) ss (gvn p f n) := fun B F H σ Q ok q =>
  h B F H σ _ ok fun vs H1 e1 r => by
    obtain ⟨v, rfl, r1⟩ := aatL1 r
    refine ⟨n, by rw [un_int r1], by omega, by omega, fun Dl hD => ?_⟩
    refine lc_range (lo := 0) (n := (n : Int).toNat) (fun i H' => Acc H1 H' Dl (gvn p f i)) (Acc.nil hD) (fun i H' hi a' => ?_) fun H' a' => ?_
    · have hi' : i < n := by simpa using hi
      rw [Int.zero_add]
      exact lc_turn (x := .int (i : Int)) (ok.mono e1) a' (at_int.mpr rfl) (by omega) (ht i hi') (he i hi') fun H2 z => z
    · obtain ⟨b1, b2, ws, b3, b4⟩ := a'
      exact q Dl ws H' (Evl.fresh_back e1 b1) (e1.trans b2) b3 (by simpa using b4)
theorem et_yes : EvT K tYes ss true := fun B F H σ Q ok q => q H (Ex.refl H)
/-- the same without tests, the items' function -/
theorem gvn_map (g : D → D) : ∀ xs : List D, gvn (fun _ => true) (fun i => g (xs.getD i .non)) xs.length = xs.map g := fun xs => by
  rw [gvn_all]
  apply List.ext_getElem?
  intro i
  rw [List.getElem?_map, List.getElem?_map]
  by_cases h : i < xs.length
  · rw [List.getElem?_range h, List.getElem?_eq_getElem h]
    simp [List.getD, h]
  · rw [List.getElem?_eq_none (by simpa using h), List.getElem?_eq_none (by simpa using h)]
    rfl
theorem evn_lcT {fr : Bool} (g : D → D) (h : Ev K tl ss (.d (.tu fr xs))) (hz : xs.length ≤ 100000) (he : ∀ x, x ∈ xs → Ev K te (ss.set j (.a (.d x))) (.d (g x))) : EvN K (tLc (iTup K tl) (gName j) tYes te [j]) ss (xs.map g) :=
  (evn_lcT_if (fun _ => true) (fun i => g (xs.getD i .non)) h hz (fun _ _ _ => et_yes) fun i x hx _ => by
    have : xs.getD i .non = x := by simp [List.getD, hx]
    simp only [this]
    exact he x (List.mem_of_getElem? hx)).to (gvn_map g xs)
theorem evn_lcL (g : D → D) (h : Ev K tl ss x) (hx : x.items = some xs) (hz : xs.length ≤ 100000) (he : ∀ x, x ∈ xs → Ev K te (ss.set j (.a (.d x))) (.d (g x))) : EvN K (tLc (iList K tl) (gName j) tYes te [j]) ss (xs.map g) :=
  (evn_lcL_if (fun _ => true) (fun i => g (xs.getD i .non)) h hx hz (fun _ _ _ => et_yes) fun i x hx _ => by
    have : xs.getD i .non = x := by simp [List.getD, hx]
    simp only [this]
    exact he x (List.mem_of_getElem? hx)).to (gvn_map g xs)
theorem evn_lcR {ta : TA} {n : Nat} (f : Nat → D) (h : EvDs K ta ss [.int (n : Int)]) (hz : n ≤ 100000) (he : ∀ (i : Nat), i < n → Ev K te (ss.set j (.a (.d (.int (i : Int))))) (.d (f i))) : EvN K (tLc (iRng1 ta) (gName j) tYes te [j]) ss ((List.range n).map f) :=
  (evn_lcR_if (fun _ => true) f h hz (fun _ _ => et_yes) fun i hi _ => he i hi).to (gvn_all f n)
/-- items told as a list of one's own -/
theorem evn_lcTm {α : Type} {fr : Bool} {ks : List α} {e : α → D} (g : α → D) (h : Ev K tl ss (.d (.tu fr (ks.map e)))) (hz : ks.length ≤ 100000) (he : ∀ k, k ∈ ks → Ev K te (ss.set j (.a (.d (e k)))) (.d (g k))) : EvN K (tLc (iTup K tl) (gName j) tYes te [j]) ss (ks.map g) :=
  (evn_lcT_if (fun _ => true) (fun i => ((ks.map g)[i]?).getD .non) h (by simpa using hz) (fun _ _ _ => et_yes) fun i x hx _ => by
    rw [List.getElem?_map] at hx ⊢
    cases hk : ks[i]? with
    | none => rw [hk] at hx; cases hx
    | some k => rw [hk] at hx; cases hx; exact he k (List.mem_of_getElem? hk)).to (by
    rw [gvn_all]
    apply List.ext_getElem?
    intro i
    rw [List.getElem?_map]
    by_cases h : i < ks.length
    · rw [List.getElem?_range (by simpa using h), List.getElem?_map, List.getElem?_eq_getElem h, Option.map_some, List.getElem?_map, List.getElem?_eq_getElem h]
      rfl
    · rw [List.getElem?_eq_none (by simpa using h), List.getElem?_eq_none (by simpa using h)]
      rfl)
theorem evn_lcLm {α : Type} {ks : List α} {e : α → D} (g : α → D) (h : Ev K tl ss x) (hx : x.items = some (ks.map e)) (hz : ks.length ≤ 100000) (he : ∀ k, k ∈ ks → Ev K te (ss.set j (.a (.d (e k)))) (.d (g k))) : EvN K (tLc (iList K tl) (gName j) tYes te [j]) ss (ks.map g) :=
  (evn_lcL_if (fun _ => true) (fun i => ((ks.map g)[i]?).getD .non) h hx (by simpa using hz) (fun _ _ _ => et_yes) fun i x hx _ => by
    rw [List.getElem?_map] at hx ⊢
    cases hk : ks[i]? with
    | none => rw [hk] at hx; cases hx
    | some k => rw [hk] at hx; cases hx; exact he k (List.mem_of_getElem? hk)).to (by
    rw [gvn_all]
    apply List.ext_getElem?
    intro i
    rw [List.getElem?_map]
    by_cases h : i < ks.length
    · rw [List.getElem?_range (by simpa using h), List.getElem?_map, List.getElem?_eq_getElem h, Option.map_some, List.getElem?_map, List.getElem?_eq_getElem h]
      rfl
    · rw [List.getElem?_eq_none (by simpa using h), List.getElem?_eq_none (by simpa using h)]
      rfl)
/-- list(range(n)) -/
theorem evn_listRg {n : Nat} (h : Ev K te ss (.d (.int (n : Int)))) (hz : n ≤ 100000) : EvN K (tLstRg (tRg1 te)) ss ((List.range n).map fun (i : Nat) => .int (i : Int)) := fun B F H σ Q ok q =>
  h B F H σ _ ok fun v H1 e1 r => by
    refine ⟨n, un_int r, RgOk.of_le (by omega) (by omega) (by omega) (by omega), fun p hp => ?_⟩
    have e : Ex H1 (upd H1 p (.lst (rgV 0 n))) := Evl.Ex.new hp
    refine q p _ _ (Evl.fresh_back e1 hp) (e1.trans e) upd_same ?_
    have e2 : ((List.range n).map fun (i : Nat) => D.int (i : Int)) = ((List.range n).map fun (i : Nat) => (i : Int)).map D.int := by rw [List.map_map]; rfl
    rw [e2, atL_ints, List.map_map]
    unfold rgV
    simp only [Int.sub_zero, Int.toNat_natCast, Int.zero_add]
    rfl

/-! ### defs -/
inductive R where | d (x : D) | l (xs : List D) | w (v : V)
def RAt (B : Hp) (r : R) (Q : VK) : Prop := match r with
  | .d x => ∀ v H2, Ex B H2 → At H2 x v → Q v H2
  | .l xs => ∀ a vs H2, B a = none → Ex B H2 → H2 a = some (.lst vs) → AtL H2 xs vs → Q (.ref a) H2
  | .w v => ∀ H2, Ex B H2 → Q v H2
/-- a def of data: its arguments, its answer -/
def spD (K : PySem.W.Frag) (pre : List A → R → Prop) : Sp := fun vs H Q _ => ∃ as r, AAtL K H as vs ∧ pre as r ∧ RAt H r Q
theorem ev_call {pre : List A → R → Prop} {ta : TA} {as : List A} {E : XK} (h : EvAs K ta ss as) (hp : pre as (.d d)) : Ev K (tCall (spD K pre) [] E ta) ss (.d d) := fun B F H σ Q ok q =>
  h B F H σ _ ok fun vs H2 e2 r => ⟨as, .d d, by rw [List.append_nil]; exact r, hp, fun v H3 e3 hv => q v H3 (e2.trans e3) hv⟩
theorem evn_call {pre : List A → R → Prop} {ta : TA} {as : List A} {E : XK} (h : EvAs K ta ss as) (hp : pre as (.l xs)) : EvN K (tCall (spD K pre) [] E ta) ss xs := fun B F H σ Q ok q =>
  h B F H σ _ ok fun vs H2 e2 r => ⟨as, .l xs, by rw [List.append_nil]; exact r, hp, fun a vs H3 ha e3 h1 h2 => q a vs H3 (Evl.fresh_back e2 ha) (e2.trans e3) h1 h2⟩

/-! ### statements -/
structure Eo (K : PySem.W.Frag) (B F : Hp) (D : Ends) (N : List Sl → Prop) (R : R → Prop) (Bk Ct : List Sl → Prop) : Prop where
  nx : ∀ ss H σ, N ss → Ok K B F H ss σ → D.nx σ H
  rt : ∀ r, R r → RAt B r D.rt
  bk : ∀ ss H σ, Bk ss → Ok K B F H ss σ → D.bk σ H
  ct : ∀ ss H σ, Ct ss → Ok K B F H ss σ → D.ct σ H
abbrev SN := List Sl → Prop
def Sd (K : PySem.W.Frag) (t : TS) (ss : List Sl) (N : SN) (R : R → Prop) (Bk Ct : SN) : Prop := ∀ B F H σ (D : Ends), Ok K B F H ss σ → Eo K B F D N R Bk Ct → t D σ H
variable {N Bk Ct : SN} {Rt : R → Prop} {t1 t2 tb : TS}
theorem sd_seq (h : Sd K t1 ss (fun ss' => Sd K t2 ss' N Rt Bk Ct) Rt Bk Ct) : Sd K (tSeq t1 t2) ss N Rt Bk Ct := fun B F H σ D ok e =>
  h B F H σ _ ok ⟨fun ss' H' σ' s ok' => s B F H' σ' D ok' e, e.rt, e.bk, e.ct⟩
theorem sd_next (h : N ss) : Sd K tNext ss N Rt Bk Ct := fun B F H σ D ok e => e.nx _ _ _ h ok
theorem sd_brk (h : Bk ss) : Sd K tBreak ss N Rt Bk Ct := fun B F H σ D ok e => e.bk _ _ _ h ok
theorem sd_cont (h : Ct ss) : Sd K tCont ss N Rt Bk Ct := fun B F H σ D ok e => e.ct _ _ _ h ok
theorem sd_set {i : Nat} (h : Ev K te ss (.d d)) (k : N (ss.set i (.a (.d d)))) : Sd K (tAsg te (gName i)) ss N Rt Bk Ct := fun B F H σ D ok e =>
  h B F H σ _ ok fun v H2 e2 r => e.nx _ _ _ k ((ok.mono e2).setD r)
theorem sd_setW {i : Nat} {v : V} (h : Ev K te ss (.w v)) (k : N (ss.set i (.a (.w v)))) : Sd K (tAsg te (gName i)) ss N Rt Bk Ct := fun B F H σ D ok e =>
  h B F H σ _ ok fun v' H2 e2 r => by cases r; exact e.nx _ _ _ k ((ok.mono e2).setW)
theorem sd_setN {i : Nat} (h : EvN K te ss xs) (k : N (ss.set i (.own xs))) : Sd K (tAsg te (gName i)) ss N Rt Bk Ct := fun B F H σ D ok e =>
  h B F H σ _ ok fun a vs H2 ha e2 h1 h2 => e.nx _ _ _ k (ok.setN e2 ha h1 h2)
theorem sd_ret (h : Ev K te ss (.d d)) (k : Rt (.d d)) : Sd K (tRet te) ss N Rt Bk Ct := fun B F H σ D ok e =>
  h B F H σ _ ok fun v H2 e2 r => e.rt _ k v H2 ((ok.bf.trans ok.ex).trans e2) r
theorem sd_retN (h : EvN K te ss xs) (k : Rt (.l xs)) : Sd K (tRet te) ss N Rt Bk Ct := fun B F H σ D ok e =>
  h B F H σ _ ok fun a vs H2 ha e2 h1 h2 => e.rt _ k a vs H2 (Evl.fresh_back (ok.bf.trans ok.ex) ha) ((ok.bf.trans ok.ex).trans e2) h1 h2
/-- an own list is handed back -/
theorem sd_retO {i : Nat} (h : ss[i]? = some (.own xs)) (k : Rt (.l xs)) : Sd K (tRet (tVar i)) ss N Rt Bk Ct := fun B F H σ D ok e => by
  obtain ⟨o, ho, a, vs, r, hf, ha, hl⟩ := ok.at_ i _ h
  subst r
  exact ⟨_, ho, e.rt _ k a vs H (Evl.fresh_back ok.bf hf) (ok.bf.trans ok.ex) ha hl⟩
theorem sd_none (k : Rt (.d .non)) : Sd K tRetN ss N Rt Bk Ct := fun B F H σ D ok e => e.rt _ k .non H (ok.bf.trans ok.ex) (at_non.mpr rfl)
theorem sd_if {b : Bool} (h : EvT K t ss b) (h1 : b = true → Sd K t1 ss N Rt Bk Ct) (h2 : b = false → Sd K t2 ss N Rt Bk Ct) : Sd K (tIfS t t1 t2) ss N Rt Bk Ct := fun B F H σ D ok e =>
  h B F H σ _ ok fun H2 e2 => by
    cases b with
    | true => rw [if_pos rfl]; exact h1 rfl B F H2 σ D (ok.mono e2) e
    | false => rw [if_neg Bool.false_ne_true]; exact h2 rfl B F H2 σ D (ok.mono e2) e
theorem sd_drop (h : Ev K te ss x) (k : N ss) : Sd K (tDrop te) ss N Rt Bk Ct := fun B F H σ D ok e =>
  h B F H σ _ ok fun v H2 e2 r => e.nx _ _ _ k (ok.mono e2)
theorem sd_app {i : Nat} (hi : ss[i]? = some (.own xs)) (h : Ev K te ss (.d d)) (hz : xs.length < 100000) (k : N (ss.set i (.own (xs ++ [d])))) : Sd K (tDrop (tBM K "list" rAppend (tVar i) (tCons te tNil))) ss N Rt Bk Ct := fun B F H σ D ok e => by
  obtain ⟨o, ho, a, vs, r, hf, ha, hl⟩ := ok.at_ i _ hi
  subst r
  refine ⟨_, ho, .inl ⟨rfl, _, SqL.of ha⟩, ?_⟩
  refine h B F H σ _ ok fun v H2 e2 r => ?_
  have ok2 := ok.mono e2
  have ha2 := e2 _ _ ha
  exact ⟨a, vs, v, rfl, rfl, ha2, Evl.sz_lt (by rw [hl.length]; exact hz), e.nx _ _ _ k (ok2.chg hi ho ((hl.ex e2).append (.one r)))⟩
theorem sd_ext {i : Nat} (hi : ss[i]? = some (.own xs)) (h : EvN K te ss ys) (hz : xs.length + ys.length ≤ 100000) (k : N (ss.set i (.own (xs ++ ys)))) : Sd K (tDrop (tBM K "list" rExtend (tVar i) (tCons te tNil))) ss N Rt Bk Ct := fun B F H σ D ok e => by
  obtain ⟨o, ho, a, vs, r, hf, ha, hl⟩ := ok.at_ i _ hi
  subst r
  refine ⟨_, ho, .inl ⟨rfl, _, SqL.of ha⟩, ?_⟩
  refine h B F H σ _ ok fun b ws H2 hb e2 h1 h2 => ?_
  have ok2 := ok.mono e2
  have ha2 := e2 _ _ ha
  exact ⟨a, b, vs, ws, rfl, rfl, ha2, h1, Evl.sz_of (by rw [hl.length, h2.length]; exact hz), e.nx _ _ _ k (ok2.chg hi ho ((hl.ex e2).append h2))⟩
theorem sd_setItem {i : Nat} {k' : Int} {m : Nat} {ti : TE} (hi : ss[i]? = some (.own xs)) (h : Ev K te ss (.d d)) (h2 : Ev K ti ss (.d (.int k'))) (hm : ixN xs.length k' = some m) (k : N (ss.set i (.own (xs.set m d)))) :
    Sd K (tAsg te (gSub (tVar i) ti rSetL)) ss N Rt Bk Ct := fun B F H σ D ok e => by
  refine h B F H σ _ ok fun v H2 e2 r => ?_
  have ok2 := ok.mono e2
  obtain ⟨o, ho, a, vs, r', hf, ha, hl⟩ := ok2.at_ i _ hi
  subst r'
  refine ⟨_, ho, ?_⟩
  refine h2 B F H2 σ _ ok2 fun u H3 e3 r3 => ?_
  have ok3 := ok2.mono e3
  exact ⟨a, vs, k', m, rfl, un_int r3, e3 _ _ ha, by rw [hl.length]; exact hm, e.nx _ _ _ k (ok3.chg hi ho ((hl.ex e3).set m (At.ex e3 r)))⟩
/-- a, b = a pair -/
theorem sd_two {i j : Nat} {a b : D} (h : Ev K te ss (.d (.tup [a, b]))) (k : N ((ss.set i (.a (.d a))).set j (.a (.d b)))) : Sd K (tAsg te (gTup K 2 (gCons (gName i) (gCons (gName j) gNil)))) ss N Rt Bk Ct := fun B F H σ D ok e =>
  h B F H σ _ ok fun v H2 e2 r => by
    obtain ⟨p, vs, rfl, hp, hl⟩ := un_tup r
    obtain ⟨va, ws, rfl, h1, hl⟩ := atL_cons.mp hl
    obtain ⟨vb, ws, rfl, h2, hl⟩ := atL_cons.mp hl
    rw [atL_nil.mp hl] at hp
    refine ⟨p, [va, vb], rfl, SqT.of hp, rfl, va, [vb], rfl, vb, [], rfl, rfl, ?_⟩
    exact e.nx _ _ _ k (((ok.mono e2).setD h1).setD h2)
/-! ### loops -/
/-- all but the own lists may not be changed -/
theorem Ok.reb (ok : Ok K B F H ss σ) : ∃ F', Ex F F' ∧ Ok K B F' H ss σ ∧ TEx H F' ∧ ∀ p o, H p = some o → (∀ (i : Nat) t, ss[i]? = some t → t.rf = true → σ[i]? ≠ some (some (.ref p))) → F' p = some o := by
  classical
  let own : Addr → Prop := fun b => ∃ (i : Nat) (xs : List D), ss[i]? = some (.own xs) ∧ σ[i]? = some (some (.ref b))
  have hown : ∀ b, own b → F b = none ∧ ∃ vs, H b = some (.lst vs) := fun b ⟨i, xs, h1, h2⟩ => by
    obtain ⟨o, ho, a, vs, r, hf, ha, _⟩ := ok.at_ i _ h1
    subst r
    rw [ho] at h2
    cases h2
    exact ⟨hf, vs, ha⟩
  let F' : Hp := fun b => if own b then none else H b
  have hF : ∀ b, ¬ own b → F' b = H b := fun b h => if_neg h
  have hO : ∀ b, own b → F' b = none := fun b h => if_pos h
  have e : Ex F F' := fun b o h => by
    have : ¬ own b := fun z => by rw [(hown b z).1] at h; cases h
    rw [hF b this]
    exact ok.ex b o h
  refine ⟨F', e, ⟨ok.bf.trans e, fun b o h => ?_, ok.len, fun i s hi => ?_, ok.sep⟩, fun b xs t h => ?_, fun p o h hn => ?_⟩
  · by_cases z : own b
    · rw [hO b z] at h; cases h
    · rw [hF b z] at h; exact h
  · obtain ⟨o, ho, q⟩ := ok.at_ i s hi
    refine ⟨o, ho, ?_⟩
    cases s with
    | no => trivial
    | a x => cases x <;> exact q
    | own xs =>
      obtain ⟨b, vs, r, hb, q⟩ := q
      subst r
      exact ⟨b, vs, rfl, hO b ⟨i, xs, hi, ho⟩, q⟩
  · have : ¬ own b := fun z => by
      obtain ⟨vs, q⟩ := (hown b z).2
      rw [h] at q; cases q; cases t
    rw [hF b this]
    exact h
  · have : ¬ own p := fun ⟨i, xs, h1, h2⟩ => hn i _ h1 rfl h2
    rw [hF p this]
    exact h
theorem Eo.body {F' : Hp} {D : Ends} {Pn : SN} {Q1 : L2.St → Hp → Prop} (e : Eo K B F D N Rt Bk Ct) (ex : Ex F F') (hb : Ex B F) (h : ∀ ss H σ, Pn ss → Ok K B F' H ss σ → Q1 σ H) : Eo K B F' { D with nx := Q1, ct := Q1, bk := D.nx } Pn Rt N Pn :=
  ⟨h, e.rt, fun ss H σ n ok => e.nx _ _ _ n (ok.down hb ex), h⟩
theorem sd_forTg {f : Bool} {g : TG} (upS : D → List Sl → List Sl) (hg : ∀ (x : D) v B F H ss σ Q, Ok K B F H ss σ → At H x v → (∀ σ', Ok K B F H (upS x ss) σ' → Q σ' H) → x ∈ xs → g v σ H Q) (Pv : Nat → SN) (h : Ev K tl ss (.d (.tu f xs))) (h0 : Pv 0 ss)
    (hs : ∀ (i : Nat) x ss', xs[i]? = some x → Pv i ss' → Sd K tb (upS x ss') (Pv (i + 1)) Rt N (Pv (i + 1))) (hd : ∀ ss', Pv xs.length ss' → N ss') :
    Sd K (tFor (iTup K tl) g tb) ss N Rt Bk Ct := fun B F H σ D ok e => by
  refine h B F H σ _ ok fun v H1 e1 r => ?_
  obtain ⟨a, vs, rfl, ha, hl⟩ := un_tu r
  obtain ⟨F', ex, ok1, tx, _⟩ := (ok.mono e1).reb
  have ha' := ha.mono tx
  refine ⟨a, rfl, ⟨vs, ha.sq⟩, ?_⟩
  refine for_tup (xs := vs) (fun i σ H => ∃ ss', Pv i ss' ∧ Ok K B F' H ss' σ) ⟨ss, h0, ok1⟩ (fun i σ H _ ⟨_, _, o⟩ => (ha'.mono (TEx.of o.ex)).sq) (fun i x σ' H' hi p => ?_) fun σ' H' p => ?_
  · obtain ⟨ss', hp, ok'⟩ := p
    obtain ⟨d, hd', hx⟩ := hl.back hi
    refine hg d x B F' H' ss' σ' _ ok' (At.mono (tx.trans (TEx.of ok'.ex)) _ hx) (fun σ2 ok2 => ?_) (List.mem_of_getElem? hd')
    exact hs i d ss' hd' hp B F' H' σ2 _ ok2 (e.body ex ok.bf fun ss3 H3 σ3 n3 ok3 => ⟨ss3, n3, ok3⟩)
  · obtain ⟨ss', hp, ok'⟩ := p
    rw [hl.length] at hp
    exact e.nx _ _ _ (hd ss' hp) (ok'.down ok.bf ex)
theorem sd_forT {f : Bool} (Pv : Nat → SN) (h : Ev K tl ss (.d (.tu f xs))) (h0 : Pv 0 ss) (hs : ∀ (i : Nat) x ss', xs[i]? = some x → Pv i ss' → Sd K tb (ss'.set j (.a (.d x))) (Pv (i + 1)) Rt N (Pv (i + 1))) (hd : ∀ ss', Pv xs.length ss' → N ss') :
    Sd K (tFor (iTup K tl) (gName j) tb) ss N Rt Bk Ct :=
  sd_forTg (fun x ss' => ss'.set j (.a (.d x))) (fun x v B F H ss σ Q ok hx k _ => k _ (ok.setD hx)) Pv h h0 hs hd
theorem sd_forTm {α : Type} {fr : Bool} {ks : List α} {e : α → D} (Pv : Nat → SN) (h : Ev K tl ss (.d (.tu fr (ks.map e)))) (h0 : Pv 0 ss) (hs : ∀ (i : Nat) k ss', ks[i]? = some k → Pv i ss' → Sd K tb (ss'.set j (.a (.d (e k)))) (Pv (i + 1)) Rt N (Pv (i + 1))) (hd : ∀ ss', Pv ks.length ss' → N ss') :
    Sd K (tFor (iTup K tl) (gName j) tb) ss N Rt Bk Ct :=
  sd_forT Pv h h0 (fun i x ss' hx hp => by
    rw [List.getElem?_map] at hx
    cases hk : ks[i]? with
    | none => rw [hk] at hx; cases hx
    | some k => rw [hk] at hx; cases hx; exact hs i k ss' hk hp) fun ss' hp => hd ss' (by rwa [List.length_map] at hp)
/-- for a, b in a tuple of pairs -/
theorem sd_forT2 {j2 : Nat} {ps : List (D × D)} (Pv : Nat → SN) (h : Ev K tl ss (.d (.tup (ps.map fun q => .tup [q.1, q.2])))) (h0 : Pv 0 ss)
    (hs : ∀ (i : Nat) (q : D × D) ss', ps[i]? = some q → Pv i ss' → Sd K tb ((ss'.set j (.a (.d q.1))).set j2 (.a (.d q.2))) (Pv (i + 1)) Rt N (Pv (i + 1))) (hd : ∀ ss', Pv ps.length ss' → N ss') :
    Sd K (tFor (iTup K tl) (gTup K 2 (gCons (gName j) (gCons (gName j2) gNil))) tb) ss N Rt Bk Ct := by
  refine sd_forTg (fun x ss' => match x with | .tu false [a, b] => (ss'.set j (.a (.d a))).set j2 (.a (.d b)) | _ => ss') (fun x v B F H ss σ Q ok hx k hm => ?_) Pv h h0 (fun i x ss' hx hp => ?_) fun ss' hp => hd ss' (by rwa [List.length_map] at hp)
  · obtain ⟨q, _, rfl⟩ := List.mem_map.mp hm
    obtain ⟨p, vs, rfl, hp, hl⟩ := at_tup.mp hx
    obtain ⟨va, ws, rfl, h1, hl⟩ := atL_cons.mp hl
    obtain ⟨vb, ws, rfl, h2, hl⟩ := atL_cons.mp hl
    rw [atL_nil.mp hl] at hp
    exact ⟨p, [va, vb], rfl, SqT.of hp, rfl, va, [vb], rfl, vb, [], rfl, rfl, k _ ((ok.setD h1).setD h2)⟩
  · rw [List.getElem?_map] at hx
    cases hq : ps[i]? with
    | none => rw [hq] at hx; cases hx
    | some q =>
      rw [hq] at hx
      cases hx
      exact hs i q ss' hq hp
theorem sd_forR {ta : TA} {n : Nat} (Pv : Nat → SN) (h : EvDs K ta ss [.int (n : Int)]) (hz : n ≤ 100000) (h0 : Pv 0 ss) (hs : ∀ (i : Nat) ss', i < n → Pv i ss' → Sd K tb (ss'.set j (.a (.d (.int (i : Int))))) (Pv (i + 1)) Rt N (Pv (i + 1))) (hd : ∀ ss', Pv n ss' → N ss') :
    Sd K (tFor (iRng1 ta) (gName j) tb) ss N Rt Bk Ct := fun B F H σ D ok e => by
  refine h B F H σ _ ok fun vs H1 e1 r => ?_
  obtain ⟨v, rfl, r1⟩ := aatL1 r
  refine ⟨n, by rw [un_int r1], by omega, by omega, ?_⟩
  refine for_range (lo := 0) (n := (n : Int).toNat) (fun i σ H => ∃ ss', Pv i ss' ∧ Ok K B F H ss' σ) ⟨ss, h0, ok.mono e1⟩ (fun i σ' H' hi p => ?_) fun σ' H' p => ?_
  · have hi' : i < n := by simpa using hi
    obtain ⟨ss', hp, ok'⟩ := p
    rw [Int.zero_add]
    exact hs i ss' hi' hp B F H' _ _ (ok'.setD (at_int.mpr rfl)) (e.body (Ex.refl _) ok.bf fun ss3 H3 σ3 n3 ok3 => ⟨ss3, n3, ok3⟩)
  · obtain ⟨ss', hp, ok'⟩ := p
    exact e.nx _ _ _ (hd ss' (by simpa using hp)) ok'
/-- over a new list -/
theorem sd_forN (Pv : Nat → SN) (h : EvN K tl ss xs) (h0 : Pv 0 ss) (hs : ∀ (i : Nat) x ss', xs[i]? = some x → Pv i ss' → Sd K tb (ss'.set j (.a (.d x))) (Pv (i + 1)) Rt N (Pv (i + 1))) (hd : ∀ ss', Pv xs.length ss' → N ss') :
    Sd K (tFor (iList K tl) (gName j) tb) ss N Rt Bk Ct := fun B F H σ D ok e => by
  refine h B F H σ _ ok fun a vs H1 hn e1 ha hl => ?_
  obtain ⟨F', ex, ok1, tx, hp⟩ := (ok.mono e1).reb
  have ha' := hp _ _ ha fun i t hi ht => ok.newNe hn hi ht
  refine ⟨a, rfl, ⟨vs, SqL.of ha⟩, ?_⟩
  refine for_list (xs := vs) (fun i σ H => ∃ ss', Pv i ss' ∧ Ok K B F' H ss' σ) ⟨ss, h0, ok1⟩ (fun i σ H _ ⟨_, _, o⟩ => SqL.of (o.ex _ _ ha')) (fun i x σ' H' hi p => ?_) fun σ' H' p => ?_
  · obtain ⟨ss', hp, ok'⟩ := p
    obtain ⟨d, hd', hx⟩ := hl.back hi
    exact hs i d ss' hd' hp B F' H' _ _ (ok'.setD (At.mono (tx.trans (TEx.of ok'.ex)) _ hx)) (e.body ex ok.bf fun ss3 H3 σ3 n3 ok3 => ⟨ss3, n3, ok3⟩)
  · obtain ⟨ss', hp, ok'⟩ := p
    rw [hl.length] at hp
    exact e.nx _ _ _ (hd ss' hp) (ok'.down ok.bf ex)
theorem sd_while (Pv : Nat → SN) (m0 : Nat) (h0 : Pv m0 ss) (hs : ∀ m ss', Pv m ss' → ∃ b, EvT K t ss' b ∧ (b = true → Sd K tb ss' (fun ss2 => ∃ m', m' < m ∧ Pv m' ss2) Rt N (fun ss2 => ∃ m', m' < m ∧ Pv m' ss2)) ∧ (b = false → N ss')) :
    Sd K (tWhile t tb) ss N Rt Bk Ct := fun B F H σ D ok e => by
  refine ⟨fun m σ H => ∃ ss', Pv m ss' ∧ Ok K B F H ss' σ, ⟨m0, ss, h0, ok⟩, ?_⟩
  rintro m σ' H' ⟨ss', hp, ok'⟩
  obtain ⟨b, hb, h1, h2⟩ := hs m ss' hp
  refine hb B F H' σ' _ ok' fun H2 e2 => ?_
  cases b with
  | true =>
    rw [if_pos rfl]
    refine ⟨fun σ2 H2 => ∃ m', m' < m ∧ ∃ ss2, Pv m' ss2 ∧ Ok K B F H2 ss2 σ2, fun σ2 H2 z => z, ?_⟩
    exact h1 rfl B F H2 σ' _ (ok'.mono e2) (e.body (Ex.refl _) ok.bf fun ss3 H3 σ3 ⟨m', hm, n3⟩ ok3 => ⟨m', hm, ss3, n3, ok3⟩)
  | false =>
    rw [if_neg Bool.false_ne_true]
    exact e.nx _ _ _ (h2 rfl) (ok'.mono e2)
end

/-! ### a def's body -/
theorem aatL_get {K : PySem.W.Frag} {H : Hp} : ∀ {as : List A} {vs : List V} {i : Nat} {x : A}, AAtL K H as vs → as[i]? = some x → ∃ v, vs[i]? = some v ∧ AAt K H x v
  | [], _, _, _, _, e => by simp at e
  | y :: as, _, 0, x, ⟨v, ws, r, h1, h2⟩, e => by
    subst r
    simp at e
    subst e
    exact ⟨v, rfl, h1⟩
  | y :: as, _, i + 1, x, ⟨v, ws, r, h1, h2⟩, e => by
    subst r
    obtain ⟨u, q1, q2⟩ := aatL_get (i := i) h2 (by simpa using e)
    exact ⟨u, by simpa using q1, q2⟩
def starts (as : List A) (n : Nat) : List Sl := as.map Sl.a ++ List.replicate n .no
theorem start_ok {K : PySem.W.Frag} {H : Hp} {N : List Str} {as : List A} {vs : List V} {n : Nat} (h : AAtL K H as vs) (hl : as.length + n = N.length) : Ok K H H H (starts as n) (L2.start N vs) := by
  have hv := h.length
  refine ⟨Ex.refl H, Ex.refl H, ?_, fun i s hi => ?_, fun i j xs s a hi => ?_⟩
  · unfold starts L2.start
    simp only [List.length_append, List.length_map, List.length_replicate]
    omega
  · unfold starts at hi
    unfold L2.start
    by_cases hlt : i < as.length
    · rw [List.getElem?_append_left (by simpa using hlt), List.getElem?_map] at hi
      rw [List.getElem?_append_left (by rw [List.length_map]; omega), List.getElem?_map]
      rw [List.getElem?_eq_getElem hlt] at hi
      cases hi
      obtain ⟨v, q1, q2⟩ := aatL_get h (List.getElem?_eq_getElem hlt)
      rw [q1]
      refine ⟨some v, rfl, ?_⟩
      cases hx : as[i] with
      | d x => rw [hx] at q2; exact ⟨v, rfl, q2⟩
      | l xs => rw [hx] at q2; obtain ⟨a, vs, r, z⟩ := q2; exact ⟨a, vs, by rw [r], z⟩
      | r xs => rw [hx] at q2; obtain ⟨a, vs, r, z⟩ := q2; exact ⟨a, vs, by rw [r], z⟩
      | w u => rw [hx] at q2; cases q2; rfl
      | o k u => rw [hx] at q2; exact ⟨by rw [q2.1], q2.2⟩
    · rw [List.getElem?_append_right (by simpa using hlt)] at hi
      rw [List.getElem?_append_right (by rw [List.length_map]; omega)]
      have h1 := (List.getElem?_eq_some_iff.mp hi).1
      rw [List.length_replicate, List.length_map] at h1
      rw [List.getElem?_replicate, if_pos (by rw [List.length_map]; exact h1)] at hi
      cases hi
      exact ⟨none, by rw [List.getElem?_replicate, if_pos (by rw [List.length_map]; omega)], trivial⟩
  · exfalso
    unfold starts at hi
    by_cases hlt : i < as.length
    · rw [List.getElem?_append_left (by simpa using hlt), List.getElem?_map, List.getElem?_eq_getElem hlt] at hi
      cases hi
    · rw [List.getElem?_append_right (by simpa using hlt)] at hi
      have h1 := (List.getElem?_eq_some_iff.mp hi).1
      rw [List.length_replicate, List.length_map] at h1
      rw [List.getElem?_replicate, if_pos (by rw [List.length_map]; exact h1)] at hi
      cases hi
abbrev noSN : SN := fun _ => False
section
variable {P : Program} {w : World} {K : PySem.W.Frag} {mg : Str → Option Value} {base : Heap} {x qual : Str} {params : Arguments} {body : List Stmt} {scope : Scope} {f : Addr} {fd : FuncData}
theorem fnD {N ps : List Str} {k n : Nat} {pre : List A → R → Prop} (F : FunD K x qual params body scope [] [] f fd) (S : FnScope N ps scope) (hn : ps.length + n = N.length) (hl : ∀ as r, pre as r → as.length = ps.length)
    (hb : ∀ (cdv : Value) (A : Around) (outer : List Env) (s : Shared) (H : Hp) (E : XK), Room k (A.deeper (PyProof.Rows.envOfC qual scope s.heap.objs.size f cdv)) →
      ∃ t, PSs (cxOf CX0 P w K mg base N qual scope f cdv A outer s H E).nox body t ∧ ∀ as r, pre as r → Sd K t (starts as n) (fun _ => r = .d .non) (· = r) noSN noSN) : FnOk P w K mg base CX0 (k + 1) f fd ps (spD K pre) := by
  refine F.ok S (fun vs H Q E h => ?_) (fun cdv A outer s H vs Q E hr h => ?_)
  · obtain ⟨as, r, ha, hp, _⟩ := h
    rw [ha.length, hl _ _ hp]
  · obtain ⟨as, r, ha, hp, hq⟩ := h
    obtain ⟨t, h1, h2⟩ := hb cdv A outer s H E hr
    refine ⟨t, h1.nox, ?_⟩
    refine h2 as r hp H H H _ _ (start_ok ha (by rw [hl _ _ hp]; exact hn)) ⟨fun ss H' σ e ok => ?_, fun r' e => ?_, fun _ _ _ z => z.elim, fun _ _ _ z => z.elim⟩
    · subst e
      exact hq _ _ ok.ex (at_non.mpr rfl)
    · subst e
      exact hq
end
end G
/-! The text by places; what the walks ask of the module; calls of its defs. -/
namespace G
open PySem L2
open Evl (Ex)
def top (i : Nat) : Stmt := PySem.Challenge.pw_graftform_k94_whole_turned_forms_without.main.body.getD i (.Pass ⟨0, 0, 0, 0⟩)
abbrev s_NoPlace_init : Stmt := inClass (top 3) 0
abbrev s_NoName_init : Stmt := inClass (top 4) 0
abbrev s_TooLarge_init : Stmt := inClass (top 5) 0
abbrev s_Grower_init : Stmt := inClass (top 10) 0
abbrev s_Grower_step : Stmt := inClass (top 10) 1
abbrev s_Grower_number : Stmt := inClass (top 10) 2
abbrev s_Grower_tables : Stmt := inClass (top 10) 3
abbrev s_start_of : Stmt := top 11
abbrev s_all_names : Stmt := top 12
abbrev s_forms_of : Stmt := top 14
abbrev s_is_name : Stmt := top 17
abbrev s_size_of : Stmt := top 18
abbrev s_items_for : Stmt := top 21
abbrev s_way_of_none : Stmt := top 23
abbrev s_way_of_one : Stmt := top 24
abbrev s_way_behind : Stmt := top 25
abbrev s_item_state : Stmt := top 26
abbrev s_way_filled : Stmt := top 27
abbrev s_BackGrower_init : Stmt := inClass (top 29) 0
abbrev s_BackGrower_turned_way : Stmt := inClass (top 29) 1
abbrev s_BackGrower_step : Stmt := inClass (top 29) 2
abbrev s_BackGrower_mark : Stmt := inClass (top 29) 3
abbrev s_back_tables : Stmt := top 30
abbrev s_drawn_back : Stmt := top 31
abbrev s_Spot_init : Stmt := inClass (top 33) 0
abbrev s_state_by : Stmt := top 34
abbrev s_spot_of : Stmt := top 35
abbrev s_doc_of : Stmt := top 36
abbrev s_upward_places : Stmt := top 37
abbrev s_Kept_init : Stmt := inClass (top 38) 0
abbrev s_Kept_now : Stmt := inClass (top 38) 1
abbrev s_Kept_spots : Stmt := inClass (top 38) 2
abbrev s_Kept_look : Stmt := inClass (top 38) 3
abbrev s_Kept_put : Stmt := inClass (top 38) 4
abbrev s_Kept_cut : Stmt := inClass (top 38) 5
abbrev s_Kept_rename : Stmt := inClass (top 38) 6
abbrev s_Kept_forms_at : Stmt := inClass (top 38) 7
abbrev s_Kept_looked : Stmt := inClass (top 38) 9
abbrev s__law_cell_at : Stmt := top 40
abbrev s__law_numbers : Stmt := top 41
abbrev s__law_any_names : Stmt := top 42
abbrev s__law_names : Stmt := top 43
abbrev s__law_machine : Stmt := top 44
abbrev s__law_item : Stmt := top 45
abbrev s__law_turner : Stmt := top 46
abbrev s__law_filled : Stmt := top 49
abbrev s__law_holed : Stmt := top 50
abbrev s__law_turned : Stmt := top 51
abbrev s__law_filled_size : Stmt := top 53
abbrev s__law_turned_size : Stmt := top 54
abbrev s__law_places : Stmt := top 55
abbrev s__law_below_first : Stmt := top 56
abbrev s__law_at : Stmt := top 57
abbrev s__law_with : Stmt := top 58
abbrev s__law_state : Stmt := top 60
abbrev s__law_forms : Stmt := top 61
abbrev s__law_doc : Stmt := top 62
abbrev s__law_deed : Stmt := top 63
abbrev s__law_done : Stmt := top 64
abbrev s__law_looked : Stmt := top 65
abbrev s__law_seen : Stmt := top 66
abbrev s__law_began : Stmt := top 67
abbrev s__law_change : Stmt := top 68
abbrev s_law : Stmt := top 69
/-- the module's names -/
structure Txt (mg : Str → Option Value) : Prop where
  len : mg "len" = none
  tuple : mg "tuple" = none
  range : mg "range" = none
  list : mg "list" = none
  sorted : mg "sorted" = none
  set : mg "set" = none
  any : mg "any" = none
  sum : mg "sum" = none
  max : mg "max" = none
  min : mg "min" = none
  isinstance : mg "isinstance" = none
  reversed : mg "reversed" = none
  str : mg "str" = none
  HOLE : ∃ t, mg "HOLE" = some (.str "*" t)
  LETTERS : ∃ t, mg "LETTERS" = some (.str "abcdefghijklmnopqrstuvwxyz" t)
  STATES : ∃ t, mg "STATES" = some (.int 64 t)
  PLACES : ∃ t, mg "PLACES" = some (.int 300 t)
theorem pe_gS {X : Cx} {x : Str} {s : Str} {pos : Pos} (h : ∃ t, X.mg x = some (.str s t)) (hg : Gl X x) (hd : (x == ("__debug__" : Str)) = false := by decide) : PE X (.Name x pos) (tC (.str s)) := by
  obtain ⟨t, h⟩ := h
  exact pe_glob hg h ⟨t, rfl⟩ hd
theorem pe_gI {X : Cx} {x : Str} {s : Int} {pos : Pos} (h : ∃ t, X.mg x = some (.int s t)) (hg : Gl X x) (hd : (x == ("__debug__" : Str)) = false := by decide) : PE X (.Name x pos) (tC (.int s)) := by
  obtain ⟨t, h⟩ := h
  exact pe_glob hg h ⟨t, rfl⟩ hd
/-- a def of the module that keeps its promise -/
def Cal (P : Program) (w : World) (K : PySem.W.Frag) (mg : Str → Option Value) (base : Heap) (x : Str) (k : Nat) (ps : List Str) (sp : Sp) : Prop :=
  ∃ f fd, mg x = some (.ref f) ∧ PySem.W.keepIn K (.ref f) = true ∧ Binds K fd ps [] ∧ FnOk P w K mg base CX0 k f fd ps sp
theorem pe_cal {X : Cx} {x : Str} {k j : Nat} {ps : List Str} {sp : Sp} {p pos : Pos} {e : Expr} {es : List Expr} {t : TA} (c : Cal X.prog X.w X.K X.mg X.base x k ps sp) (hr : Room j X.A) (hg : Gl X x) (ha : PA X (e :: es) t) (hk : k ≤ j := by first | decide | omega)
    (hdb : (x == ("__debug__" : Str)) = false := by decide) (he : starEach (e :: es) X.env = (false, eval e X.env) :: starEach es X.env := by rfl) (hpl : (backTo pos (starEach es X.env)).any (·.1) = false := by rfl) :
    PE X (.Call (.Name x p) (e :: es) [] pos) (tCall sp [] E0 t) := by
  obtain ⟨f, fd, h1, h2, h3, h4⟩ := c
  exact pe_call h4 (hr.mono hk) hg h1 h2 h3 .nil pass0 ha hdb he hpl
theorem Cal.mono {P : Program} {w : World} {K : PySem.W.Frag} {mg : Str → Option Value} {base : Heap} {x : Str} {k j : Nat} {ps : List Str} {sp : Sp} (c : Cal P w K mg base x k ps sp) (h : k ≤ j) : Cal P w K mg base x j ps sp := by
  obtain ⟨f, fd, h1, h2, h3, h4⟩ := c
  exact ⟨f, fd, h1, h2, h3, h4.mono h⟩
abbrev FnP (K : PySem.W.Frag) (x qual : Str) (st : Stmt) (f : Addr) (fd : FuncData) : Prop := FunD K x qual (defArgs st) (defBody st) (defScope st) [] [] f fd
/-! ### the rules with the module's part by name -/
section
variable {X : Cx} (K : PySem.W.Frag) (h : X.K = K := by rfl)
include h
theorem ix_tupK : IxR X (rIxT K) := h ▸ ix_tup
theorem ix_listK : IxR X (rIxL K) := h ▸ ix_list
theorem op_catK : OpR X (binaryOp .Add) (rCatA K) := h ▸ op_catA
theorem sl_tupK : SlR X (rSlA K) := h ▸ sl_tupA
theorem sl_listK : SlR X (rSlL K) := h ▸ sl_list
theorem op_inK : OpR X (compareOp .In) (rIn K false) := h ▸ op_in_seq
theorem op_notInK : OpR X (compareOp .NotIn) (rIn K true) := h ▸ op_notIn_seq
theorem call_lenK : CallR X (.builtin "len") (Evl.rLenS K) := h ▸ call_lenS
theorem call_listK : CallR X (.type "list") (Evl.rListS K) := h ▸ call_listS
theorem call_tupK : CallR X (.type "tuple") (rTupS K) := h ▸ call_tupS
theorem call_tupFK : CallR X (.type "tuple") (rTupF K) := h ▸ call_tupF
end
section
variable {X : Cx} (K : PySem.W.Frag)
theorem op_eqK {k : Nat} (hr : Room k X.A) (h : X.K = K := by rfl) : OpR X (compareOp .Eq) (rEqD K) := h ▸ op_eqD hr.units
theorem op_neK {k : Nat} (hr : Room k X.A) (h : X.K = K := by rfl) : OpR X (compareOp .NotEq) (rNeD K) := h ▸ op_neD hr.units
theorem cr_sumK (hc : X.calm = true := by rfl) (h : X.K = K := by rfl) : CallR X (.builtin "sum") (rSum K) := h ▸ cr_sum hc
theorem cr_anyK (hc : X.calm = true := by rfl) (h : X.K = K := by rfl) : CallR X (.builtin "any") (rAny K) := h ▸ cr_any hc
theorem pi_tupK {tg l : Expr} {tl : TE} (hl : PE X l tl) (h : X.K = K := by rfl) : PI X tg l (iTup K tl) := h ▸ pi_tup hl
theorem pi_listK {tg l : Expr} {tl : TE} (hl : PE X l tl) (h : X.K = K := by rfl) : PI X tg l (iList K tl) := h ▸ pi_list hl
theorem pe_app {o e : Expr} {to te : TE} {apos cpos : Pos} (ho : PE X o to) (he : PE X e te) (h : X.K = K := by rfl) (hbase : attributeBase o "append" X.env (eval o X.env) = eval o X.env := by rfl)
    (hfew : ((backTo cpos (starEach [e] X.env)).all (fun x => !x.1) && (backToKw cpos (keywordEach [] X.env)).all (fun x => x.1.isSome)
      && decide ([e].length + ([] : List Keyword).length + (if ([] : List Keyword).isEmpty then 0 else 1) < 30)) = true := by rfl)
    (hline : (apos.endLine == cpos.line) = true := by rfl) (hs : starEach [e] X.env = (false, eval e X.env) :: starEach [] X.env := by rfl) (hplain : (backTo cpos (starEach [] X.env)).any (·.1) = false := by rfl) :
    PE X (.Call (.Attribute o "append" apos) [e] [] cpos) (tBM K "list" rAppend to (tCons te tNil)) := h ▸ pe_bm PySem.F.plainAttrs_list PySem.F.slot_list_append PySem.F.type_list_append mt_append ho (pa_cons he pa_nil hs) hbase hfew hline hs hplain
theorem pe_ext {o e : Expr} {to te : TE} {apos cpos : Pos} (ho : PE X o to) (he : PE X e te) (h : X.K = K := by rfl) (hbase : attributeBase o "extend" X.env (eval o X.env) = eval o X.env := by rfl)
    (hfew : ((backTo cpos (starEach [e] X.env)).all (fun x => !x.1) && (backToKw cpos (keywordEach [] X.env)).all (fun x => x.1.isSome)
      && decide ([e].length + ([] : List Keyword).length + (if ([] : List Keyword).isEmpty then 0 else 1) < 30)) = true := by rfl)
    (hline : (apos.endLine == cpos.line) = true := by rfl) (hs : starEach [e] X.env = (false, eval e X.env) :: starEach [] X.env := by rfl) (hplain : (backTo cpos (starEach [] X.env)).any (·.1) = false := by rfl) :
    PE X (.Call (.Attribute o "extend" apos) [e] [] cpos) (tBM K "list" rExtend to (tCons te tNil)) := h ▸ pe_bm PySem.F.plainAttrs_list PySem.F.slot_list_extend PySem.F.type_list_extend mt_extend ho (pa_cons he pa_nil hs) hbase hfew hline hs hplain
theorem pe_fldK {e : Expr} {f : Str} {pos : Pos} {ta : TE} (he : PE X e ta) (h : X.K = K := by rfl) (hb : attributeBase e f X.env (eval e X.env) = eval e X.env := by rfl) : PE X (.Attribute e f pos) (tFld K ta f) := h ▸ pe_fld he hb
end
/-! ### more of the data layer -/
section
variable {K : PySem.W.Frag} {ss : List Sl} {ta te tl : TE} {x y z : A} {d : D} {xs ys : List D}
theorem ev_neg {i : Int} (h : Ev K te ss (.d (.int i))) : Ev K (tUn (rU fun i => .int (-i)) te) ss (.d (.int (-i))) := fun B F H σ Q ok q =>
  h B F H σ _ ok fun v H2 e2 r => ⟨i, un_int r, q _ H2 e2 ad_int⟩
theorem ev_v {i : Nat} {s : Sl} (h : ss[i]? = some s := by rfl) (hv : s.val = some x := by rfl) : Ev K (tVar i) ss x := ev_var h hv
theorem ev_ix {f : Bool} {i : Int} (h : Ev K te ss (.d (.tu f xs))) (h2 : Ev K ta ss (.d (.int i))) (e : atI xs i = some d) : Ev K (tOp (rIxT K) te ta) ss (.d d) := ev_op h h2 (rop_ixT e)
theorem ev_ixc {f : Bool} {i : Int} (h : Ev K te ss (.d (.tu f xs))) (e : atI xs i = some d) : Ev K (tOp (rIxT K) te (tC (.int i))) ss (.d d) := ev_op h ev_int (rop_ixT e)
theorem ev_m1 : Ev K (tUn (rU fun i => .int (-i)) (tC (.int 1))) ss (.d (.int (-1))) := ev_neg ev_int
def rTIx (K : PySem.W.Frag) : V → List V → Hp → VK → Prop := fun x xs H Q => ∃ p, ∃ ys : List Str, ∃ z j, x = .ref p ∧ xs = [.str z] ∧ SqT K H p (ys.map V.str) ∧ ys[j]? = some z ∧ (∀ m, m < j → ys[m]? ≠ some z) ∧ Q (.int (j : Nat)) H
/-- a method of a tuple whose object is known -/
def tBT (r : V → List V → Hp → VK → Prop) (to : TE) (t : TA) : TE := fun σ H Q => to σ H fun x H1 => (∃ (a : Addr) (o : Obj) (vs : List V), x = .ref a ∧ H1 a = some (.frz o (.tup vs)) ∧ o.dict = none) ∧ t σ H1 fun xs H2 => r x xs H2 Q
theorem pe_tIx {X : Cx} {o e : Expr} {to : TE} {t : TA} {apos cpos : Pos} (K : PySem.W.Frag) (ho : PE X o to) (ha : PA X [e] t) (hK : X.K = K := by rfl)
    (hbase : attributeBase o "index" X.env (eval o X.env) = eval o X.env := by rfl)
    (hfew : ((backTo cpos (starEach [e] X.env)).all (fun x => !x.1) && (backToKw cpos (keywordEach [] X.env)).all (fun x => x.1.isSome)
      && decide ([e].length + ([] : List Keyword).length + (if ([] : List Keyword).isEmpty then 0 else 1) < 30)) = true := by rfl)
    (hline : (apos.endLine == cpos.line) = true := by rfl) (hs : starEach [e] X.env = (false, eval e X.env) :: starEach [] X.env := by rfl) (hplain : (backTo cpos (starEach [] X.env)).any (·.1) = false := by rfl) :
    PE X (.Call (.Attribute o "index" apos) [e] [] cpos) (tBT (rTIx K) to t) := by
  subst hK
  refine ⟨fun pins s σ H Q I h => ?_⟩
  refine wpAny_Call_method_late hbase hfew hline rfl (thn (ho.run pins s σ H _ I h) fun v s1 ⟨x, H1, I1, r1, ⟨a, ob, vs, ex, hx, hd⟩, q1⟩ => ?_)
  subst ex
  cases r1
  obtain ⟨g1, _, its, _, oo, g2, g3, n, g4⟩ := I1.hok a _ hx
  rw [g1] at g2
  cases g2
  refine ⟨"tuple", "tuple.index", PySem.F.plainAttrs_tuple, PySem.F.slot_tuple_index, PySem.F.type_tuple_index, ⟨ob, g1, g3⟩, fun a' e => by cases e; exact ⟨ob, g1, hd⟩, ?_⟩
  have hA := ha.run cpos pins s1 σ H1 _ I1 q1
  rw [hs] at hA ⊢
  refine Calls.callWith_builtin (by show (false || (backTo cpos (starEach [] X.env)).any (·.1)) = false; rw [hplain] <;> rfl) (Calls.evalArgs_plain ?_)
  exact thn hA fun us s2 ⟨vs, H2, I2, r2, q2⟩ => mt_tup_index pins s2 σ H2 (V.ref a) vs (Value.ref a) us Q I2 (show RelV (V.ref a) (Value.ref a) from rfl) r2 q2
theorem ev_index {l : List Str} {s : Str} {j : Nat} (h : Ev K te ss (.d (.tupF (l.map .str)))) (h2 : Ev K ta ss (.d (.str s))) (hj : l[j]? = some s) (hn : ∀ m, m < j → l[m]? ≠ some s) :
    Ev K (tBT (rTIx K) te (tCons ta tNil)) ss (.d (.int (j : Int))) := fun B F H σ Q ok q =>
  h B F H σ _ ok fun v H2 e2 r => by
    obtain ⟨a, vs, rfl, ⟨o, ha, hd⟩, hl⟩ := un_tu r
    rw [atL_strs.mp hl] at ha
    refine ⟨⟨a, o, _, rfl, ha, hd⟩, ?_⟩
    refine h2 B F H2 σ _ (ok.mono e2) fun v H3 e3 r3 => ?_
    exact ⟨a, l, s, j, rfl, by rw [un_str r3], .inl (.inr ⟨o, e3 _ _ ha⟩), hj, hn, q _ H3 (e2.trans e3) ad_int⟩
/- xs[::-1] -/
theorem evn_rev (h : Ev K te ss (.l xs)) : EvN K (tRevL K te) ss xs.reverse := fun B F H σ Q ok q =>
  h B F H σ _ ok fun v H2 e2 r => by
    obtain ⟨a, vs, rfl, ha, hl⟩ := r
    refine ⟨a, vs, rfl, SqL.of ha, fun p hp => ?_⟩
    have e : Ex H2 (upd H2 p (.lst vs.reverse)) := Evl.Ex.new hp
    exact q _ _ _ (Evl.fresh_back e2 hp) (e2.trans e) upd_same (hl.reverse.ex e)
/- sep.join(texts) -/
def rJoin (K : PySem.W.Frag) : V → List V → Hp → VK → Prop := fun x xs H Q => ∃ a p, ∃ ys : List Str, x = .str a ∧ xs = [.ref p] ∧ (SqL K H p (ys.map V.str) ∨ SqT K H p (ys.map V.str)) ∧ (ys.map (·.length)).sum + ys.length * a.length ≤ 16777216 ∧ Q (.str (Txt.join a ys)) H
theorem pe_joinS {X : Cx} {o e : Expr} {to te : TE} {apos pos : Pos} (K : PySem.W.Frag) (ho : PE X o to) (he : PE X e te) (hK : X.K = K := by rfl) (hs : starEach [e] X.env = [(false, eval e X.env)] := by rfl) (hbase : attributeBase o "join" X.env (eval o X.env) = eval o X.env := by rfl) (hline : (apos.endLine == pos.line) = true := by rfl) :
    PE X (.Call (.Attribute o "join" apos) [e] [] pos) (tM1 (rJoin K) to te) := hK ▸ pe_join ho he hs hbase hline
theorem ev_join {s : Str} {l : List Str} (h : Ev K te ss (.d (.str s))) (h2 : Ev K ta ss (.l (l.map .str))) (hz : (l.map (·.length)).sum + l.length * s.length ≤ 16777216) : Ev K (tM1 (rJoin K) te ta) ss (.d (.str (Txt.join s l))) := fun B F H σ Q ok q =>
  h B F H σ _ ok fun v H2 e2 r => by
    refine ⟨⟨s, un_str r⟩, h2 B F H2 σ _ (ok.mono e2) fun u H3 e3 r3 => ?_⟩
    obtain ⟨a, vs, rfl, ha, hl⟩ := r3
    rw [atL_strs.mp hl] at ha
    exact ⟨s, a, l, un_str r, rfl, .inl (SqL.of ha), hz, q _ H3 (e2.trans e3) ad_str⟩
end
end G
/-! The data that the defs speak of. -/
namespace G
open PySem L2
abbrev nat (n : Nat) : D := .int (n : Int)
/-- a machine -/
structure M where
  forms : List Str
  names : List Str
  starts : List Nat
  steps : List (List Nat)
  marks : List Nat
def rowD (r : List Nat) : D := .tup (r.map nat)
def M.parts (m : M) : List D := [.tup (m.forms.map .str), .tupF (m.names.map .str), .tup (m.starts.map nat), .tup (m.steps.map rowD), .tup (m.marks.map nat)]
def M.d (m : M) : D := .tup m.parts
structure M.Ok (m : M) (n : Nat) : Prop where
  st : m.starts.length = m.names.length + 1
  sb : ∀ s ∈ m.starts, s < n
  sp : m.steps.length = n
  rl : ∀ r ∈ m.steps, r.length = n
  rb : ∀ r ∈ m.steps, ∀ s ∈ r, s < n
  ml : m.marks.length = n
  n0 : 0 < n
  nz : n ≤ 64
  az : m.names.length ≤ 64
  fz : m.forms.length ≤ 64
  nd : m.names.Nodup
def M.start (m : M) (x : Str) : Nat := m.starts.getD (m.names.idxOf x) 0
def M.step (m : M) (p q : Nat) : Nat := (m.steps.getD p []).getD q 0
/-- a way -/
structure Way where
  f : List Nat
  last : Int
def Way.d (w : Way) : D := .tup (w.f.map nat ++ [.int w.last])
structure Way.Ok (w : Way) (n : Nat) : Prop where
  len : w.f.length = n
  bd : ∀ s ∈ w.f, s < n
def Way.none (m : M) : Way := ⟨List.range m.steps.length, -1⟩
def Way.one (m : M) (s : Nat) : Way := ⟨m.steps.map fun r => r.getD s 0, (s : Int)⟩
def Way.behind (w o : Way) : Way := ⟨w.f.map fun s => o.f.getD s 0, if o.last = -1 then w.last else if w.last = -1 then o.last else -2⟩
section
variable {m : M} {n : Nat}
theorem M.Ok.start_lt (h : m.Ok n) (x : Str) : m.start x < n := by
  unfold M.start
  have hi : m.names.idxOf x < m.starts.length := by
    rw [h.st]
    have := List.idxOf_le_length (l := m.names) (a := x)
    omega
  rw [List.getD_eq_getElem?_getD, List.getElem?_eq_getElem hi]
  exact h.sb _ (List.getElem_mem hi)
theorem M.Ok.step_lt (h : m.Ok n) {p q : Nat} (hp : p < n) (hq : q < n) : m.step p q < n := by
  unfold M.step
  have hi : p < m.steps.length := by rw [h.sp]; exact hp
  rw [List.getD_eq_getElem?_getD (l := m.steps), List.getElem?_eq_getElem hi]
  simp only [Option.getD_some]
  have hm := List.getElem_mem hi
  have hj : q < (m.steps[p]).length := by rw [h.rl _ hm]; exact hq
  rw [List.getD_eq_getElem?_getD, List.getElem?_eq_getElem hj]
  exact h.rb _ hm _ (List.getElem_mem hj)
theorem Way.none_ok (h : m.Ok n) : (Way.none m).Ok n := ⟨by simp [Way.none, h.sp], fun s hs => by simpa [Way.none, h.sp] using hs⟩
theorem Way.one_ok (h : m.Ok n) {s : Nat} (hs : s < n) : (Way.one m s).Ok n := by
  refine ⟨by simp [Way.one, h.sp], fun t ht => ?_⟩
  simp only [Way.one, List.mem_map] at ht
  obtain ⟨r, hr, rfl⟩ := ht
  have hj : s < r.length := by rw [h.rl _ hr]; exact hs
  rw [List.getD_eq_getElem?_getD, List.getElem?_eq_getElem hj]
  exact h.rb _ hr _ (List.getElem_mem hj)
theorem Way.getD_lt {w : Way} (h : w.Ok n) {s : Nat} (hs : s < n) : w.f.getD s 0 < n := by
  have hj : s < w.f.length := by rw [h.len]; exact hs
  rw [List.getD_eq_getElem?_getD, List.getElem?_eq_getElem hj]
  exact h.bd _ (List.getElem_mem hj)
theorem Way.behind_ok {w o : Way} (hw : w.Ok n) (ho : o.Ok n) : (w.behind o).Ok n := by
  refine ⟨by simp [Way.behind, hw.len], fun t ht => ?_⟩
  simp only [Way.behind, List.mem_map] at ht
  obtain ⟨s, hs, rfl⟩ := ht
  exact Way.getD_lt ho (hw.bd _ hs)
theorem at_some {α : Type} {xs : List α} {j : Nat} {v : α} {z : Int} (e : z = (j : Int)) (h : xs[j]? = some v) : atI xs z = some v := by rw [e]; exact atI_nat h
theorem at_last1 {α : Type} {xs : List α} {v : α} (h : xs.getLast? = some v) : atI xs (-1) = some v := by
  obtain ⟨ys, rfl⟩ : ∃ ys, xs = ys ++ [v] := by
    have := List.getLast?_eq_some_iff.mp h
    obtain ⟨ys, e⟩ := this
    exact ⟨ys, e⟩
  exact atI_last ys v
end
end G
/-! Documents, items, and what the defs reckon of them. -/
namespace G
open PySem L2
inductive Doc where
  | mk (name : Str) (kids : List Doc)
def Doc.name : Doc → Str
  | .mk n _ => n
def Doc.kids : Doc → List Doc
  | .mk _ ks => ks
mutual
def Doc.d : Doc → D
  | .mk n ks => .tup [.str n, .tup (Doc.ds ks)]
def Doc.ds : List Doc → List D
  | [] => []
  | k :: ks => k.d :: Doc.ds ks
end
theorem Doc.ds_map : ∀ ks : List Doc, Doc.ds ks = ks.map Doc.d
  | [] => rfl
  | k :: ks => by rw [Doc.ds, Doc.ds_map ks]; rfl
theorem Doc.d_mk (n : Str) (ks : List Doc) : (Doc.mk n ks).d = .tup [.str n, .tup (ks.map Doc.d)] := by rw [Doc.d, Doc.ds_map]
mutual
def Doc.ht : Doc → Nat
  | .mk _ ks => Doc.hts ks + 1
def Doc.hts : List Doc → Nat
  | [] => 0
  | k :: ks => max k.ht (Doc.hts ks)
end
theorem Doc.ht_le {k : Doc} : ∀ {ks : List Doc}, k ∈ ks → k.ht ≤ Doc.hts ks
  | [], h => by cases h
  | j :: ks, h => by
    rw [Doc.hts]
    rcases List.mem_cons.mp h with rfl | h
    · exact Nat.le_max_left _ _
    · exact Nat.le_trans (Doc.ht_le h) (Nat.le_max_right _ _)
theorem Doc.hts_le {b : Nat} : ∀ {ks : List Doc}, (∀ k ∈ ks, k.ht ≤ b) → Doc.hts ks ≤ b
  | [], _ => Nat.zero_le _
  | j :: ks, h => by
    rw [Doc.hts]
    exact Nat.max_le.mpr ⟨h j List.mem_cons_self, Doc.hts_le fun k hk => h k (List.mem_cons_of_mem _ hk)⟩
theorem Doc.ht_pos (x : Doc) : 0 < x.ht := by cases x; rw [Doc.ht]; omega
mutual
def Doc.size : Doc → Nat
  | .mk _ ks => 1 + Doc.sizes ks
def Doc.sizes : List Doc → Nat
  | [] => 0
  | k :: ks => k.size + Doc.sizes ks
end
theorem Doc.len_le : ∀ (ks : List Doc), ks.length ≤ Doc.sizes ks
  | [] => Nat.zero_le _
  | k :: ks => by
    rw [Doc.sizes, List.length_cons]
    have := Doc.len_le ks
    cases k with
    | mk n l => rw [Doc.size]; omega
theorem Doc.size_le {k : Doc} : ∀ {ks : List Doc}, k ∈ ks → k.size ≤ Doc.sizes ks
  | [], h => by cases h
  | j :: ks, h => by
    rw [Doc.sizes]
    rcases List.mem_cons.mp h with rfl | h
    · omega
    · have := Doc.size_le h
      omega
theorem Doc.sizes_app : ∀ (a b : List Doc), Doc.sizes (a ++ b) = Doc.sizes a + Doc.sizes b
  | [], b => by rw [List.nil_append, Doc.sizes]; omega
  | k :: a, b => by rw [List.cons_append, Doc.sizes, Doc.sizes_app a b, Doc.sizes]; omega
theorem Doc.hts_app : ∀ (a b : List Doc), Doc.hts (a ++ b) = max (Doc.hts a) (Doc.hts b)
  | [], b => by rw [List.nil_append, Doc.hts]; omega
  | k :: a, b => by rw [List.cons_append, Doc.hts, Doc.hts_app a b, Doc.hts]; omega
/-! ### states -/
mutual
def M.state (m : M) : Doc → Nat
  | .mk n ks => M.run m (m.start n) ks
def M.run (m : M) (s : Nat) : List Doc → Nat
  | [] => s
  | k :: ks => M.run m (m.step s (M.state m k)) ks
end
theorem M.run_app (m : M) : ∀ (a b : List Doc) (s : Nat), m.run s (a ++ b) = m.run (m.run s a) b
  | [], b, s => by rw [List.nil_append, M.run]
  | k :: a, b, s => by rw [List.cons_append, M.run, M.run_app m a b, M.run]
mutual
theorem M.Ok.state_lt {m : M} {n : Nat} (h : m.Ok n) : ∀ x : Doc, m.state x < n
  | .mk x ks => by rw [M.state]; exact h.run_lt ks (h.start_lt x)
theorem M.Ok.run_lt {m : M} {n : Nat} (h : m.Ok n) : ∀ (ks : List Doc) {s : Nat}, s < n → m.run s ks < n
  | [], s, hs => by rw [M.run]; exact hs
  | k :: ks, s, hs => by rw [M.run]; exact h.run_lt ks (h.step_lt hs (h.state_lt k))
end
/-! ### places -/
mutual
def Doc.pl (p : List Nat) : Doc → List (List Nat)
  | .mk _ ks => p :: Doc.pls p 0 ks
def Doc.pls (p : List Nat) (i : Nat) : List Doc → List (List Nat)
  | [] => []
  | k :: ks => Doc.pl (p ++ [i]) k ++ Doc.pls p (i + 1) ks
end
mutual
def Doc.up (p : List Nat) : Doc → List (List Nat)
  | .mk _ ks => Doc.ups p 0 ks ++ [p]
def Doc.ups (p : List Nat) (i : Nat) : List Doc → List (List Nat)
  | [] => []
  | k :: ks => Doc.up (p ++ [i]) k ++ Doc.ups p (i + 1) ks
end
mutual
theorem Doc.pl_len : ∀ (x : Doc) (p : List Nat), (x.pl p).length = x.size
  | .mk _ ks, p => by rw [Doc.pl, Doc.size, List.length_cons, Doc.pls_len]; omega
theorem Doc.pls_len : ∀ (ks : List Doc) (p : List Nat) (i : Nat), (Doc.pls p i ks).length = Doc.sizes ks
  | [], p, i => by rw [Doc.pls, Doc.sizes]; rfl
  | k :: ks, p, i => by rw [Doc.pls, Doc.sizes, List.length_append, Doc.pl_len, Doc.pls_len]
end
mutual
theorem Doc.up_len : ∀ (x : Doc) (p : List Nat), (x.up p).length = x.size
  | .mk _ ks, p => by rw [Doc.up, Doc.size, List.length_append, Doc.ups_len]; simp; omega
theorem Doc.ups_len : ∀ (ks : List Doc) (p : List Nat) (i : Nat), (Doc.ups p i ks).length = Doc.sizes ks
  | [], p, i => by rw [Doc.ups, Doc.sizes]; rfl
  | k :: ks, p, i => by rw [Doc.ups, Doc.sizes, List.length_append, Doc.up_len, Doc.ups_len]
end
theorem Doc.pls_app (p : List Nat) : ∀ (a b : List Doc) (i : Nat), Doc.pls p i (a ++ b) = Doc.pls p i a ++ Doc.pls p (i + a.length) b
  | [], b, i => by rw [List.nil_append, Doc.pls]; simp
  | k :: a, b, i => by
    rw [List.cons_append, Doc.pls, Doc.pls_app p a b, Doc.pls, List.append_assoc, List.length_cons]
    have : i + 1 + a.length = i + (a.length + 1) := by omega
    rw [this]
theorem Doc.ups_app (p : List Nat) : ∀ (a b : List Doc) (i : Nat), Doc.ups p i (a ++ b) = Doc.ups p i a ++ Doc.ups p (i + a.length) b
  | [], b, i => by rw [List.nil_append, Doc.ups]; simp
  | k :: a, b, i => by
    rw [List.cons_append, Doc.ups, Doc.ups_app p a b, Doc.ups, List.append_assoc, List.length_cons]
    have : i + 1 + a.length = i + (a.length + 1) := by omega
    rw [this]
def plD (p : List Nat) : D := .tup (p.map nat)
/-- the document at a place -/
def Doc.at : List Nat → Doc → Option Doc
  | [], x => some x
  | i :: p, .mk _ ks => (ks[i]?).bind (Doc.at p)
/-- the document with another one at a place -/
def Doc.put (y : Doc) : List Nat → Doc → Doc
  | [], _ => y
  | i :: p, .mk n ks => .mk n (ks.take i ++ (match ks[i]? with | some k => [Doc.put y p k] | none => []) ++ ks.drop (i + 1))
/-! ### items -/
inductive Item where
  | hole
  | el (name : Str) (items : List Item)
mutual
def Item.d : Item → D
  | .hole => .str "*"
  | .el n is => .tup [.str n, .tup (Item.ds is)]
def Item.ds : List Item → List D
  | [] => []
  | k :: ks => k.d :: Item.ds ks
end
theorem Item.ds_map : ∀ ks : List Item, Item.ds ks = ks.map Item.d
  | [] => rfl
  | k :: ks => by rw [Item.ds, Item.ds_map ks]; rfl
mutual
def Item.ht : Item → Nat
  | .hole => 0
  | .el _ is => Item.hts is + 1
def Item.hts : List Item → Nat
  | [] => 0
  | k :: ks => max k.ht (Item.hts ks)
end
theorem Item.ht_le {k : Item} : ∀ {ks : List Item}, k ∈ ks → k.ht ≤ Item.hts ks
  | [], h => by cases h
  | j :: ks, h => by
    rw [Item.hts]
    rcases List.mem_cons.mp h with rfl | h
    · exact Nat.le_max_left _ _
    · exact Nat.le_trans (Item.ht_le h) (Nat.le_max_right _ _)
mutual
def Item.fill (row : List Doc) : Item → List Doc
  | .hole => row
  | .el n is => [.mk n (Item.fills row is)]
def Item.fills (row : List Doc) : List Item → List Doc
  | [] => []
  | k :: ks => Item.fill row k ++ Item.fills row ks
end
mutual
def Item.holed : Item → Bool
  | .hole => true
  | .el _ is => Item.holeds is
def Item.holeds : List Item → Bool
  | [] => false
  | k :: ks => Item.holed k || Item.holeds ks
end
mutual
def Item.fsz (s : Nat) : Item → Nat
  | .hole => s
  | .el _ is => 1 + Item.fszs s is
def Item.fszs (s : Nat) : List Item → Nat
  | [] => 0
  | k :: ks => Item.fsz s k + Item.fszs s ks
end
/-! ### turners -/
abbrev Tr := List (Str × List Item)
def Tr.d (t : Tr) : D := .tup (t.map fun r => .tup [.str r.1, .tup (Item.ds r.2)])
/-- the items that a name is turned by -/
def Tr.look (t : Tr) (x : Str) : Option (List Item) := (t.find? fun r => decide (r.1 = x)).map (·.2)
def Tr.items (t : Tr) (x : Str) : List Item := (t.look x).getD [.el x [.hole]]
mutual
def Tr.turn (t : Tr) : Doc → List Doc
  | .mk n ks => Item.fills (Tr.turns t ks) (t.items n)
def Tr.turns (t : Tr) : List Doc → List Doc
  | [] => []
  | k :: ks => Tr.turn t k ++ Tr.turns t ks
end
mutual
def Tr.tsz (t : Tr) : Doc → Nat
  | .mk n ks => Item.fszs (Tr.tszs t ks) (t.items n)
def Tr.tszs (t : Tr) : List Doc → Nat
  | [] => 0
  | k :: ks => Tr.tsz t k + Tr.tszs t ks
end
theorem Tr.turns_app (t : Tr) : ∀ (a b : List Doc), t.turns (a ++ b) = t.turns a ++ t.turns b
  | [], b => by rw [List.nil_append, Tr.turns]; rfl
  | k :: a, b => by rw [List.cons_append, Tr.turns, Tr.turns_app t a b, Tr.turns, List.append_assoc]
theorem Tr.tszs_app (t : Tr) : ∀ (a b : List Doc), t.tszs (a ++ b) = t.tszs a + t.tszs b
  | [], b => by rw [List.nil_append, Tr.tszs]; omega
  | k :: a, b => by rw [List.cons_append, Tr.tszs, Tr.tszs_app t a b, Tr.tszs]; omega
end G
/-! Data that may be compared; ways through items. -/
namespace G
open PySem L2
mutual
def Item.okS : Item → Bool
  | .hole => true
  | .el n is => PyData.strOk n && Item.okSs is
def Item.okSs : List Item → Bool
  | [] => true
  | k :: ks => Item.okS k && Item.okSs ks
end
mutual
def Doc.okS : Doc → Bool
  | .mk n is => PyData.strOk n && Doc.okSs is
def Doc.okSs : List Doc → Bool
  | [] => true
  | k :: ks => Doc.okS k && Doc.okSs ks
end
theorem toPs_map : ∀ l : List D, D.toPs l = l.map D.toP
  | [] => rfl
  | d :: l => by rw [D.toPs, toPs_map l]; rfl
mutual
theorem Item.lay : ∀ k : Item, k.okS = true → PyData.canLay0 k.d.toP = true ∧ PyData.depth k.d.toP ≤ 2 * k.ht
  | .hole, _ => by rw [Item.d, D.toP, PyData.canLay0, PyData.depth]; exact ⟨by decide +kernel, Nat.zero_le _⟩
  | .el n is, h => by
    rw [Item.okS, Bool.and_eq_true] at h
    obtain ⟨h1, h2⟩ := Item.lays is h.2
    rw [Item.d, D.toP, D.toPs, D.toPs, D.toPs, D.toP, D.toP, PyData.canLay0, PyData.canLayAll0, PyData.canLayAll0, PyData.canLayAll0, PyData.canLay0, PyData.canLay0, PyData.depth, PyData.depthAll, PyData.depthAll, PyData.depthAll, PyData.depth, PyData.depth, Item.ht]
    refine ⟨by rw [h.1, h1]; rfl, ?_⟩
    omega
theorem Item.lays : ∀ ks : List Item, Item.okSs ks = true → PyData.canLayAll0 (D.toPs (Item.ds ks)) = true ∧ PyData.depthAll (D.toPs (Item.ds ks)) ≤ 2 * Item.hts ks
  | [], _ => by rw [Item.ds, D.toPs, PyData.canLayAll0, PyData.depthAll]; exact ⟨rfl, Nat.zero_le _⟩
  | k :: ks, h => by
    rw [Item.okSs, Bool.and_eq_true] at h
    obtain ⟨h1, h2⟩ := Item.lay k h.1
    obtain ⟨h3, h4⟩ := Item.lays ks h.2
    rw [Item.ds, D.toPs, PyData.canLayAll0, PyData.depthAll, Item.hts]
    refine ⟨by rw [h1, h3]; rfl, ?_⟩
    omega
end
mutual
theorem Doc.lay : ∀ k : Doc, k.okS = true → PyData.canLay0 k.d.toP = true ∧ PyData.depth k.d.toP ≤ 2 * k.ht
  | .mk n is, h => by
    rw [Doc.okS, Bool.and_eq_true] at h
    obtain ⟨h1, h2⟩ := Doc.lays is h.2
    rw [Doc.d, D.toP, D.toPs, D.toPs, D.toPs, D.toP, D.toP, PyData.canLay0, PyData.canLayAll0, PyData.canLayAll0, PyData.canLayAll0, PyData.canLay0, PyData.canLay0, PyData.depth, PyData.depthAll, PyData.depthAll, PyData.depthAll, PyData.depth, PyData.depth, Doc.ht]
    refine ⟨by rw [h.1, h1]; rfl, ?_⟩
    omega
theorem Doc.lays : ∀ ks : List Doc, Doc.okSs ks = true → PyData.canLayAll0 (D.toPs (Doc.ds ks)) = true ∧ PyData.depthAll (D.toPs (Doc.ds ks)) ≤ 2 * Doc.hts ks
  | [], _ => by rw [Doc.ds, D.toPs, PyData.canLayAll0, PyData.depthAll]; exact ⟨rfl, Nat.zero_le _⟩
  | k :: ks, h => by
    rw [Doc.okSs, Bool.and_eq_true] at h
    obtain ⟨h1, h2⟩ := Doc.lay k h.1
    obtain ⟨h3, h4⟩ := Doc.lays ks h.2
    rw [Doc.ds, D.toPs, PyData.canLayAll0, PyData.depthAll, Doc.hts]
    refine ⟨by rw [h1, h3]; rfl, ?_⟩
    omega
end
theorem shaped_of {p : PyData} (h : PyData.canLay0 p = true) (hd : PyData.depth p ≤ 64) : SeqAt.shaped p = true := by
  unfold SeqAt.shaped
  rw [h, decide_eq_true hd]
  rfl
theorem Item.shaped {k : Item} (h : k.okS = true) (hh : k.ht ≤ 32) : SeqAt.shaped k.d.toP = true := shaped_of (Item.lay k h).1 (by have := (Item.lay k h).2; omega)
theorem Doc.shaped {k : Doc} (h : k.okS = true) (hh : k.ht ≤ 32) : SeqAt.shaped k.d.toP = true := shaped_of (Doc.lay k h).1 (by have := (Doc.lay k h).2; omega)
theorem shaped_str {s : Str} (h : PyData.strOk s = true) : SeqAt.shaped (D.str s).toP = true := by
  rw [D.toP]
  exact shaped_of (by rw [PyData.canLay0]; exact h) (by rw [PyData.depth]; exact Nat.zero_le _)
theorem star_ok : PyData.strOk ("*" : Str) = true := by decide +kernel
theorem Item.okSs_mem : ∀ {ks : List Item} {k : Item}, Item.okSs ks = true → k ∈ ks → k.okS = true
  | [], _, _, h => by cases h
  | j :: ks, k, h, hk => by
    rw [Item.okSs, Bool.and_eq_true] at h
    rcases List.mem_cons.mp hk with rfl | hk
    · exact h.1
    · exact Item.okSs_mem h.2 hk
theorem Doc.okSs_mem : ∀ {ks : List Doc} {k : Doc}, Doc.okSs ks = true → k ∈ ks → k.okS = true
  | [], _, _, h => by cases h
  | j :: ks, k, h, hk => by
    rw [Doc.okSs, Bool.and_eq_true] at h
    rcases List.mem_cons.mp hk with rfl | hk
    · exact h.1
    · exact Doc.okSs_mem h.2 hk
/-- item == "*" -/
def Item.isHole : Item → Bool
  | .hole => true
  | .el _ _ => false
theorem Item.eqStar (k : Item) : PyData.eqv k.d.toP (D.str "*").toP = k.isHole := by
  cases k with
  | hole => rw [Item.d, D.toP, PyData.eqv, Item.isHole]; simp
  | el n is => rw [Item.d, D.toP, D.toP, PyData.eqv, Item.isHole]
section
variable {K : PySem.W.Frag}
theorem rop_star {k : Item} (h : k.okS = true) (hh : k.ht ≤ 32) : ROp K (rEqD K) (.d k.d) (.d (.str "*")) (.d (.bl k.isHole)) := rop_eqD (Item.shaped h hh) (shaped_str star_ok) (Item.eqStar k)
end
/-! ### ways -/
mutual
def Item.wst (m : M) (w : Way) : Item → Nat
  | .hole => 0
  | .el n is => (Item.wf m w (Way.none m) is).f.getD (m.start n) 0
def Item.wf (m : M) (w : Way) (acc : Way) : List Item → Way
  | [] => acc
  | k :: ks => Item.wf m w (acc.behind (if k.isHole then w else Way.one m (Item.wst m w k))) ks
end
theorem Item.wf_app (m : M) (w : Way) : ∀ (a b : List Item) (acc : Way), Item.wf m w acc (a ++ b) = Item.wf m w (Item.wf m w acc a) b
  | [], b, acc => by rw [List.nil_append, Item.wf]
  | k :: a, b, acc => by rw [List.cons_append, Item.wf, Item.wf_app m w a b, Item.wf]
mutual
theorem Item.wst_lt {m : M} {n : Nat} (h : m.Ok n) {w : Way} (hw : w.Ok n) : ∀ k : Item, Item.wst m w k < n
  | .hole => by rw [Item.wst]; exact h.n0
  | .el x is => by rw [Item.wst]; exact Way.getD_lt (Item.wf_ok h hw is (Way.none_ok h)) (h.start_lt x)
theorem Item.wf_ok {m : M} {n : Nat} (h : m.Ok n) {w : Way} (hw : w.Ok n) : ∀ (ks : List Item) {acc : Way}, acc.Ok n → (Item.wf m w acc ks).Ok n
  | [], acc, ha => by rw [Item.wf]; exact ha
  | k :: ks, acc, ha => by
    rw [Item.wf]
    refine Item.wf_ok h hw ks (Way.behind_ok ha ?_)
    cases k.isHole with
    | true => exact hw
    | false => exact Way.one_ok h (Item.wst_lt h hw k)
end
end G
/-! Items filled, documents turned: sizes, heights. -/
namespace G
open PySem L2
structure Tr.Ok (t : Tr) : Prop where
  nd : (t.map (·.1)).Nodup
  ok : ∀ q ∈ t, PyData.strOk q.1 = true ∧ Item.okSs q.2 = true ∧ Item.hts q.2 ≤ 2 ∧ Item.fszs 1 q.2 ≤ 40
  len : t.length ≤ 12
theorem Item.fszs_app (s : Nat) : ∀ (a b : List Item), Item.fszs s (a ++ b) = Item.fszs s a + Item.fszs s b
  | [], b => by rw [List.nil_append, Item.fszs]; omega
  | k :: a, b => by rw [List.cons_append, Item.fszs, Item.fszs_app s a b, Item.fszs]; omega
theorem Item.fills_app (row : List Doc) : ∀ (a b : List Item), Item.fills row (a ++ b) = Item.fills row a ++ Item.fills row b
  | [], b => by rw [List.nil_append, Item.fills]; rfl
  | k :: a, b => by rw [List.cons_append, Item.fills, Item.fills_app row a b, Item.fills, List.append_assoc]
theorem Item.holeds_app : ∀ (a b : List Item), Item.holeds (a ++ b) = (Item.holeds a || Item.holeds b)
  | [], b => by rw [List.nil_append, Item.holeds]; rfl
  | k :: a, b => by rw [List.cons_append, Item.holeds, Item.holeds_app a b, Item.holeds, Bool.or_assoc]
theorem Item.fsz_le (s : Nat) {k : Item} : ∀ {is : List Item}, k ∈ is → Item.fsz s k ≤ Item.fszs s is
  | [], h => by cases h
  | j :: is, h => by
    rw [Item.fszs]
    rcases List.mem_cons.mp h with rfl | h
    · omega
    · have := Item.fsz_le s h
      omega
mutual
theorem Item.fill_sz (row : List Doc) : ∀ k : Item, Doc.sizes (Item.fill row k) = Item.fsz (Doc.sizes row) k
  | .hole => by rw [Item.fill, Item.fsz]
  | .el n is => by rw [Item.fill, Item.fsz, Doc.sizes, Doc.sizes, Doc.size, Item.fills_sz row is]; omega
theorem Item.fills_sz (row : List Doc) : ∀ is : List Item, Doc.sizes (Item.fills row is) = Item.fszs (Doc.sizes row) is
  | [] => by rw [Item.fills, Item.fszs, Doc.sizes]
  | k :: is => by rw [Item.fills, Item.fszs, Doc.sizes_app, Item.fill_sz row k, Item.fills_sz row is]
end
mutual
theorem Item.fill_ht (row : List Doc) : ∀ k : Item, Doc.hts (Item.fill row k) ≤ k.ht + Doc.hts row
  | .hole => by rw [Item.fill, Item.ht]; omega
  | .el n is => by
    rw [Item.fill, Item.ht, Doc.hts, Doc.hts, Doc.ht]
    have := Item.fills_ht row is
    omega
theorem Item.fills_ht (row : List Doc) : ∀ is : List Item, Doc.hts (Item.fills row is) ≤ Item.hts is + Doc.hts row
  | [] => by rw [Item.fills, Doc.hts]; omega
  | k :: is => by
    rw [Item.fills, Doc.hts_app, Item.hts]
    have h1 := Item.fill_ht row k
    have h2 := Item.fills_ht row is
    omega
end
mutual
theorem Item.fill_okS (row : List Doc) (hr : Doc.okSs row = true) : ∀ k : Item, k.okS = true → Doc.okSs (Item.fill row k) = true
  | .hole, _ => by rw [Item.fill]; exact hr
  | .el n is, h => by
    rw [Item.okS, Bool.and_eq_true] at h
    rw [Item.fill, Doc.okSs, Doc.okSs, Doc.okS, h.1, Item.fills_okS row hr is h.2]
    rfl
theorem Item.fills_okS (row : List Doc) (hr : Doc.okSs row = true) : ∀ is : List Item, Item.okSs is = true → Doc.okSs (Item.fills row is) = true
  | [], _ => by rw [Item.fills, Doc.okSs]
  | k :: is, h => by
    rw [Item.okSs, Bool.and_eq_true] at h
    rw [Item.fills]
    exact okSs_app (Item.fill_okS row hr k h.1) (Item.fills_okS row hr is h.2)
theorem okSs_app : ∀ {a b : List Doc}, Doc.okSs a = true → Doc.okSs b = true → Doc.okSs (a ++ b) = true
  | [], b, _, h => h
  | k :: a, b, h1, h2 => by
    rw [Doc.okSs, Bool.and_eq_true] at h1
    rw [List.cons_append, Doc.okSs, h1.1, okSs_app h1.2 h2]
    rfl
end
mutual
theorem Item.fill_no (a b : List Doc) : ∀ k : Item, k.holed = false → Item.fill a k = Item.fill b k
  | .hole, h => by rw [Item.holed] at h; cases h
  | .el n is, h => by
    rw [Item.holed] at h
    rw [Item.fill, Item.fill, Item.fills_no a b is h]
theorem Item.fills_no (a b : List Doc) : ∀ is : List Item, Item.holeds is = false → Item.fills a is = Item.fills b is
  | [], h => by rw [Item.fills, Item.fills]
  | k :: is, h => by
    rw [Item.holeds, Bool.or_eq_false_iff] at h
    rw [Item.fills, Item.fills, Item.fill_no a b k h.1, Item.fills_no a b is h.2]
end
mutual
theorem Item.fsz_hole (s : Nat) : ∀ k : Item, k.holed = true → s ≤ Item.fsz s k
  | .hole, h => by rw [Item.fsz]; omega
  | .el n is, h => by
    rw [Item.holed] at h
    rw [Item.fsz]
    have := Item.fszs_hole s is h
    omega
theorem Item.fszs_hole (s : Nat) : ∀ is : List Item, Item.holeds is = true → s ≤ Item.fszs s is
  | [], h => by rw [Item.holeds] at h; cases h
  | k :: is, h => by
    rw [Item.holeds, Bool.or_eq_true] at h
    rw [Item.fszs]
    rcases h with h | h
    · have := Item.fsz_hole s k h
      omega
    · have := Item.fszs_hole s is h
      omega
end
mutual
theorem Tr.turn_sz (t : Tr) : ∀ x : Doc, Doc.sizes (t.turn x) = t.tsz x
  | .mk n ks => by rw [Tr.turn, Tr.tsz, Item.fills_sz, Tr.turns_sz t ks]
theorem Tr.turns_sz (t : Tr) : ∀ ks : List Doc, Doc.sizes (t.turns ks) = t.tszs ks
  | [] => by rw [Tr.turns, Tr.tszs, Doc.sizes]
  | k :: ks => by rw [Tr.turns, Tr.tszs, Doc.sizes_app, Tr.turn_sz t k, Tr.turns_sz t ks]
end
theorem Tr.tsz_le (t : Tr) {k : Doc} : ∀ {ks : List Doc}, k ∈ ks → t.tsz k ≤ t.tszs ks
  | [], h => by cases h
  | j :: ks, h => by
    rw [Tr.tszs]
    rcases List.mem_cons.mp h with rfl | h
    · omega
    · have := Tr.tsz_le t h
      omega
theorem Tr.look_mem : ∀ {t : Tr} {x : Str} {is : List Item}, t.look x = some is → (x, is) ∈ t
  | [], x, is, h => by cases h
  | q :: t, x, is, h => by
    unfold Tr.look at h
    rw [List.find?_cons] at h
    by_cases e : q.1 = x
    · rw [decide_eq_true e] at h
      cases h
      rw [← e]
      exact List.mem_cons_self
    · rw [decide_eq_false e] at h
      exact List.mem_cons_of_mem _ (Tr.look_mem h)
theorem Tr.Ok.items {t : Tr} (h : t.Ok) {x : Str} (hx : PyData.strOk x = true) : Item.okSs (t.items x) = true ∧ Item.hts (t.items x) ≤ 2 ∧ Item.fszs 1 (t.items x) ≤ 40 := by
  unfold Tr.items
  cases e : t.look x with
  | none =>
    show Item.okSs [.el x [.hole]] = true ∧ Item.hts [.el x [.hole]] ≤ 2 ∧ Item.fszs 1 [.el x [.hole]] ≤ 40
    rw [Item.fszs, Item.fszs, Item.fsz, Item.fszs, Item.fszs, Item.fsz, Item.okSs, Item.okSs, Item.okS, Item.okSs, Item.okSs, Item.okS, hx, Item.hts, Item.hts, Item.ht, Item.hts, Item.hts, Item.ht]
    exact ⟨rfl, by decide, by decide⟩
  | some is => exact (h.ok _ (Tr.look_mem e)).2
mutual
theorem Tr.Ok.turn_ht {t : Tr} (h : t.Ok) : ∀ x : Doc, x.okS = true → Doc.hts (t.turn x) ≤ 2 * x.ht
  | .mk n ks, hx => by
    rw [Doc.okS, Bool.and_eq_true] at hx
    rw [Tr.turn, Doc.ht]
    have h1 := Item.fills_ht (t.turns ks) (t.items n)
    have h2 := (h.items hx.1).2.1
    have h3 := Tr.Ok.turns_ht h ks hx.2
    omega
theorem Tr.Ok.turns_ht {t : Tr} (h : t.Ok) : ∀ ks : List Doc, Doc.okSs ks = true → Doc.hts (t.turns ks) ≤ 2 * Doc.hts ks
  | [], _ => by rw [Tr.turns, Doc.hts]; omega
  | k :: ks, hx => by
    rw [Doc.okSs, Bool.and_eq_true] at hx
    rw [Tr.turns, Doc.hts_app, Doc.hts]
    have h1 := Tr.Ok.turn_ht h k hx.1
    have h2 := Tr.Ok.turns_ht h ks hx.2
    omega
end
mutual
theorem Tr.Ok.turn_okS {t : Tr} (h : t.Ok) : ∀ x : Doc, x.okS = true → Doc.okSs (t.turn x) = true
  | .mk n ks, hx => by
    rw [Doc.okS, Bool.and_eq_true] at hx
    rw [Tr.turn]
    exact Item.fills_okS _ (Tr.Ok.turns_okS h ks hx.2) _ (h.items hx.1).1
theorem Tr.Ok.turns_okS {t : Tr} (h : t.Ok) : ∀ ks : List Doc, Doc.okSs ks = true → Doc.okSs (t.turns ks) = true
  | [], _ => by rw [Tr.turns, Doc.okSs]
  | k :: ks, hx => by
    rw [Doc.okSs, Bool.and_eq_true] at hx
    rw [Tr.turns]
    exact okSs_app (Tr.Ok.turn_okS h k hx.1) (Tr.Ok.turns_okS h ks hx.2)
end
theorem Item.len_le1 : ∀ is : List Item, is.length ≤ Item.fszs 1 is
  | [] => Nat.zero_le _
  | k :: is => by
    rw [Item.fszs, List.length_cons]
    have := Item.len_le1 is
    cases k with
    | hole => rw [Item.fsz]; omega
    | el n l => rw [Item.fsz]; omega
/-! ### cuts -/
theorem cut_to {α : Type} (xs : List α) (k : Nat) : cut xs none (some (k : Int)) = xs.take k := by
  unfold cut
  rw [HT.sIx_none, HT.sIx_nat, List.drop_zero, Nat.sub_zero, List.take_eq_take_iff]
  omega
theorem cut_from {α : Type} (xs : List α) (k : Nat) : cut xs (some (k : Int)) none = xs.drop k := by
  unfold cut
  rw [HT.sIx_none, HT.sIx_nat]
  by_cases h : k ≤ xs.length
  · rw [Nat.min_eq_left h, List.take_of_length_le (by rw [List.length_drop]; omega)]
  · rw [Nat.min_eq_right (by omega), List.drop_of_length_le (Nat.le_refl _), List.drop_of_length_le (by omega), List.take_nil]
theorem cut_init {α : Type} (xs : List α) (hz : xs ≠ []) : cut xs none (some (-1)) = xs.dropLast := by
  have h0 : 0 < xs.length := List.length_pos_iff.mpr hz
  unfold cut
  have h1 : HT.sIx xs.length 0 none = 0 := rfl
  have h2 : HT.sIx xs.length xs.length (some (-1)) = xs.length - 1 := by
    unfold HT.sIx
    simp
    omega
  rw [h1, h2, List.drop_zero, Nat.sub_zero, List.dropLast_eq_take]
theorem cut_map {α β : Type} (g : α → β) (xs : List α) (a b : Option Int) : cut (xs.map g) a b = (cut xs a b).map g := by
  unfold cut
  rw [List.length_map, List.map_take, List.map_drop]
end G
namespace G
open PySem L2
open Evl (Ex)
section
variable {P : Program} {w : World} {K : PySem.W.Frag} {mg : Str → Option Value} {base : Heap} {f : Addr} {fd : FuncData}
/-- a promise that is never asked -/
theorem fn_vac {k : Nat} {ps : List Str} {pre : List A → R → Prop} (h : ∀ as r, ¬ pre as r) : FnOk P w K mg base CX0 k f fd ps (spD K pre) :=
  ⟨fun vs H Q E ⟨as, r, _, hp, _⟩ => (h as r hp).elim, fun A outer s H args us vs Q E _ _ _ _ ⟨as, r, _, hp, _⟩ => (h as r hp).elim⟩
theorem cal_of {x : Str} {k : Nat} {ps : List Str} {sp : Sp} {st : Stmt} (F : FnP K x x st f fd) (g : mg x = some (.ref f)) (b : Binds K fd ps []) (ok : FnOk P w K mg base CX0 k f fd ps sp) : Cal P w K mg base x k ps sp := ⟨f, fd, g, F.kp, b, ok⟩
/-! ### start_of -/
def preStart (as : List A) (r : R) : Prop := ∃ (m : M) (n : Nat) (x : Str), m.Ok n ∧ as = [.d m.d, .d (.str x)] ∧ r = .d (nat (m.start x))
theorem sc_start_of : FnScope ["machine", "name"] ["machine", "name"] (defScope s_start_of) := ⟨rfl, rfl, rfl, by decide +kernel, rfl, by decide +kernel, by decide +kernel⟩
theorem idxOf_first {l : List Str} {x : Str} {k : Nat} (hk : k < l.idxOf x) : l[k]? ≠ some x := by
  intro he
  have h1 : k < l.length := (List.getElem?_eq_some_iff.mp he).1
  have h2 := (List.getElem?_eq_some_iff.mp he).2
  have h3 := List.not_of_lt_findIdx (p := fun y => y == x) (xs := l) (i := k) (by simpa [List.idxOf] using hk)
  simp [h2] at h3
theorem ok_start_of (F : FnP K "start_of" "start_of" s_start_of f fd) (T : Txt mg) : FnOk P w K mg base CX0 1 f fd ["machine", "name"] (spD K preStart) := by
  refine fnD F sc_start_of (n := 0) rfl (fun as r h => by obtain ⟨m, n, x, _, rfl, _⟩ := h; rfl) fun cdv A outer s H E hr => ⟨_,
    (pss_cons (ps_if (pt_cmpR (op_inK K) (pv 1) (pe_ix (ix_tupK K) (pv 0) pe_int (fun _ _ => rfl)) (by rfl))
    (pss_one (ps_ret (pe_ix (ix_tupK K) (pe_ix (ix_tupK K) (pv 0) pe_int (fun _ _ => rfl)) (pe_tIx K (pe_ix (ix_tupK K) (pv 0) pe_int (fun _ _ => rfl)) (pa_cons (pv 1) pa_nil)) (fun _ _ => rfl))))
    pss_nil)
    (pss_one (ps_ret (pe_ix (ix_tupK K) (pe_ix (ix_tupK K) (pv 0) pe_int (fun _ _ => rfl)) (pe_un un_neg pe_int) (fun _ _ => rfl))))), fun as r h => ?_⟩
  obtain ⟨m, n, x, hm, rfl, rfl⟩ := h
  have p1 : ∀ {te : TE}, Ev K te [.a (.d m.d), .a (.d (.str x))] (.d m.d) → Ev K (tOp (rIxT K) te (tC (.int 1))) [.a (.d m.d), .a (.d (.str x))] (.d (.tupF (m.names.map .str))) := fun h => ev_ixc (xs := m.parts) h rfl
  have p2 : ∀ {te : TE}, Ev K te [.a (.d m.d), .a (.d (.str x))] (.d m.d) → Ev K (tOp (rIxT K) te (tC (.int 2))) [.a (.d m.d), .a (.d (.str x))] (.d (.tup (m.starts.map nat))) := fun h => ev_ixc (xs := m.parts) h rfl
  refine sd_seq (sd_if (et_test (ev_op ev_v (p1 ev_v) rop_inT)) (fun h => ?_) fun h => ?_)
  · have hx : x ∈ m.names := of_decide_eq_true h
    have hi := List.idxOf_lt_length_iff.mpr hx
    have hs : m.names.idxOf x < m.starts.length := by rw [hm.st]; omega
    refine sd_ret (ev_ix (p2 ev_v) (ev_index (j := m.names.idxOf x) (p1 ev_v) ev_v ?_ fun k hk => idxOf_first hk) (atI_nat (v := nat (m.start x)) ?_)) rfl
    · rw [List.getElem?_eq_getElem hi]
      simp
    · rw [List.getElem?_map, List.getElem?_eq_getElem hs]
      unfold M.start
      rw [List.getD_eq_getElem?_getD, List.getElem?_eq_getElem hs]
      rfl
  · have hx : x ∉ m.names := of_decide_eq_false h
    refine sd_next (sd_ret (ev_ix (p2 ev_v) ev_m1 (at_last1 (v := nat (m.start x)) ?_)) rfl)
    rw [List.getLast?_eq_getElem?, List.length_map, List.getElem?_map, hm.st]
    have e : m.names.idxOf x = m.names.length := List.idxOf_eq_length hx
    have hs : m.names.length < m.starts.length := by rw [hm.st]; omega
    rw [Nat.add_sub_cancel, List.getElem?_eq_getElem hs]
    unfold M.start
    rw [e, List.getD_eq_getElem?_getD, List.getElem?_eq_getElem hs]
    rfl
/-! ### ways -/
def preNone (as : List A) (r : R) : Prop := ∃ (m : M) (n : Nat), m.Ok n ∧ as = [.d m.d] ∧ r = .d (Way.none m).d
theorem sc_way_of_none : FnScope ["machine"] ["machine"] (defScope s_way_of_none) := ⟨rfl, rfl, rfl, by decide +kernel, rfl, by decide +kernel, by decide +kernel⟩
theorem ok_way_of_none (F : FnP K "way_of_none" "way_of_none" s_way_of_none f fd) (T : Txt mg) : FnOk P w K mg base CX0 1 f fd ["machine"] (spD K preNone) := by
  refine fnD F sc_way_of_none (n := 0) rfl (fun as r h => by obtain ⟨m, n, _, rfl, _⟩ := h; rfl) fun cdv A outer s H E hr => ⟨_,
    (pss_one (ps_ret (pe_callTy (call_tupK K) (by rfl) T.tuple (by decide +kernel) (pa_cons (pe_op op_cat (pe_listRg rfl (by rfl) T.list (prg_1 (by rfl) T.range (pe_callB (call_lenK K) (by rfl) T.len PySem.boot_len (pa_cons (pe_ix (ix_tupK K) (pv 0) pe_int (fun _ _ => rfl)) pa_nil)))) (pe_lst (pa_cons (pe_un un_neg pe_int) pa_nil))) pa_nil)))), fun as r h => ?_⟩
  obtain ⟨m, n, hm, rfl, rfl⟩ := h
  have hz := hm.nz
  have e1 := hm.sp
  refine sd_ret (ev_cb (ea_cons (EvN.l (evn_op (EvN.l (evn_listRg (n := m.steps.length) (ev_cb (ea_cons (ev_ixc (xs := m.parts) (d := .tup (m.steps.map rowD)) ev_v rfl) ea_nil) (by rw [← List.length_map (f := rowD)]; exact rcl_lenT)) (by omega))) (EvN.l (evn_lst (eds_cons ev_m1 eds_nil) (by show 1 ≤ 100000; decide))) (rop_cat (by simp; omega)))) ea_nil) rcl_tupL) ?_
  show R.d _ = R.d _
  unfold Way.d Way.none
  simp only [List.map_map] <;> rfl
def preOne (as : List A) (r : R) : Prop := ∃ (m : M) (n k : Nat), m.Ok n ∧ k < n ∧ as = [.d m.d, .d (nat k)] ∧ r = .d (Way.one m k).d
theorem sc_way_of_one : FnScope ["machine", "state", "row"] ["machine", "state"] (defScope s_way_of_one) := ⟨rfl, rfl, rfl, by decide +kernel, rfl, by decide +kernel, by decide +kernel⟩
theorem ok_way_of_one (F : FnP K "way_of_one" "way_of_one" s_way_of_one f fd) (T : Txt mg) : FnOk P w K mg base CX0 1 f fd ["machine", "state"] (spD K preOne) := by
  refine fnD F sc_way_of_one (n := 1) rfl (fun as r h => by obtain ⟨m, n, k, _, _, rfl, _⟩ := h; rfl) fun cdv A outer s H E hr => ⟨_,
    (pss_one (ps_ret (pe_callTy (call_tupK K) (by rfl) T.tuple (by decide +kernel) (pa_cons (pe_op op_cat (pe_lc (own := [("row", 2)]) (g := gName 2) (tt := tYes) rfl sc_way_of_one.nd (pi_tupK K (pe_ix (ix_tupK K) (pv 0) pe_int (fun _ _ => rfl))) (blkOk_by (N := ["machine", "state", "row"]) (sc := defScope s_way_of_one) (by decide +kernel)) (fun _ _ _ _ _ => pg_name (i := 2) sc_way_of_one.nd rfl (Or.inl rfl)) (fun _ _ _ _ _ => pts_nil) (fun _ _ _ _ _ => (pe_ix (ix_tupK K) (pv 2) (pv 1) (fun _ _ => rfl)))) (pe_lst (pa_cons (pv 1) pa_nil))) pa_nil)))), fun as r h => ?_⟩
  obtain ⟨m, n, k, hm, hk, rfl, rfl⟩ := h
  have hz := hm.nz
  have e1 := hm.sp
  refine sd_ret (ev_cb (ea_cons (EvN.l (evn_op (EvN.l (evn_lcT (fun x => match x with | .tu _ l => l.getD k .non | _ => .non) (ev_ixc (xs := m.parts) (d := .tup (m.steps.map rowD)) ev_v rfl) (by simp; omega) fun x hx => ?_)) (EvN.l (evn_lst (eds_cons ev_v eds_nil) (by show 1 ≤ 100000; decide))) (rop_cat (by simp; omega)))) ea_nil) rcl_tupL) ?_
  · obtain ⟨r, hr, rfl⟩ := List.mem_map.mp hx
    have hl : k < r.length := by rw [hm.rl r hr]; exact hk
    refine ev_ix (xs := r.map nat) ev_v ev_v (atI_nat ?_)
    show (r.map nat)[k]? = some ((r.map nat).getD k .non)
    rw [List.getD_eq_getElem?_getD, List.getElem?_map, List.getElem?_eq_getElem hl]
    rfl
  · show R.d _ = R.d _
    unfold Way.d Way.one
    simp only [List.map_map]
    refine congrArg (fun l => R.d (.tup (l ++ [D.int (k : Int)]))) (List.map_congr_left fun r hr => ?_)
    have hl : k < r.length := by rw [hm.rl r hr]; exact hk
    show (r.map nat).getD k .non = nat (r.getD k 0)
    rw [List.getD_eq_getElem?_getD, List.getD_eq_getElem?_getD, List.getElem?_map, List.getElem?_eq_getElem hl]
    rfl
def preBehind (as : List A) (r : R) : Prop := ∃ (n : Nat) (a b : Way), a.Ok n ∧ b.Ok n ∧ n ≤ 64 ∧ as = [.d a.d, .d b.d] ∧ r = .d (a.behind b).d
theorem Way.last_at (a : Way) : atI (a.f.map nat ++ [D.int a.last]) (-1) = some (.int a.last) := atI_last _ _
theorem sc_way_behind : FnScope ["way", "other", "last", "state"] ["way", "other"] (defScope s_way_behind) := ⟨rfl, rfl, rfl, by decide +kernel, rfl, by decide +kernel, by decide +kernel⟩
theorem ok_way_behind (F : FnP K "way_behind" "way_behind" s_way_behind f fd) (T : Txt mg) : FnOk P w K mg base CX0 1 f fd ["way", "other"] (spD K preBehind) := by
  refine fnD F sc_way_behind (n := 2) rfl (fun as r h => by obtain ⟨n, a, b, _, _, _, rfl, _⟩ := h; rfl) fun cdv A outer s H E hr => ⟨_,
    (pss_cons (ps_set (i := 2) sc_way_behind.nd rfl (Or.inl rfl) (pe_un un_neg pe_int))
    (pss_cons (ps_if (pt_cmpR op_eq (pe_ix (ix_tupK K) (pv 0) (pe_un un_neg pe_int) (fun _ _ => rfl)) (pe_un un_neg pe_int) (nomark _))
    (pss_one (ps_set (i := 2) sc_way_behind.nd rfl (Or.inl rfl) (pe_ix (ix_tupK K) (pv 1) (pe_un un_neg pe_int) (fun _ _ => rfl))))
    pss_nil)
    (pss_cons (ps_if (pt_cmpR op_eq (pe_ix (ix_tupK K) (pv 1) (pe_un un_neg pe_int) (fun _ _ => rfl)) (pe_un un_neg pe_int) (nomark _))
    (pss_one (ps_set (i := 2) sc_way_behind.nd rfl (Or.inl rfl) (pe_ix (ix_tupK K) (pv 0) (pe_un un_neg pe_int) (fun _ _ => rfl))))
    pss_nil)
    (pss_one (ps_ret (pe_callTy (call_tupK K) (by rfl) T.tuple (by decide +kernel) (pa_cons (pe_op op_cat (pe_lc (own := [("state", 3)]) (g := gName 3) (tt := tYes) rfl sc_way_behind.nd (pi_tupK K (pe_slice (sl_tupK K) (pv 0) po_none (po_some (pe_un un_neg pe_int)))) (blkOk_by (N := ["way", "other", "last", "state"]) (sc := defScope s_way_behind) (by decide +kernel)) (fun _ _ _ _ _ => pg_name (i := 3) sc_way_behind.nd rfl (Or.inl rfl)) (fun _ _ _ _ _ => pts_nil) (fun _ _ _ _ _ => (pe_ix (ix_tupK K) (pv 1) (pv 3) (fun _ _ => rfl)))) (pe_lst (pa_cons (pv 2) pa_nil))) pa_nil))))))), fun as r h => ?_⟩
  obtain ⟨n, a, b, ha, hb, hn, rfl, rfl⟩ := h
  have la := ha.len
  have fin : ∀ (z : Int), z = (a.behind b).last → ∀ ss, ss = [Sl.a (.d a.d), .a (.d b.d), .a (.d (.int z)), .no] → Sd K (tRet (tCB (rTupS K) (tCons (tOp rCat (tLc (iTup K (tSl (rSlA K) (tVar 0) tNoPart (tPart (tUn (rU fun i => .int (-i)) (tC (.int 1)))))) (gName 3) tYes (tOp (rIxT K) (tVar 1) (tVar 3)) [3]) (tLst (tCons (tVar 2) tNil))) tNil))) ss (fun _ => (R.d (a.behind b).d) = .d .non) (· = R.d (a.behind b).d) noSN noSN := by
    rintro z rfl ss rfl
    have hc : cut (a.f.map nat ++ [D.int a.last]) none (some (-1)) = a.f.map nat := by
      unfold cut
      have h1 : HT.sIx (a.f.map nat ++ [D.int a.last]).length 0 none = 0 := rfl
      have h2 : HT.sIx (a.f.map nat ++ [D.int a.last]).length (a.f.map nat ++ [D.int a.last]).length (some (-1)) = a.f.length := by
        unfold HT.sIx
        simp
        omega
      rw [h1, h2]
      simp
    refine sd_ret (ev_cb (ea_cons (EvN.l (evn_op (EvN.l (evn_lcT (xs := a.f.map nat) (fun x => match x with | .int i => nat (b.f.getD i.toNat 0) | _ => .non) ((ev_slT (xs := a.f.map nat ++ [D.int a.last]) ev_v eo_none (eo_some ev_m1)).to (by rw [hc])) (by simp; omega) fun x hx => ?_)) (EvN.l (evn_lst (eds_cons ev_v eds_nil) (by show 1 ≤ 100000; decide))) (rop_cat (by simp; omega)))) ea_nil) rcl_tupL) ?_
    · obtain ⟨s, hs, rfl⟩ := List.mem_map.mp hx
      have hl : s < b.f.length := by rw [hb.len]; exact ha.bd s hs
      refine ev_ix (xs := b.f.map nat ++ [D.int b.last]) ev_v ev_v (atI_nat ?_)
      show (b.f.map nat ++ [D.int b.last])[s]? = some (nat (b.f.getD s 0))
      rw [List.getElem?_append_left (by simpa using hl), List.getD_eq_getElem?_getD, List.getElem?_map, List.getElem?_eq_getElem hl]
      rfl
    · show R.d _ = R.d _
      unfold Way.d
      refine congrArg (fun l => R.d (.tup (l ++ [D.int (a.behind b).last]))) ?_
      unfold Way.behind
      simp only [List.map_map]
      rfl
  have hA : ∀ {ss : List Sl} {te : TE}, Ev K te ss (.d a.d) → Ev K (tOp (rIxT K) te (tUn (rU fun i => .int (-i)) (tC (.int 1)))) ss (.d (.int a.last)) := fun h => ev_ix (xs := a.f.map nat ++ [D.int a.last]) h ev_m1 (Way.last_at a)
  have hB : ∀ {ss : List Sl} {te : TE}, Ev K te ss (.d b.d) → Ev K (tOp (rIxT K) te (tUn (rU fun i => .int (-i)) (tC (.int 1)))) ss (.d (.int b.last)) := fun h => ev_ix (xs := b.f.map nat ++ [D.int b.last]) h ev_m1 (Way.last_at b)
  refine sd_seq (sd_set (d := .int (-2)) (ev_neg ev_int) ?_)
  refine sd_seq (sd_if (et_test (ev_op (hA ev_v) ev_m1 rop_eqI)) (fun h1 => sd_set (hB ev_v) ?_) fun h1 => sd_next ?_)
  · have h1 := of_decide_eq_true h1
    refine sd_seq (sd_if (et_test (ev_op (hB ev_v) ev_m1 rop_eqI)) (fun h2 => sd_set (hA ev_v) ?_) fun h2 => sd_next ?_)
    · have h2 := of_decide_eq_true h2
      exact fin a.last (by unfold Way.behind; simp [h2]) _ rfl
    · have h2 := of_decide_eq_false h2
      exact fin b.last (by unfold Way.behind; simp [h1, h2]) _ rfl
  · have h1 := of_decide_eq_false h1
    refine sd_seq (sd_if (et_test (ev_op (hB ev_v) ev_m1 rop_eqI)) (fun h2 => sd_set (hA ev_v) ?_) fun h2 => sd_next ?_)
    · have h2 := of_decide_eq_true h2
      exact fin a.last (by unfold Way.behind; simp [h2]) _ rfl
    · have h2 := of_decide_eq_false h2
      exact fin (-2) (by unfold Way.behind; simp [h1, h2]) _ rfl
end
end G
namespace G
open PySem L2
open Evl (Ex)
section
variable {P : Program} {w : World} {K : PySem.W.Frag} {mg : Str → Option Value} {base : Heap} {f : Addr} {fd : FuncData}
/-! ### items through a way -/
def preItem (h : Nat) (as : List A) (r : R) : Prop := ∃ (m : M) (n : Nat) (k : Item) (v : Way), m.Ok n ∧ v.Ok n ∧ k.okS = true ∧ k.ht ≤ h ∧ k.ht ≤ 32 ∧ k.isHole = false ∧ as = [.d m.d, .d k.d, .d v.d] ∧ r = .d (nat (Item.wst m v k))
def preFilled (h : Nat) (as : List A) (r : R) : Prop := ∃ (m : M) (n : Nat) (ks : List Item) (v : Way), m.Ok n ∧ v.Ok n ∧ Item.okSs ks = true ∧ Item.hts ks ≤ h ∧ Item.hts ks ≤ 32 ∧ as = [.d m.d, .d (.tup (Item.ds ks)), .d v.d] ∧ r = .d (Item.wf m v (Way.none m) ks).d
theorem sc_item_state : FnScope ["machine", "item", "way"] ["machine", "item", "way"] (defScope s_item_state) := ⟨rfl, rfl, rfl, by decide +kernel, rfl, by decide +kernel, by decide +kernel⟩
theorem ok_item_state (h : Nat) (F : FnP K "item_state" "item_state" s_item_state f fd) (T : Txt mg) (c_start_of : Cal P w K mg base "start_of" 1 ["machine", "name"] (spD K preStart)) (c_way_filled : Cal P w K mg base "way_filled" (2 * h + 2 + 1) ["machine", "items", "way"] (spD K (preFilled h))) :
    FnOk P w K mg base CX0 (2 * h + 3 + 1) f fd ["machine", "item", "way"] (spD K (preItem (h + 1))) := by
  refine fnD F sc_item_state (n := 0) rfl (fun as r h => by obtain ⟨m, n, k, v, _, _, _, _, _, _, rfl, _⟩ := h; rfl) fun cdv A outer s H E hr => ⟨_,
    (pss_one (ps_ret (pe_ix (ix_tupK K) (pe_cal c_way_filled hr (by rfl) (pa_cons (pv 0) (pa_cons (pe_ix (ix_tupK K) (pv 1) pe_int (fun _ _ => rfl)) (pa_cons (pv 2) pa_nil)))) (pe_cal c_start_of hr (by rfl) (pa_cons (pv 0) (pa_cons (pe_ix (ix_tupK K) (pv 1) pe_int (fun _ _ => rfl)) pa_nil))) (fun _ _ => rfl)))), fun as r h => ?_⟩
  obtain ⟨m, n, k, v, hm, hv, hk, hh, hh2, hne, rfl, rfl⟩ := h
  cases k with
  | hole => cases hne
  | el x is =>
    rw [Item.okS, Bool.and_eq_true] at hk
    rw [Item.ht] at hh hh2
    have hf := Item.wf_ok hm hv is (Way.none_ok hm)
    have hs := hm.start_lt x
    have e1 : (Item.el x is).d = .tup [.str x, .tup (Item.ds is)] := by rw [Item.d]
    rw [e1]
    refine sd_ret (ev_ix (xs := (Item.wf m v (Way.none m) is).f.map nat ++ [.int (Item.wf m v (Way.none m) is).last]) (ev_call (d := (Item.wf m v (Way.none m) is).d) (ea_cons ev_v (ea_cons (ev_ixc (d := .tup (Item.ds is)) ev_v rfl) (ea_cons ev_v ea_nil))) ⟨m, n, is, v, hm, hv, hk.2, by omega, by omega, rfl, rfl⟩)
      (ev_call (d := nat (m.start x)) (ea_cons ev_v (ea_cons (ev_ixc (d := .str x) ev_v rfl) ea_nil)) ⟨m, n, x, hm, rfl, rfl⟩) (atI_nat (v := nat (Item.wst m v (.el x is))) ?_)) rfl
    have hl : m.start x < (Item.wf m v (Way.none m) is).f.length := by rw [hf.len]; exact hs
    rw [List.getElem?_append_left (by simpa using hl), List.getElem?_map, List.getElem?_eq_getElem hl, Item.wst, List.getD_eq_getElem?_getD, List.getElem?_eq_getElem hl]
    rfl
theorem sc_way_filled : FnScope ["machine", "items", "way", "found", "item"] ["machine", "items", "way"] (defScope s_way_filled) := ⟨rfl, rfl, rfl, by decide +kernel, rfl, by decide +kernel, by decide +kernel⟩
theorem ok_way_filled (h : Nat) (F : FnP K "way_filled" "way_filled" s_way_filled f fd) (T : Txt mg) (c_way_of_none : Cal P w K mg base "way_of_none" 1 ["machine"] (spD K preNone)) (c_way_of_one : Cal P w K mg base "way_of_one" 1 ["machine", "state"] (spD K preOne))
    (c_way_behind : Cal P w K mg base "way_behind" 1 ["way", "other"] (spD K preBehind)) (c_item_state : Cal P w K mg base "item_state" (2 * h + 1 + 1) ["machine", "item", "way"] (spD K (preItem h))) :
    FnOk P w K mg base CX0 (2 * h + 2 + 1) f fd ["machine", "items", "way"] (spD K (preFilled h)) := by
  refine fnD F sc_way_filled (n := 2) rfl (fun as r h => by obtain ⟨m, n, k, v, _, _, _, _, _, rfl, _⟩ := h; rfl) fun cdv A outer s H E hr => ⟨_,
    (pss_cons (ps_set (i := 3) sc_way_filled.nd rfl (Or.inl rfl) (pe_cal c_way_of_none hr (by rfl) (pa_cons (pv 0) pa_nil)))
    (pss_cons (ps_for PassesOwn.never rfl (pi_tupK K (pv 1)) (pg_name (i := 4) sc_way_filled.nd rfl (Or.inl rfl))
    (pss_one (ps_if (pt_cmpR (op_eqK K hr) (pv 4) (pe_gS T.HOLE (by rfl)) (nomark _))
    (pss_one (ps_set (i := 3) sc_way_filled.nd rfl (Or.inl rfl) (pe_cal c_way_behind hr (by rfl) (pa_cons (pv 3) (pa_cons (pv 2) pa_nil)))))
    (pss_one (ps_set (i := 3) sc_way_filled.nd rfl (Or.inl rfl) (pe_cal c_way_behind hr (by rfl) (pa_cons (pv 3) (pa_cons (pe_cal c_way_of_one hr (by rfl) (pa_cons (pv 0) (pa_cons (pe_cal c_item_state hr (by rfl) (pa_cons (pv 0) (pa_cons (pv 4) (pa_cons (pv 2) pa_nil)))) pa_nil))) pa_nil))))))))
    (pss_one (ps_ret (pv 3))))), fun as r h => ?_⟩
  obtain ⟨m, n, ks, v, hm, hv, hk, hh, hh2, rfl, rfl⟩ := h
  have hn := hm.nz
  refine sd_seq (sd_set (ev_call (d := (Way.none m).d) (ea_cons ev_v ea_nil) ⟨m, n, hm, rfl, rfl⟩) ?_)
  refine sd_seq (sd_forT (f := false) (xs := Item.ds ks) (fun i ss => ∃ z, ss = [.a (.d m.d), .a (.d (.tup (Item.ds ks))), .a (.d v.d), .a (.d (Item.wf m v (Way.none m) (ks.take i)).d), z]) ev_v ⟨_, by rw [List.take_zero, Item.wf]; rfl⟩ ?_ ?_)
  · rintro i x ss' hx ⟨z, rfl⟩
    rw [Item.ds_map, List.getElem?_map] at hx
    cases hki : ks[i]? with
    | none => rw [hki] at hx; cases hx
    | some k =>
      rw [hki] at hx
      cases hx
      have hmem := List.mem_of_getElem? hki
      have hok := Item.okSs_mem hk hmem
      have hkh := Item.ht_le hmem
      have hacc : (Item.wf m v (Way.none m) (ks.take i)).Ok n := Item.wf_ok hm hv _ (Way.none_ok hm)
      have hst : Item.wf m v (Way.none m) (ks.take (i + 1)) = (Item.wf m v (Way.none m) (ks.take i)).behind (if k.isHole then v else Way.one m (Item.wst m v k)) := by
        rw [List.take_succ, hki, Item.wf_app]
        show Item.wf m v _ [k] = _
        rw [Item.wf, Item.wf]
      rw [hst]
      refine sd_if (et_test (ev_op (x := .d k.d) ev_v ev_str (rop_star hok (by omega)))) (fun hb => ?_) fun hb => ?_
      · rw [hb]
        exact sd_set (ev_call (ea_cons ev_v (ea_cons ev_v ea_nil)) ⟨n, _, v, hacc, hv, hn, rfl, rfl⟩) ⟨_, rfl⟩
      · rw [hb]
        refine sd_set (ev_call (ea_cons ev_v (ea_cons (ev_call (d := (Way.one m (Item.wst m v k)).d) (ea_cons ev_v (ea_cons (ev_call (d := nat (Item.wst m v k)) (ea_cons ev_v (ea_cons ev_v (ea_cons ev_v ea_nil))) ⟨m, n, k, v, hm, hv, hok, by omega, by omega, hb, rfl, rfl⟩) ea_nil)) ⟨m, n, _, hm, Item.wst_lt hm hv k, rfl, rfl⟩) ea_nil)) ⟨n, _, _, hacc, Way.one_ok hm (Item.wst_lt hm hv k), hn, rfl, rfl⟩) ⟨_, rfl⟩
  · rintro ss' ⟨z, rfl⟩
    rw [Item.ds_map, List.length_map, List.take_length]
    exact sd_ret ev_v rfl
/-! ### items_for -/
def optD : Option (List Item) → D
  | none => .non
  | some is => .tup (Item.ds is)
def preItems (as : List A) (r : R) : Prop := ∃ (t : Tr) (x : Str), as = [.d t.d, .d (.str x)] ∧ r = .d (optD (t.look x))
theorem sc_items_for : FnScope ["turner", "name", "rule"] ["turner", "name"] (defScope s_items_for) := ⟨rfl, rfl, rfl, by decide +kernel, rfl, by decide +kernel, by decide +kernel⟩
theorem Tr.look_cons (q : Str × List Item) (t : Tr) (x : Str) : Tr.look (q :: t) x = if q.1 = x then some q.2 else Tr.look t x := by
  unfold Tr.look
  rw [List.find?_cons]
  by_cases h : q.1 = x
  · rw [decide_eq_true h, if_pos h]; rfl
  · rw [decide_eq_false h, if_neg h]
theorem ok_items_for (F : FnP K "items_for" "items_for" s_items_for f fd) (T : Txt mg) : FnOk P w K mg base CX0 1 f fd ["turner", "name"] (spD K preItems) := by
  refine fnD F sc_items_for (n := 1) rfl (fun as r h => by obtain ⟨t, x, rfl, _⟩ := h; rfl) fun cdv A outer s H E hr => ⟨_,
    (pss_cons (ps_for PassesOwn.never rfl (pi_tupK K (pv 0)) (pg_name (i := 2) sc_items_for.nd rfl (Or.inl rfl))
    (pss_one (ps_if (pt_cmpR op_eq (pe_ix (ix_tupK K) (pv 2) pe_int (fun _ _ => rfl)) (pv 1) (nomark _))
    (pss_one (ps_ret (pe_ix (ix_tupK K) (pv 2) pe_int (fun _ _ => rfl))))
    pss_nil)))
    (pss_one (ps_ret pe_non))), fun as r h => ?_⟩
  obtain ⟨t, x, rfl, rfl⟩ := h
  refine sd_seq (sd_forT (f := false) (xs := t.map fun r => .tup [.str r.1, .tup (Item.ds r.2)]) (fun i ss => ∃ z, ss = [.a (.d t.d), .a (.d (.str x)), z] ∧ t.look x = Tr.look (t.drop i) x) ev_v ⟨_, rfl, by rw [List.drop_zero]⟩ ?_ ?_)
  · rintro i y ss' hx ⟨z, rfl, hl⟩
    rw [List.getElem?_map] at hx
    cases hki : t[i]? with
    | none => rw [hki] at hx; cases hx
    | some q =>
      rw [hki] at hx
      cases hx
      obtain ⟨hi, e⟩ := List.getElem?_eq_some_iff.mp hki
      rw [List.drop_eq_getElem_cons hi, e, Tr.look_cons] at hl
      refine sd_if (et_test (ev_op (ev_ixc (d := .str q.1) (xs := [.str q.1, .tup (Item.ds q.2)]) ev_v rfl) ev_v rop_eqS)) (fun hb => ?_) fun hb => ?_
      · rw [if_pos (of_decide_eq_true hb)] at hl
        refine sd_ret (ev_ixc (d := .tup (Item.ds q.2)) (xs := [.str q.1, .tup (Item.ds q.2)]) ev_v rfl) ?_
        rw [hl] <;> rfl
      · rw [if_neg (of_decide_eq_false hb)] at hl
        exact sd_next ⟨_, rfl, hl⟩
  · rintro ss' ⟨z, rfl, hl⟩
    rw [List.length_map, List.drop_length] at hl
    refine sd_ret ev_non ?_
    rw [hl] <;> rfl
/-! ### forms_of -/
def bitsOf : Nat → List Str → List Str
  | _, [] => []
  | r, f :: fs => if r % 2 = 1 then f :: bitsOf (r / 2) fs else bitsOf (r / 2) fs
def bitRest : Nat → Nat → Nat
  | r, 0 => r
  | r, k + 1 => bitRest (r / 2) k
theorem bitRest_succ : ∀ (k r : Nat), bitRest r (k + 1) = bitRest r k / 2
  | 0, r => rfl
  | k + 1, r => by rw [bitRest, bitRest_succ k, bitRest]
theorem bitsOf_take : ∀ (fs : List Str) (r i : Nat) (x : Str), fs[i]? = some x → bitsOf r (fs.take (i + 1)) = bitsOf r (fs.take i) ++ if bitRest r i % 2 = 1 then [x] else []
  | [], r, i, x, h => by simp at h
  | f :: fs, r, 0, x, h => by
    simp at h
    subst h
    rw [List.take_succ_cons, List.take_zero, List.take_zero, bitsOf, bitsOf, bitsOf, bitRest]
    rfl
  | f :: fs, r, i + 1, x, h => by
    have ih := bitsOf_take fs (r / 2) i x (by simpa using h)
    rw [List.take_succ_cons, List.take_succ_cons, bitsOf, bitsOf, ih, bitRest]
    split <;> rfl
def preForms (as : List A) (r : R) : Prop := ∃ (m : M) (n k : Nat), m.Ok n ∧ k < n ∧ as = [.d m.d, .d (nat k)] ∧ r = .l ((bitsOf (m.marks.getD k 0) m.forms).map .str)
theorem bitsOf_len : ∀ (fs : List Str) (r : Nat), (bitsOf r fs).length ≤ fs.length
  | [], r => Nat.le_refl _
  | f :: fs, r => by
    rw [bitsOf]
    have := bitsOf_len fs (r / 2)
    split
    · simp; omega
    · simp; omega
theorem sc_forms_of : FnScope ["machine", "state", "found", "rest", "form"] ["machine", "state"] (defScope s_forms_of) := ⟨rfl, rfl, rfl, by decide +kernel, rfl, by decide +kernel, by decide +kernel⟩
theorem ok_forms_of (F : FnP K "forms_of" "forms_of" s_forms_of f fd) (T : Txt mg) : FnOk P w K mg base CX0 1 f fd ["machine", "state"] (spD K preForms) := by
  refine fnD F sc_forms_of (n := 3) rfl (fun as r h => by obtain ⟨m, n, k, _, _, rfl, _⟩ := h; rfl) fun cdv A outer s H E hr => ⟨_,
    (pss_cons (ps_set (i := 2) sc_forms_of.nd rfl (Or.inl rfl) (pe_lst pa_nil))
    (pss_cons (ps_set (i := 3) sc_forms_of.nd rfl (Or.inl rfl) (pe_ix (ix_tupK K) (pe_ix (ix_tupK K) (pv 0) pe_int (fun _ _ => rfl)) (pv 1) (fun _ _ => rfl)))
    (pss_cons (ps_for PassesOwn.never rfl (pi_tupK K (pe_ix (ix_tupK K) (pv 0) pe_int (fun _ _ => rfl))) (pg_name (i := 4) sc_forms_of.nd rfl (Or.inl rfl))
    (pss_cons (ps_if (pt_cmpR op_eq (pe_op op_mod (pv 3) pe_int) pe_int (nomark _))
    (pss_one (ps_expr (pe_app K (pv 2) (pv 4))))
    pss_nil)
    (pss_one (ps_set (i := 3) sc_forms_of.nd rfl (Or.inl rfl) (pe_op op_fdiv (pv 3) pe_int)))))
    (pss_one (ps_ret (pv 2)))))), fun as r h => ?_⟩
  obtain ⟨m, n, k, hm, hk, rfl, rfl⟩ := h
  have hl : k < m.marks.length := by rw [hm.ml]; exact hk
  have hfz := hm.fz
  refine sd_seq (sd_setN (evn_lst eds_nil (by decide)) ?_)
  refine sd_seq (sd_set (d := nat (m.marks.getD k 0)) (ev_ix (xs := m.marks.map nat) (ev_ixc (xs := m.parts) ev_v rfl) ev_v (atI_nat ?_)) ?_)
  · rw [List.getElem?_map, List.getElem?_eq_getElem hl, List.getD_eq_getElem?_getD, List.getElem?_eq_getElem hl]
    rfl
  · refine sd_seq (sd_forT (f := false) (xs := m.forms.map .str) (fun i ss => ∃ z, ss = [.a (.d m.d), .a (.d (nat k)), .own ((bitsOf (m.marks.getD k 0) (m.forms.take i)).map .str), .a (.d (nat (bitRest (m.marks.getD k 0) i))), z]) (ev_ixc (xs := m.parts) ev_v rfl) ⟨_, by rw [List.take_zero, bitsOf, bitRest]; rfl⟩ ?_ ?_)
    · rintro i y ss' hx ⟨z, rfl⟩
      rw [List.getElem?_map] at hx
      cases hki : m.forms[i]? with
      | none => rw [hki] at hx; cases hx
      | some q =>
        rw [hki] at hx
        cases hx
        have hb := bitsOf_len (m.forms.take i) (m.marks.getD k 0)
        have hi : i < m.forms.length := (List.getElem?_eq_some_iff.mp hki).1
        rw [List.length_take] at hb
        rw [bitsOf_take _ _ _ _ hki]
        have e2 : (D.int ((bitRest (m.marks.getD k 0) i : Int) / 2)) = nat (bitRest (m.marks.getD k 0) (i + 1)) := by
          rw [bitRest_succ]
          show D.int _ = D.int _
          rw [Int.natCast_ediv]
          rfl
        refine sd_seq (sd_if (et_test (ev_op (ev_op ev_v ev_int (rop_ic (by decide))) ev_int rop_eqI)) (fun hb1 => ?_) fun hb1 => ?_)
        · have hb1 := of_decide_eq_true hb1
          rw [if_pos (by omega), List.map_append]
          refine sd_app rfl ev_v (by rw [List.length_map]; omega) ?_
          refine sd_set (ev_op ev_v ev_int (rop_ic ⟨by decide, by decide⟩)) ⟨.a (.d (.str q)), ?_⟩
          rw [e2] <;> rfl
        · have hb1 := of_decide_eq_false hb1
          rw [if_neg (by omega), List.append_nil]
          refine sd_next (sd_set (ev_op ev_v ev_int (rop_ic ⟨by decide, by decide⟩)) ⟨.a (.d (.str q)), ?_⟩)
          rw [e2] <;> rfl
    · rintro ss' ⟨z, rfl⟩
      rw [List.length_map, List.take_length]
      exact sd_retO rfl rfl
end
end G
namespace G
open PySem L2
open Evl (Ex)
/-! ### places as data -/
theorem plD_push (p : List Nat) (i : Nat) : D.tup (p.map nat ++ [nat i]) = plD (p ++ [i]) := by unfold plD; rw [List.map_append]; rfl
theorem take_map_succ {α : Type} {ks : List α} {i : Nat} {k : α} (h : ks[i]? = some k) : ks.take (i + 1) = ks.take i ++ [k] := by rw [List.take_succ, h]; rfl
section
variable {P : Program} {w : World} {K : PySem.W.Frag} {mg : Str → Option Value} {base : Heap} {f : Addr} {fd : FuncData}
theorem ev_kids {te : TE} {ss : List Sl} {n : Str} {ks : List Doc} (h : Ev K te ss (.d (Doc.mk n ks).d)) : Ev K (tOp (rIxT K) te (tC (.int 1))) ss (.d (.tup (ks.map Doc.d))) := ev_ixc (f := false) (xs := [.str n, .tup (ks.map Doc.d)]) (h.to (by rw [Doc.d_mk])) rfl
theorem ev_name {te : TE} {ss : List Sl} {n : Str} {ks : List Doc} (h : Ev K te ss (.d (Doc.mk n ks).d)) : Ev K (tOp (rIxT K) te (tC (.int 0))) ss (.d (.str n)) := ev_ixc (f := false) (xs := [.str n, .tup (ks.map Doc.d)]) (h.to (by rw [Doc.d_mk])) rfl
theorem ev_kid {te tj : TE} {ss : List Sl} {ks : List Doc} {i : Nat} {k : Doc} (h : Ev K te ss (.d (.tup (ks.map Doc.d)))) (h2 : Ev K tj ss (.d (nat i))) (hk : ks[i]? = some k) : Ev K (tOp (rIxT K) te tj) ss (.d k.d) := ev_ix h h2 (atI_nat (by rw [List.getElem?_map, hk]; rfl))
theorem ev_push {te tj : TE} {ss : List Sl} {p : List Nat} {i : Nat} (h : Ev K te ss (.d (plD p))) (h2 : Ev K tj ss (.d (nat i))) (hz : p.length ≤ 1000) : Ev K (tOp (rCatA K) te (tTup (tCons tj tNil))) ss (.d (plD (p ++ [i]))) :=
  (ev_op (z := .d (.tup (p.map nat ++ [nat i]))) h (ev_tup (eds_cons h2 eds_nil) (by show 1 ≤ 100000; decide)) (rop_catA (by simp; omega))).to (by rw [plD_push])
/-! ### size_of -/
def preSize (h : Nat) (as : List A) (r : R) : Prop := ∃ x : Doc, x.ht ≤ h ∧ as = [.d x.d] ∧ r = .d (nat x.size)
theorem sc_size_of : FnScope ["doc", "many", "child"] ["doc"] (defScope s_size_of) := ⟨rfl, rfl, rfl, by decide +kernel, rfl, by decide +kernel, by decide +kernel⟩
theorem ok_size_of (h : Nat) (F : FnP K "size_of" "size_of" s_size_of f fd) (T : Txt mg) (c_size_of : Cal P w K mg base "size_of" h ["doc"] (spD K (preSize h))) : FnOk P w K mg base CX0 (h + 1) f fd ["doc"] (spD K (preSize (h + 1))) := by
  refine fnD F sc_size_of (n := 2) rfl (fun as r h => by obtain ⟨x, _, rfl, _⟩ := h; rfl) fun cdv A outer s H E hr => ⟨_,
    (pss_cons (ps_set (i := 1) sc_size_of.nd rfl (Or.inl rfl) pe_int)
    (pss_cons (ps_for PassesOwn.never rfl (pi_tupK K (pe_ix (ix_tupK K) (pv 0) pe_int (fun _ _ => rfl))) (pg_name (i := 2) sc_size_of.nd rfl (Or.inl rfl))
    (pss_one (ps_set (i := 1) sc_size_of.nd rfl (Or.inl rfl) (pe_op op_add (pv 1) (pe_cal c_size_of hr (by rfl) (pa_cons (pv 2) pa_nil))))))
    (pss_one (ps_ret (pv 1))))), fun as r h => ?_⟩
  obtain ⟨⟨n, ks⟩, hh, rfl, rfl⟩ := h
  rw [Doc.ht] at hh
  refine sd_seq (sd_set (d := nat 1) ev_int ?_)
  refine sd_seq (sd_forTm (ks := ks) (fun i ss => ∃ z, ss = [.a (.d (Doc.mk n ks).d), .a (.d (nat (1 + Doc.sizes (ks.take i)))), z]) (ev_kids ev_v) ⟨_, by rw [List.take_zero, Doc.sizes]; rfl⟩ ?_ ?_)
  · rintro i k ss' hk ⟨z, rfl⟩
    have hm := Doc.ht_le (List.mem_of_getElem? hk)
    refine sd_set (ev_op (y := .d (nat k.size)) ev_v (ev_call (ea_cons ev_v ea_nil) ⟨k, by omega, rfl, rfl⟩) rop_i) ⟨.a (.d k.d), ?_⟩
    rw [take_map_succ hk, Doc.sizes_app, Doc.sizes, Doc.sizes, Nat.add_zero, ← Nat.add_assoc]
    rfl
  · rintro ss' ⟨z, rfl⟩
    rw [List.take_length]
    refine sd_ret ev_v ?_
    rw [Doc.size] <;> rfl
/-! ### upward_places, _law_below_first -/
def preUp (h : Nat) (as : List A) (r : R) : Prop := ∃ (x : Doc) (p : List Nat), x.ht ≤ h ∧ p.length + h ≤ 1000 ∧ x.size ≤ 1000 ∧ as = [.d x.d, .d (plD p)] ∧ r = .l ((x.up p).map plD)
theorem sc_upward_places : FnScope ["doc", "place", "found", "k"] ["doc", "place"] (defScope s_upward_places) := ⟨rfl, rfl, rfl, by decide +kernel, rfl, by decide +kernel, by decide +kernel⟩
theorem ok_upward_places (h : Nat) (F : FnP K "upward_places" "upward_places" s_upward_places f fd) (T : Txt mg) (c_upward_places : Cal P w K mg base "upward_places" h ["doc", "place"] (spD K (preUp h))) : FnOk P w K mg base CX0 (h + 1) f fd ["doc", "place"] (spD K (preUp (h + 1))) := by
  refine fnD F sc_upward_places (n := 2) rfl (fun as r h => by obtain ⟨x, p, _, _, _, rfl, _⟩ := h; rfl) fun cdv A outer s H E hr => ⟨_,
    (pss_cons (ps_set (i := 2) sc_upward_places.nd rfl (Or.inl rfl) (pe_lst pa_nil))
    (pss_cons (ps_for PassesOwn.never rfl (pi_range1 rfl T.range (pa_cons (pe_callB (call_lenK K) (by rfl) T.len PySem.boot_len (pa_cons (pe_ix (ix_tupK K) (pv 0) pe_int (fun _ _ => rfl)) pa_nil)) pa_nil)) (pg_name (i := 3) sc_upward_places.nd rfl (Or.inl rfl))
    (pss_one (ps_expr (pe_ext K (pv 2) (pe_cal c_upward_places hr (by rfl) (pa_cons (pe_ix (ix_tupK K) (pe_ix (ix_tupK K) (pv 0) pe_int (fun _ _ => rfl)) (pv 3) (fun _ _ => rfl)) (pa_cons (pe_op (op_catK K) (pv 1) (pe_tup (pa_cons (pv 3) pa_nil))) pa_nil)))))))
    (pss_cons (ps_expr (pe_app K (pv 2) (pv 1)))
    (pss_one (ps_ret (pv 2)))))), fun as r h => ?_⟩
  obtain ⟨⟨n, ks⟩, p, hh, hp, hz, rfl, rfl⟩ := h
  rw [Doc.ht] at hh
  rw [Doc.size] at hz
  have hl := Doc.len_le ks
  refine sd_seq (sd_setN (evn_lst eds_nil (by decide)) ?_)
  refine sd_seq (sd_forR (n := ks.length) (fun i ss => ∃ z, ss = [.a (.d (Doc.mk n ks).d), .a (.d (plD p)), .own ((Doc.ups p 0 (ks.take i)).map plD), z]) (eds_cons (ev_cb (ea_cons (ev_kids ev_v) ea_nil) (by rw [← List.length_map (f := Doc.d)]; exact rcl_lenT)) eds_nil) (by omega) ⟨_, by rw [List.take_zero, Doc.ups]; rfl⟩ ?_ ?_)
  · rintro i ss' hi ⟨z, rfl⟩
    have hk := List.getElem?_eq_getElem hi
    have hmem := List.mem_of_getElem? hk
    have hm := Doc.ht_le hmem
    have hs := Doc.size_le hmem
    have e1 : (Doc.ups p 0 (ks.take (i + 1))) = Doc.ups p 0 (ks.take i) ++ Doc.up (p ++ [i]) ks[i] := by
      rw [take_map_succ hk, Doc.ups_app, Doc.ups, Doc.ups, List.append_nil, List.length_take, Nat.min_eq_left (by omega), Nat.zero_add]
    have e2 : ((Doc.ups p 0 (ks.take i)).map plD).length + ((Doc.up (p ++ [i]) ks[i]).map plD).length ≤ 100000 := by
      rw [List.length_map, List.length_map, Doc.ups_len, Doc.up_len]
      have := Doc.sizes_app (ks.take i) (ks.drop i)
      rw [List.take_append_drop] at this
      omega
    rw [e1, List.map_append]
    exact sd_ext rfl (evn_call (ea_cons (ev_kid (ev_kids ev_v) ev_v hk) (ea_cons (ev_push ev_v ev_v (by omega)) ea_nil)) ⟨ks[i], p ++ [i], by omega, by simp; omega, by omega, rfl, rfl⟩) e2 ⟨_, rfl⟩
  · rintro ss' ⟨z, rfl⟩
    rw [List.take_length]
    refine sd_seq (sd_app rfl ev_v (by rw [List.length_map, Doc.ups_len]; omega) ?_)
    refine sd_retO rfl ?_
    rw [Doc.up, List.map_append] <;> rfl
theorem sc__law_below_first : FnScope ["_law_doc_here", "_law_place", "_law_found", "_law_k"] ["_law_doc_here", "_law_place"] (defScope s__law_below_first) := ⟨rfl, rfl, rfl, by decide +kernel, rfl, by decide +kernel, by decide +kernel⟩
theorem ok_law_below_first (h : Nat) (F : FnP K "_law_below_first" "_law_below_first" s__law_below_first f fd) (T : Txt mg) (c_l_below_first : Cal P w K mg base "_law_below_first" h ["_law_doc_here", "_law_place"] (spD K (preUp h))) : FnOk P w K mg base CX0 (h + 1) f fd ["_law_doc_here", "_law_place"] (spD K (preUp (h + 1))) := by
  refine fnD F sc__law_below_first (n := 2) rfl (fun as r h => by obtain ⟨x, p, _, _, _, rfl, _⟩ := h; rfl) fun cdv A outer s H E hr => ⟨_,
    (pss_cons (ps_set (i := 2) sc__law_below_first.nd rfl (Or.inl rfl) (pe_lst pa_nil))
    (pss_cons (ps_for PassesOwn.never rfl (pi_range1 rfl T.range (pa_cons (pe_callB (call_lenK K) (by rfl) T.len PySem.boot_len (pa_cons (pe_ix (ix_tupK K) (pv 0) pe_int (fun _ _ => rfl)) pa_nil)) pa_nil)) (pg_name (i := 3) sc__law_below_first.nd rfl (Or.inl rfl))
    (pss_one (ps_expr (pe_ext K (pv 2) (pe_cal c_l_below_first hr (by rfl) (pa_cons (pe_ix (ix_tupK K) (pe_ix (ix_tupK K) (pv 0) pe_int (fun _ _ => rfl)) (pv 3) (fun _ _ => rfl)) (pa_cons (pe_op (op_catK K) (pv 1) (pe_tup (pa_cons (pv 3) pa_nil))) pa_nil)))))))
    (pss_one (ps_ret (pe_op op_cat (pv 2) (pe_lst (pa_cons (pv 1) pa_nil))))))), fun as r h => ?_⟩
  obtain ⟨⟨n, ks⟩, p, hh, hp, hz, rfl, rfl⟩ := h
  rw [Doc.ht] at hh
  rw [Doc.size] at hz
  have hl := Doc.len_le ks
  refine sd_seq (sd_setN (evn_lst eds_nil (by decide)) ?_)
  refine sd_seq (sd_forR (n := ks.length) (fun i ss => ∃ z, ss = [.a (.d (Doc.mk n ks).d), .a (.d (plD p)), .own ((Doc.ups p 0 (ks.take i)).map plD), z]) (eds_cons (ev_cb (ea_cons (ev_kids ev_v) ea_nil) (by rw [← List.length_map (f := Doc.d)]; exact rcl_lenT)) eds_nil) (by omega) ⟨_, by rw [List.take_zero, Doc.ups]; rfl⟩ ?_ ?_)
  · rintro i ss' hi ⟨z, rfl⟩
    have hk := List.getElem?_eq_getElem hi
    have hmem := List.mem_of_getElem? hk
    have hm := Doc.ht_le hmem
    have hs := Doc.size_le hmem
    have e1 : (Doc.ups p 0 (ks.take (i + 1))) = Doc.ups p 0 (ks.take i) ++ Doc.up (p ++ [i]) ks[i] := by
      rw [take_map_succ hk, Doc.ups_app, Doc.ups, Doc.ups, List.append_nil, List.length_take, Nat.min_eq_left (by omega), Nat.zero_add]
    have e2 : ((Doc.ups p 0 (ks.take i)).map plD).length + ((Doc.up (p ++ [i]) ks[i]).map plD).length ≤ 100000 := by
      rw [List.length_map, List.length_map, Doc.ups_len, Doc.up_len]
      have := Doc.sizes_app (ks.take i) (ks.drop i)
      rw [List.take_append_drop] at this
      omega
    rw [e1, List.map_append]
    exact sd_ext rfl (evn_call (ea_cons (ev_kid (ev_kids ev_v) ev_v hk) (ea_cons (ev_push ev_v ev_v (by omega)) ea_nil)) ⟨ks[i], p ++ [i], by omega, by simp; omega, by omega, rfl, rfl⟩) e2 ⟨_, rfl⟩
  · rintro ss' ⟨z, rfl⟩
    rw [List.take_length]
    refine sd_retN (evn_op (x := .l ((Doc.ups p 0 ks).map plD)) ev_v (EvN.l (evn_lst (eds_cons ev_v eds_nil) (by show 1 ≤ 100000; decide))) (rop_cat (by rw [List.length_map, Doc.ups_len]; simp; omega))) ?_
    rw [Doc.up, List.map_append] <;> rfl
/-! ### _law_places -/
def prePl (h : Nat) (as : List A) (r : R) : Prop := ∃ (x : Doc) (p : List Nat), x.ht ≤ h ∧ p.length + h ≤ 1000 ∧ x.size ≤ 1000 ∧ as = [.d x.d, .d (plD p)] ∧ r = .l ((x.pl p).map plD)
theorem sc__law_places : FnScope ["_law_doc_here", "_law_place", "_law_found", "_law_k"] ["_law_doc_here", "_law_place"] (defScope s__law_places) := ⟨rfl, rfl, rfl, by decide +kernel, rfl, by decide +kernel, by decide +kernel⟩
theorem ok_law_places (h : Nat) (F : FnP K "_law_places" "_law_places" s__law_places f fd) (T : Txt mg) (c_l_places : Cal P w K mg base "_law_places" h ["_law_doc_here", "_law_place"] (spD K (prePl h))) : FnOk P w K mg base CX0 (h + 1) f fd ["_law_doc_here", "_law_place"] (spD K (prePl (h + 1))) := by
  refine fnD F sc__law_places (n := 2) rfl (fun as r h => by obtain ⟨x, p, _, _, _, rfl, _⟩ := h; rfl) fun cdv A outer s H E hr => ⟨_,
    (pss_cons (ps_set (i := 2) sc__law_places.nd rfl (Or.inl rfl) (pe_lst (pa_cons (pv 1) pa_nil)))
    (pss_cons (ps_for PassesOwn.never rfl (pi_range1 rfl T.range (pa_cons (pe_callB (call_lenK K) (by rfl) T.len PySem.boot_len (pa_cons (pe_ix (ix_tupK K) (pv 0) pe_int (fun _ _ => rfl)) pa_nil)) pa_nil)) (pg_name (i := 3) sc__law_places.nd rfl (Or.inl rfl))
    (pss_one (ps_expr (pe_ext K (pv 2) (pe_cal c_l_places hr (by rfl) (pa_cons (pe_ix (ix_tupK K) (pe_ix (ix_tupK K) (pv 0) pe_int (fun _ _ => rfl)) (pv 3) (fun _ _ => rfl)) (pa_cons (pe_op (op_catK K) (pv 1) (pe_tup (pa_cons (pv 3) pa_nil))) pa_nil)))))))
    (pss_one (ps_ret (pv 2))))), fun as r h => ?_⟩
  obtain ⟨⟨n, ks⟩, p, hh, hp, hz, rfl, rfl⟩ := h
  rw [Doc.ht] at hh
  rw [Doc.size] at hz
  have hl := Doc.len_le ks
  refine sd_seq (sd_setN (evn_lst (eds_cons ev_v eds_nil) (by show 1 ≤ 100000; decide)) ?_)
  refine sd_seq (sd_forR (n := ks.length) (fun i ss => ∃ z, ss = [.a (.d (Doc.mk n ks).d), .a (.d (plD p)), .own (plD p :: (Doc.pls p 0 (ks.take i)).map plD), z]) (eds_cons (ev_cb (ea_cons (ev_kids ev_v) ea_nil) (by rw [← List.length_map (f := Doc.d)]; exact rcl_lenT)) eds_nil) (by omega) ⟨_, by rw [List.take_zero, Doc.pls]; rfl⟩ ?_ ?_)
  · rintro i ss' hi ⟨z, rfl⟩
    have hk := List.getElem?_eq_getElem hi
    have hmem := List.mem_of_getElem? hk
    have hm := Doc.ht_le hmem
    have hs := Doc.size_le hmem
    have e1 : (Doc.pls p 0 (ks.take (i + 1))) = Doc.pls p 0 (ks.take i) ++ Doc.pl (p ++ [i]) ks[i] := by
      rw [take_map_succ hk, Doc.pls_app, Doc.pls, Doc.pls, List.append_nil, List.length_take, Nat.min_eq_left (by omega), Nat.zero_add]
    have e2 : (plD p :: (Doc.pls p 0 (ks.take i)).map plD).length + ((Doc.pl (p ++ [i]) ks[i]).map plD).length ≤ 100000 := by
      rw [List.length_cons, List.length_map, List.length_map, Doc.pls_len, Doc.pl_len]
      have := Doc.sizes_app (ks.take i) (ks.drop i)
      rw [List.take_append_drop] at this
      omega
    rw [e1, List.map_append, ← List.cons_append]
    exact sd_ext rfl (evn_call (ea_cons (ev_kid (ev_kids ev_v) ev_v hk) (ea_cons (ev_push ev_v ev_v (by omega)) ea_nil)) ⟨ks[i], p ++ [i], by omega, by simp; omega, by omega, rfl, rfl⟩) e2 ⟨_, rfl⟩
  · rintro ss' ⟨z, rfl⟩
    rw [List.take_length]
    refine sd_retO rfl ?_
    rw [Doc.pl, List.map_cons] <;> rfl
end
end G
namespace G
open PySem L2
open Evl (Ex)
theorem rcl_lenTm {K : PySem.W.Frag} {α : Type} {fr : Bool} {ks : List α} {e : α → D} : RCl K (Evl.rLenS K) [.d (.tu fr (ks.map e))] (.d (nat ks.length)) := by
  have h := rcl_lenT (K := K) (f := fr) (xs := ks.map e)
  rw [List.length_map] at h
  exact h
theorem rcl_lenLm {K : PySem.W.Frag} {α : Type} {ks : List α} {e : α → D} : RCl K (Evl.rLenS K) [.l (ks.map e)] (.d (nat ks.length)) := by
  have h := rcl_lenL (K := K) (xs := ks.map e)
  rw [List.length_map] at h
  exact h
section
variable {P : Program} {w : World} {K : PySem.W.Frag} {mg : Str → Option Value} {base : Heap} {f : Addr} {fd : FuncData}
theorem ev_sub {te : TE} {ss : List Sl} {n : Str} {is : List Item} (h : Ev K te ss (.d (Item.el n is).d)) : Ev K (tOp (rIxT K) te (tC (.int 1))) ss (.d (.tup (is.map Item.d))) := ev_ixc (f := false) (xs := [.str n, .tup (is.map Item.d)]) (h.to (by rw [Item.d, Item.ds_map])) rfl
theorem ev_elname {te : TE} {ss : List Sl} {n : Str} {is : List Item} (h : Ev K te ss (.d (Item.el n is).d)) : Ev K (tOp (rIxT K) te (tC (.int 0))) ss (.d (.str n)) := ev_ixc (f := false) (xs := [.str n, .tup (is.map Item.d)]) (h.to (by rw [Item.d, Item.ds_map])) rfl
theorem Item.el_of {k : Item} (h : k.isHole = false) : ∃ n is, k = .el n is := by
  cases k with
  | hole => cases h
  | el n is => exact ⟨n, is, rfl⟩
theorem Item.hole_of {k : Item} (h : k.isHole = true) : k = .hole := by
  cases k with
  | hole => rfl
  | el n is => cases h
/-! ### _law_filled_size -/
def preFsz (h : Nat) (as : List A) (r : R) : Prop := ∃ (is : List Item) (s : Nat), Item.hts is < h ∧ h ≤ 30 ∧ Item.okSs is = true ∧ as = [.d (.tup (is.map Item.d)), .d (nat s)] ∧ r = .d (nat (Item.fszs s is))
theorem sc__law_filled_size : FnScope ["_law_items", "_law_size_here", "_law_many", "_law_item_here"] ["_law_items", "_law_size_here"] (defScope s__law_filled_size) := ⟨rfl, rfl, rfl, by decide +kernel, rfl, by decide +kernel, by decide +kernel⟩
theorem ok_law_filled_size (h : Nat) (F : FnP K "_law_filled_size" "_law_filled_size" s__law_filled_size f fd) (T : Txt mg) (c_l_filled_size : Cal P w K mg base "_law_filled_size" h ["_law_items", "_law_size_here"] (spD K (preFsz h))) :
    FnOk P w K mg base CX0 (h + 1) f fd ["_law_items", "_law_size_here"] (spD K (preFsz (h + 1))) := by
  refine fnD F sc__law_filled_size (n := 2) rfl (fun as r h => by obtain ⟨is, s, _, _, _, rfl, _⟩ := h; rfl) fun cdv A outer s H E hr => ⟨_,
    (pss_cons (ps_set (i := 2) sc__law_filled_size.nd rfl (Or.inl rfl) pe_int)
    (pss_cons (ps_for PassesOwn.never rfl (pi_tupK K (pv 0)) (pg_name (i := 3) sc__law_filled_size.nd rfl (Or.inl rfl))
    (pss_one (ps_if (pt_cmpR (op_eqK K hr) (pv 3) pe_str (nomark _))
    (pss_one (ps_set (i := 2) sc__law_filled_size.nd rfl (Or.inl rfl) (pe_op op_add (pv 2) (pv 1))))
    (pss_one (ps_set (i := 2) sc__law_filled_size.nd rfl (Or.inl rfl) (pe_op op_add (pe_op op_add (pv 2) pe_int) (pe_cal c_l_filled_size hr (by rfl) (pa_cons (pe_ix (ix_tupK K) (pv 3) pe_int (fun _ _ => rfl)) (pa_cons (pv 1) pa_nil)))))))))
    (pss_one (ps_ret (pv 2))))), fun as r h => ?_⟩
  obtain ⟨is, s, hh, h30, hok, rfl, rfl⟩ := h
  refine sd_seq (sd_set (d := nat 0) ev_int ?_)
  refine sd_seq (sd_forTm (ks := is) (fun i ss => ∃ z, ss = [.a (.d (.tup (is.map Item.d))), .a (.d (nat s)), .a (.d (nat (Item.fszs s (is.take i)))), z]) ev_v ⟨_, by rw [List.take_zero, Item.fszs]; rfl⟩ ?_ ?_)
  · rintro i k ss' hk ⟨z, rfl⟩
    have hmem := List.mem_of_getElem? hk
    have hm := Item.ht_le hmem
    have ho := Item.okSs_mem hok hmem
    rw [take_map_succ hk, Item.fszs_app, Item.fszs, Item.fszs, Nat.add_zero]
    refine sd_if (et_test (ev_op (x := .d k.d) ev_v ev_str (rop_star ho (by omega)))) (fun hb => ?_) fun hb => ?_
    · obtain rfl := Item.hole_of hb
      exact sd_set (ev_op ev_v ev_v rop_i) ⟨.a (.d Item.hole.d), rfl⟩
    · obtain ⟨n, sub, rfl⟩ := Item.el_of hb
      rw [Item.okS, Bool.and_eq_true] at ho
      rw [Item.ht] at hm
      refine sd_set (ev_op (y := .d (nat (Item.fszs s sub))) (ev_op ev_v ev_int rop_i) (ev_call (ea_cons (ev_sub ev_v) (ea_cons ev_v ea_nil)) ⟨sub, s, by omega, by omega, ho.2, rfl, rfl⟩) rop_i) ⟨.a (.d (Item.el n sub).d), ?_⟩
      rw [Item.fsz, ← Nat.add_assoc]
      rfl
  · rintro ss' ⟨z, rfl⟩
    rw [List.take_length]
    exact sd_ret ev_v rfl
/-! ### _law_holed -/
def preHoled (h : Nat) (as : List A) (r : R) : Prop := ∃ (is : List Item), Item.hts is < h ∧ h ≤ 30 ∧ Item.okSs is = true ∧ Item.fszs 1 is ≤ 1000 ∧ as = [.d (.tup (is.map Item.d))] ∧ r = .d (.bl (Item.holeds is))
theorem holeds_any : ∀ is : List Item, (is.map Item.holed).any id = Item.holeds is
  | [] => by rw [Item.holeds]; rfl
  | k :: is => by rw [List.map_cons, List.any_cons, holeds_any is, Item.holeds]; rfl
theorem sc__law_holed : FnScope ["_law_items", "_law_item_here"] ["_law_items"] (defScope s__law_holed) := ⟨rfl, rfl, rfl, by decide +kernel, rfl, by decide +kernel, by decide +kernel⟩
theorem ok_law_holed (h : Nat) (F : FnP K "_law_holed" "_law_holed" s__law_holed f fd) (T : Txt mg) (c_l_holed : Cal P w K mg base "_law_holed" h ["_law_items"] (spD K (preHoled h))) :
    FnOk P w K mg base CX0 (h + 1) f fd ["_law_items"] (spD K (preHoled (h + 1))) := by
  refine fnD F sc__law_holed (n := 1) rfl (fun as r h => by obtain ⟨is, _, _, _, _, rfl, _⟩ := h; rfl) fun cdv A outer s H E hr => ⟨_,
    (pss_one (ps_ret (pe_callB (cr_anyK K) (by rfl) T.any (by decide +kernel) (pa_cons (pe_lc (own := [("_law_item_here", 1)]) (g := gName 1) (tt := tYes) rfl sc__law_holed.nd (pi_tupK K (pv 0)) (blkOk_by (N := ["_law_items", "_law_item_here"]) (sc := defScope s__law_holed) (by decide +kernel)) (fun _ _ _ _ _ => pg_name (i := 1) sc__law_holed.nd rfl (Or.inl rfl)) (fun _ _ _ _ _ => pts_nil) (fun _ _ _ _ _ => (pe_or (pe_cmpR (op_eqK K hr) (pv 1) pe_str (nomark _)) (pe_one (pe_cal c_l_holed hr (by rfl) (pa_cons (pe_ix (ix_tupK K) (pv 1) pe_int (fun _ _ => rfl)) pa_nil)))))) pa_nil)))), fun as r h => ?_⟩
  obtain ⟨is, hh, h30, hok, hz, rfl, rfl⟩ := h
  have hl := Item.len_le1 is
  refine sd_ret (ev_cb (ea_cons (EvN.l (evn_lcTm (ks := is) (fun k => .bl k.holed) ev_v (by omega) fun k hk => ?_)) ea_nil) (by
    have h := rcl_any (K := K) (bs := is.map Item.holed)
    rw [List.map_map, holeds_any] at h
    exact h)) rfl
  have hm := Item.ht_le hk
  have ho := Item.okSs_mem hok hk
  have hf := Item.fsz_le 1 hk
  have e : k.holed = (k.isHole || k.holed) := by
    cases k with
    | hole => rfl
    | el n sub => rfl
  rw [e]
  refine ev_orV (ev_op (x := .d k.d) ev_v ev_str (rop_star ho (by omega))) fun hb => ?_
  obtain ⟨n, sub, rfl⟩ := Item.el_of hb
  rw [Item.okS, Bool.and_eq_true] at ho
  rw [Item.ht] at hm
  rw [Item.fsz] at hf
  rw [Item.holed]
  exact ev_call (ea_cons (ev_sub ev_v) ea_nil) ⟨sub, by omega, by omega, ho.2, by omega, rfl, rfl⟩
/-! ### _law_filled -/
def preFill (h : Nat) (as : List A) (r : R) : Prop := ∃ (is : List Item) (row : List Doc), Item.hts is < h ∧ h ≤ 30 ∧ Item.okSs is = true ∧ Item.fszs (Doc.sizes row) is ≤ 1000 ∧ as = [.d (.tup (is.map Item.d)), .d (.tup (row.map Doc.d))] ∧ r = .d (.tup ((Item.fills row is).map Doc.d))
theorem sc__law_filled : FnScope ["_law_items", "_law_row", "_law_found", "_law_item_here"] ["_law_items", "_law_row"] (defScope s__law_filled) := ⟨rfl, rfl, rfl, by decide +kernel, rfl, by decide +kernel, by decide +kernel⟩
theorem ok_law_filled (h : Nat) (F : FnP K "_law_filled" "_law_filled" s__law_filled f fd) (T : Txt mg) (c_l_filled : Cal P w K mg base "_law_filled" h ["_law_items", "_law_row"] (spD K (preFill h))) :
    FnOk P w K mg base CX0 (h + 1) f fd ["_law_items", "_law_row"] (spD K (preFill (h + 1))) := by
  refine fnD F sc__law_filled (n := 2) rfl (fun as r h => by obtain ⟨is, row, _, _, _, _, rfl, _⟩ := h; rfl) fun cdv A outer s H E hr => ⟨_,
    (pss_cons (ps_set (i := 2) sc__law_filled.nd rfl (Or.inl rfl) (pe_tup pa_nil))
    (pss_cons (ps_for PassesOwn.never rfl (pi_tupK K (pv 0)) (pg_name (i := 3) sc__law_filled.nd rfl (Or.inl rfl))
    (pss_one (ps_if (pt_cmpR (op_eqK K hr) (pv 3) pe_str (nomark _))
    (pss_one (ps_set (i := 2) sc__law_filled.nd rfl (Or.inl rfl) (pe_op (op_catK K) (pv 2) (pv 1))))
    (pss_one (ps_set (i := 2) sc__law_filled.nd rfl (Or.inl rfl) (pe_op (op_catK K) (pv 2) (pe_tup (pa_cons (pe_tup (pa_cons (pe_ix (ix_tupK K) (pv 3) pe_int (fun _ _ => rfl)) (pa_cons (pe_cal c_l_filled hr (by rfl) (pa_cons (pe_ix (ix_tupK K) (pv 3) pe_int (fun _ _ => rfl)) (pa_cons (pv 1) pa_nil))) pa_nil))) pa_nil))))))))
    (pss_one (ps_ret (pv 2))))), fun as r h => ?_⟩
  obtain ⟨is, row, hh, h30, hok, hz, rfl, rfl⟩ := h
  refine sd_seq (sd_set (d := .tup ([].map Doc.d)) (ev_tup eds_nil (by decide)) ?_)
  refine sd_seq (sd_forTm (ks := is) (fun i ss => ∃ z, ss = [.a (.d (.tup (is.map Item.d))), .a (.d (.tup (row.map Doc.d))), .a (.d (.tup ((Item.fills row (is.take i)).map Doc.d))), z]) ev_v ⟨_, by rw [List.take_zero, Item.fills]; rfl⟩ ?_ ?_)
  · rintro i k ss' hk ⟨z, rfl⟩
    have hmem := List.mem_of_getElem? hk
    have hm := Item.ht_le hmem
    have ho := Item.okSs_mem hok hmem
    have hf := Item.fsz_le (Doc.sizes row) hmem
    have l1 : (Item.fills row (is.take i)).length ≤ 1000 := by
      have a1 := Doc.len_le (Item.fills row (is.take i))
      have a2 := Item.fszs_app (Doc.sizes row) (is.take i) (is.drop i)
      rw [List.take_append_drop] at a2
      rw [Item.fills_sz] at a1
      omega
    rw [take_map_succ hk, Item.fills_app, Item.fills, Item.fills, List.append_nil, List.map_append]
    refine sd_if (et_test (ev_op (x := .d k.d) ev_v ev_str (rop_star ho (by omega)))) (fun hb => ?_) fun hb => ?_
    · obtain rfl := Item.hole_of hb
      rw [Item.fsz] at hf
      have l2 := Doc.len_le row
      exact sd_set (ev_op ev_v ev_v (rop_catA (by rw [List.length_map, List.length_map]; omega))) ⟨.a (.d Item.hole.d), by rw [Item.fill]; rfl⟩
    · obtain ⟨n, sub, rfl⟩ := Item.el_of hb
      rw [Item.okS, Bool.and_eq_true] at ho
      rw [Item.ht] at hm
      rw [Item.fsz] at hf
      refine sd_set (ev_op ev_v (ev_tup (xs := [(Doc.mk n (Item.fills row sub)).d]) (eds_cons ((ev_tup (xs := [.str n, .tup ((Item.fills row sub).map Doc.d)]) (eds_cons (ev_elname ev_v) (eds_cons (ev_call (ea_cons (ev_sub ev_v) (ea_cons ev_v ea_nil)) ⟨sub, row, by omega, by omega, ho.2, by omega, rfl, rfl⟩) eds_nil)) (by show 2 ≤ 100000; decide)).to (by rw [Doc.d_mk])) eds_nil) (by show 1 ≤ 100000; decide)) (rop_catA (by rw [List.length_map, List.length_singleton]; omega))) ⟨.a (.d (Item.el n sub).d), ?_⟩
      rw [Item.fill] <;> rfl
  · rintro ss' ⟨z, rfl⟩
    rw [List.take_length]
    exact sd_ret ev_v rfl
/-! ### _law_turned_size -/
def preTsz (h : Nat) (as : List A) (r : R) : Prop := ∃ (t : Tr) (x : Doc), t.Ok ∧ x.ht ≤ h ∧ x.okS = true ∧ x.size ≤ 1000 ∧ as = [.d t.d, .d x.d] ∧ r = .d (nat (t.tsz x))
theorem tszs_sum (t : Tr) : ∀ ks : List Doc, ((ks.map fun k => (t.tsz k : Int))).sum = (t.tszs ks : Int)
  | [] => by rw [Tr.tszs]; rfl
  | k :: ks => by rw [List.map_cons, List.sum_cons, tszs_sum t ks, Tr.tszs]; omega
theorem Tr.d_eq (t : Tr) : t.d = .tup ((t.map fun q => (D.str q.1, D.tup (q.2.map Item.d))).map fun q => .tup [q.1, q.2]) := by
  unfold Tr.d
  rw [List.map_map]
  refine congrArg D.tup (List.map_congr_left fun q _ => ?_)
  rw [Item.ds_map] <;> rfl
theorem sc__law_turned_size : FnScope ["_law_rules", "_law_doc_here", "_law_size_here", "_law_name", "_law_items", "_law_child"] ["_law_rules", "_law_doc_here"] (defScope s__law_turned_size) := ⟨rfl, rfl, rfl, by decide +kernel, rfl, by decide +kernel, by decide +kernel⟩
theorem ok_law_turned_size (h : Nat) (F : FnP K "_law_turned_size" "_law_turned_size" s__law_turned_size f fd) (T : Txt mg) (c_l_filled_size : Cal P w K mg base "_law_filled_size" 5 ["_law_items", "_law_size_here"] (spD K (preFsz 5))) (c_l_turned_size : Cal P w K mg base "_law_turned_size" (h + 6) ["_law_rules", "_law_doc_here"] (spD K (preTsz h))) :
    FnOk P w K mg base CX0 (h + 6 + 1) f fd ["_law_rules", "_law_doc_here"] (spD K (preTsz (h + 1))) := by
  refine fnD F sc__law_turned_size (n := 4) rfl (fun as r h => by obtain ⟨t, x, _, _, _, _, rfl, _⟩ := h; rfl) fun cdv A outer s H E hr => ⟨_,
    (pss_cons (ps_set (i := 2) sc__law_turned_size.nd rfl (Or.inl rfl) (pe_callB (cr_sumK K) (by rfl) T.sum (by decide +kernel) (pa_cons (pe_lc (own := [("_law_child", 5)]) (g := gName 5) (tt := tYes) rfl sc__law_turned_size.nd (pi_tupK K (pe_ix (ix_tupK K) (pv 1) pe_int (fun _ _ => rfl))) (blkOk_by (N := ["_law_rules", "_law_doc_here", "_law_size_here", "_law_name", "_law_items", "_law_child"]) (sc := defScope s__law_turned_size) (by decide +kernel)) (fun _ _ _ _ _ => pg_name (i := 5) sc__law_turned_size.nd rfl (Or.inl rfl)) (fun _ _ _ _ _ => pts_nil) (fun _ _ _ _ _ => (pe_cal c_l_turned_size hr (by rfl) (pa_cons (pv 0) (pa_cons (pv 5) pa_nil))))) pa_nil)))
    (pss_cons (ps_for PassesOwn.never rfl (pi_tupK K (pv 0)) (pg_tup rfl (pgs_cons (pg_name (i := 3) sc__law_turned_size.nd rfl (Or.inl rfl)) (pgs_cons (pg_name (i := 4) sc__law_turned_size.nd rfl (Or.inl rfl)) pgs_nil)))
    (pss_one (ps_if (pt_cmpR op_eq (pv 3) (pe_ix (ix_tupK K) (pv 1) pe_int (fun _ _ => rfl)) (nomark _))
    (pss_one (ps_ret (pe_cal c_l_filled_size hr (by rfl) (pa_cons (pv 4) (pa_cons (pv 2) pa_nil)))))
    pss_nil)))
    (pss_one (ps_ret (pe_op op_add pe_int (pv 2)))))), fun as r h => ?_⟩
  obtain ⟨t, ⟨n, ks⟩, ht, hh, hx, hz, rfl, rfl⟩ := h
  rw [Doc.ht] at hh
  rw [Doc.okS, Bool.and_eq_true] at hx
  rw [Doc.size] at hz
  have hl := Doc.len_le ks
  refine sd_seq (sd_set (d := nat (t.tszs ks)) (ev_cb (ea_cons (EvN.l (evn_lcTm (ks := ks) (fun k => nat (t.tsz k)) (ev_kids ev_v) (by omega) fun k hk => ?_)) ea_nil) (by
    have h := rcl_sum (K := K) (ns := ks.map fun k => (t.tsz k : Int))
    rw [List.map_map, tszs_sum] at h
    exact h)) ?_)
  · have hm := Doc.ht_le hk
    have hs := Doc.size_le hk
    exact ev_call (ea_cons ev_v (ea_cons ev_v ea_nil)) ⟨t, k, ht, by omega, Doc.okSs_mem hx.2 hk, by omega, rfl, rfl⟩
  · refine sd_seq (sd_forT2 (ps := t.map fun q => (D.str q.1, D.tup (q.2.map Item.d))) (fun i ss => ∃ z z', ss = [.a (.d t.d), .a (.d (Doc.mk n ks).d), .a (.d (nat (t.tszs ks))), z, z', .no] ∧ t.look n = Tr.look (t.drop i) n) ((ev_v (x := .d t.d)).to (by rw [Tr.d_eq])) ⟨_, _, rfl, by rw [List.drop_zero]⟩ ?_ ?_)
    · rintro i y ss' hy ⟨z, z', rfl, hlk⟩
      rw [List.getElem?_map] at hy
      cases hki : t[i]? with
      | none => rw [hki] at hy; cases hy
      | some q =>
        rw [hki] at hy
        cases hy
        obtain ⟨hi, e⟩ := List.getElem?_eq_some_iff.mp hki
        rw [List.drop_eq_getElem_cons hi, e, Tr.look_cons] at hlk
        have hq := ht.ok q (List.mem_of_getElem? hki)
        refine sd_if (et_test (ev_op (ev_v (x := .d (.str q.1))) (ev_name ev_v) rop_eqS)) (fun hb => ?_) fun hb => ?_
        · rw [if_pos (of_decide_eq_true hb)] at hlk
          refine sd_ret (ev_call (d := nat (Item.fszs (t.tszs ks) q.2)) (ea_cons ev_v (ea_cons ev_v ea_nil)) ⟨q.2, t.tszs ks, by omega, by omega, hq.2.1, rfl, rfl⟩) ?_
          rw [Tr.tsz, Tr.items, hlk] <;> rfl
        · rw [if_neg (of_decide_eq_false hb)] at hlk
          exact sd_next ⟨_, _, rfl, hlk⟩
    · rintro ss' ⟨z, z', rfl, hlk⟩
      rw [List.length_map, List.drop_length] at hlk
      refine sd_ret (ev_op ev_int ev_v rop_i) ?_
      rw [Tr.tsz, Tr.items, hlk]
      show R.d (D.int (1 + (t.tszs ks : Int))) = R.d (nat (Item.fszs (t.tszs ks) [.el n [.hole]]))
      rw [Item.fszs, Item.fszs, Item.fsz, Item.fszs, Item.fszs, Item.fsz]
      refine congrArg (fun z => R.d (D.int z)) ?_
      omega
end
end G
namespace G
open PySem L2
open Evl (Ex)
section
variable {P : Program} {w : World} {K : PySem.W.Frag} {mg : Str → Option Value} {base : Heap} {f : Addr} {fd : FuncData}
/-! ### _law_turned -/
def preTurn (h : Nat) (as : List A) (r : R) : Prop := ∃ (t : Tr) (x : Doc), t.Ok ∧ x.ht ≤ h ∧ x.okS = true ∧ x.size ≤ 1000 ∧ t.tsz x ≤ 300 ∧ as = [.d t.d, .d x.d] ∧ r = .d (.tup ((t.turn x).map Doc.d))
/-- the last rule for a name is the only one -/
def Tr.last (t : Tr) (x : Str) (d : List Item) : List Item := t.foldl (fun acc q => if q.1 = x then q.2 else acc) d
theorem Tr.last_none : ∀ (t : Tr) (x : Str) (d : List Item), x ∉ t.map (·.1) → t.last x d = d
  | [], x, d, _ => rfl
  | q :: t, x, d, h => by
    rw [List.map_cons, List.mem_cons, not_or] at h
    show Tr.last t x (if q.1 = x then q.2 else d) = d
    rw [if_neg (fun e => h.1 e.symm)]
    exact Tr.last_none t x d h.2
theorem Tr.last_items : ∀ (t : Tr) (x : Str) (d : List Item), (t.map (·.1)).Nodup → t.last x d = (t.look x).getD d
  | [], x, d, _ => rfl
  | q :: t, x, d, h => by
    rw [List.map_cons, List.nodup_cons] at h
    show Tr.last t x (if q.1 = x then q.2 else d) = _
    rw [Tr.look_cons]
    by_cases e : q.1 = x
    · rw [if_pos e, if_pos e, Tr.last_none t x q.2 (by rw [← e]; exact h.1)]
      rfl
    · rw [if_neg e, if_neg e]
      exact Tr.last_items t x d h.2
theorem Tr.last_take {t : Tr} {i : Nat} {q : Str × List Item} {x : Str} {d : List Item} (h : t[i]? = some q) : Tr.last (t.take (i + 1)) x d = if q.1 = x then q.2 else Tr.last (t.take i) x d := by
  unfold Tr.last
  rw [List.take_succ, h, List.foldl_append]
  rfl
theorem sc__law_turned : FnScope ["_law_rules", "_law_doc_here", "_law_items", "_law_name", "_law_some", "_law_row", "_law_child"] ["_law_rules", "_law_doc_here"] (defScope s__law_turned) := ⟨rfl, rfl, rfl, by decide +kernel, rfl, by decide +kernel, by decide +kernel⟩
theorem ok_law_turned (h : Nat) (F : FnP K "_law_turned" "_law_turned" s__law_turned f fd) (T : Txt mg) (c_l_filled : Cal P w K mg base "_law_filled" 5 ["_law_items", "_law_row"] (spD K (preFill 5))) (c_l_holed : Cal P w K mg base "_law_holed" 5 ["_law_items"] (spD K (preHoled 5)))
    (c_l_turned : Cal P w K mg base "_law_turned" (h + 6) ["_law_rules", "_law_doc_here"] (spD K (preTurn h))) : FnOk P w K mg base CX0 (h + 6 + 1) f fd ["_law_rules", "_law_doc_here"] (spD K (preTurn (h + 1))) := by
  refine fnD F sc__law_turned (n := 5) rfl (fun as r h => by obtain ⟨t, x, _, _, _, _, _, rfl, _⟩ := h; rfl) fun cdv A outer s H E hr => ⟨_,
    (pss_cons (ps_set (i := 2) sc__law_turned.nd rfl (Or.inl rfl) (pe_tup (pa_cons (pe_tup (pa_cons (pe_ix (ix_tupK K) (pv 1) pe_int (fun _ _ => rfl)) (pa_cons (pe_tup (pa_cons pe_str pa_nil)) pa_nil))) pa_nil)))
    (pss_cons (ps_for PassesOwn.never rfl (pi_tupK K (pv 0)) (pg_tup rfl (pgs_cons (pg_name (i := 3) sc__law_turned.nd rfl (Or.inl rfl)) (pgs_cons (pg_name (i := 4) sc__law_turned.nd rfl (Or.inl rfl)) pgs_nil)))
    (pss_one (ps_if (pt_cmpR op_eq (pv 3) (pe_ix (ix_tupK K) (pv 1) pe_int (fun _ _ => rfl)) (nomark _))
    (pss_one (ps_set (i := 2) sc__law_turned.nd rfl (Or.inl rfl) (pv 4)))
    pss_nil)))
    (pss_cons (ps_set (i := 5) sc__law_turned.nd rfl (Or.inl rfl) (pe_tup pa_nil))
    (pss_cons (ps_if (pt_val (pe_cal c_l_holed hr (by rfl) (pa_cons (pv 2) pa_nil)))
    (pss_one (ps_for PassesOwn.never rfl (pi_tupK K (pe_ix (ix_tupK K) (pv 1) pe_int (fun _ _ => rfl))) (pg_name (i := 6) sc__law_turned.nd rfl (Or.inl rfl))
    (pss_one (ps_set (i := 5) sc__law_turned.nd rfl (Or.inl rfl) (pe_op (op_catK K) (pv 5) (pe_cal c_l_turned hr (by rfl) (pa_cons (pv 0) (pa_cons (pv 6) pa_nil))))))))
    pss_nil)
    (pss_one (ps_ret (pe_cal c_l_filled hr (by rfl) (pa_cons (pv 2) (pa_cons (pv 5) pa_nil))))))))), fun as r h => ?_⟩
  obtain ⟨t, ⟨n, ks⟩, ht, hh, hx, hz, htz, rfl, rfl⟩ := h
  rw [Doc.ht] at hh
  rw [Doc.okS, Bool.and_eq_true] at hx
  rw [Doc.size] at hz
  rw [Tr.tsz] at htz
  have hl := Doc.len_le ks
  obtain ⟨i1, i2, i3⟩ := ht.items hx.1
  have e0 : t.last n [.el n [.hole]] = t.items n := by rw [Tr.last_items t n _ ht.nd]; rfl
  refine sd_seq (sd_set (d := .tup ([Item.el n [.hole]].map Item.d)) (ev_tup (eds_cons ((ev_tup (xs := [.str n, .tup [.str "*"]]) (eds_cons (ev_name ev_v) (eds_cons (ev_tup (eds_cons ev_str eds_nil) (by show 1 ≤ 100000; decide)) eds_nil)) (by show 2 ≤ 100000; decide)).to (by rw [Item.d, Item.ds, Item.ds, Item.d])) eds_nil) (by show 1 ≤ 100000; decide)) ?_)
  refine sd_seq (sd_forT2 (ps := t.map fun q => (D.str q.1, D.tup (q.2.map Item.d))) (fun i ss => ∃ z z', ss = [.a (.d t.d), .a (.d (Doc.mk n ks).d), .a (.d (.tup ((Tr.last (t.take i) n [.el n [.hole]]).map Item.d))), z, z', .no, .no]) ((ev_v (x := .d t.d)).to (by rw [Tr.d_eq])) ⟨_, _, rfl⟩ ?_ ?_)
  · rintro i y ss' hy ⟨z, z', rfl⟩
    rw [List.getElem?_map] at hy
    cases hki : t[i]? with
    | none => rw [hki] at hy; cases hy
    | some q =>
      rw [hki] at hy
      cases hy
      rw [Tr.last_take hki]
      refine sd_if (et_test (ev_op (ev_v (x := .d (.str q.1))) (ev_name ev_v) rop_eqS)) (fun hb => ?_) fun hb => ?_
      · rw [if_pos (of_decide_eq_true hb)]
        exact sd_set ev_v ⟨_, _, rfl⟩
      · rw [if_neg (of_decide_eq_false hb)]
        exact sd_next ⟨_, _, rfl⟩
  · rintro ss' ⟨z, z', rfl⟩
    rw [List.length_map, List.take_length, e0]
    refine sd_seq (sd_set (d := .tup ([].map Doc.d)) (ev_tup eds_nil (by decide)) ?_)
    refine sd_seq (sd_if (et_B (ev_call (d := .bl (Item.holeds (t.items n))) (ea_cons ev_v ea_nil) ⟨t.items n, by omega, by omega, i1, by omega, rfl, rfl⟩)) (fun hb => ?_) fun hb => ?_)
    · have hf := Item.fszs_hole (t.tszs ks) _ hb
      refine sd_forTm (ks := ks) (fun i ss => ∃ z2, ss = [.a (.d t.d), .a (.d (Doc.mk n ks).d), .a (.d (.tup ((t.items n).map Item.d))), z, z', .a (.d (.tup ((t.turns (ks.take i)).map Doc.d))), z2]) (ev_kids ev_v) ⟨_, by rw [List.take_zero, Tr.turns]; rfl⟩ ?_ ?_
      · rintro i k ss' hk ⟨z2, rfl⟩
        have hmem := List.mem_of_getElem? hk
        have hm := Doc.ht_le hmem
        have hs := Doc.size_le hmem
        have hts := Tr.tsz_le t hmem
        have a1 := Doc.len_le (t.turns (ks.take i))
        have a2 := Tr.tszs_app t (ks.take i) (ks.drop i)
        rw [List.take_append_drop] at a2
        rw [Tr.turns_sz] at a1
        have a3 := Doc.len_le (t.turn k)
        rw [Tr.turn_sz] at a3
        rw [take_map_succ hk, Tr.turns_app, Tr.turns, Tr.turns, List.append_nil, List.map_append]
        exact sd_set (ev_op ev_v (ev_call (d := .tup ((t.turn k).map Doc.d)) (ea_cons ev_v (ea_cons ev_v ea_nil)) ⟨t, k, ht, by omega, Doc.okSs_mem hx.2 hmem, by omega, by omega, rfl, rfl⟩) (rop_catA (by rw [List.length_map, List.length_map]; omega))) ⟨_, rfl⟩
      · rintro ss' ⟨z2, rfl⟩
        rw [List.take_length]
        refine sd_ret (ev_call (d := .tup ((Item.fills (t.turns ks) (t.items n)).map Doc.d)) (ea_cons ev_v (ea_cons ev_v ea_nil)) ⟨t.items n, t.turns ks, by omega, by omega, i1, by rw [Tr.turns_sz]; omega, rfl, rfl⟩) ?_
        rw [Tr.turn] <;> rfl
    · refine sd_next (sd_ret (ev_call (d := .tup ((Item.fills [] (t.items n)).map Doc.d)) (ea_cons ev_v (ea_cons ev_v ea_nil)) ⟨t.items n, [], by omega, by omega, i1, ?_, rfl, rfl⟩) ?_)
      · have := congrArg Doc.sizes (Item.fills_no [] (t.turns ks) _ hb)
        rw [Item.fills_sz, Item.fills_sz, Tr.turns_sz] at this
        omega
      · rw [Tr.turn, Item.fills_no [] (t.turns ks) _ hb] <;> rfl
/-! ### _law_at -/
def preAt (as : List A) (r : R) : Prop := ∃ (x y : Doc) (p : List Nat), Doc.at p x = some y ∧ as = [.d x.d, .d (plD p)] ∧ r = .d y.d
theorem sc__law_at : FnScope ["_law_doc_here", "_law_place", "_law_k"] ["_law_doc_here", "_law_place"] (defScope s__law_at) := ⟨rfl, rfl, rfl, by decide +kernel, rfl, by decide +kernel, by decide +kernel⟩
theorem ok_law_at (F : FnP K "_law_at" "_law_at" s__law_at f fd) (T : Txt mg) : FnOk P w K mg base CX0 1 f fd ["_law_doc_here", "_law_place"] (spD K preAt) := by
  refine fnD F sc__law_at (n := 1) rfl (fun as r h => by obtain ⟨x, y, p, _, rfl, _⟩ := h; rfl) fun cdv A outer s H E hr => ⟨_,
    (pss_cons (ps_for PassesOwn.never rfl (pi_tupK K (pv 1)) (pg_name (i := 2) sc__law_at.nd rfl (Or.inl rfl))
    (pss_one (ps_set (i := 0) sc__law_at.nd rfl (Or.inl rfl) (pe_ix (ix_tupK K) (pe_ix (ix_tupK K) (pv 0) pe_int (fun _ _ => rfl)) (pv 2) (fun _ _ => rfl)))))
    (pss_one (ps_ret (pv 0)))), fun as r h => ?_⟩
  obtain ⟨x, y, p, hp, rfl, rfl⟩ := h
  refine sd_seq (sd_forTm (ks := p) (e := nat) (fun i ss => ∃ z2 x', ss = [.a (.d x'.d), .a (.d (plD p)), z2] ∧ Doc.at (p.drop i) x' = some y) ev_v ⟨_, x, rfl, hp⟩ ?_ ?_)
  · rintro i k ss' hk ⟨z2, ⟨n, ks⟩, rfl, hx⟩
    obtain ⟨hi, e⟩ := List.getElem?_eq_some_iff.mp hk
    rw [List.drop_eq_getElem_cons hi, e, Doc.at] at hx
    cases hki : ks[k]? with
    | none => rw [hki] at hx; cases hx
    | some x2 =>
      rw [hki] at hx
      exact sd_set (ev_kid (ev_kids ev_v) ev_v hki) ⟨_, x2, rfl, hx⟩
  · rintro ss' ⟨z2, x', rfl, hx⟩
    rw [List.drop_length, Doc.at] at hx
    cases hx
    exact sd_ret ev_v rfl
/-! ### _law_with -/
theorem plD_eqv (p : List Nat) : PyData.eqv (plD p).toP (D.tup []).toP = p.isEmpty := by
  cases p with
  | nil => simp [plD, D.toP, D.toPs, PyData.eqv, PyData.eqvAll]
  | cons i p => simp [plD, D.toP, D.toPs, PyData.eqv, PyData.eqvAll]
theorem nats_lay : ∀ p : List Nat, PyData.canLayAll0 (D.toPs (p.map nat)) = true ∧ PyData.depthAll (D.toPs (p.map nat)) = 0
  | [] => by rw [List.map_nil, D.toPs, PyData.canLayAll0, PyData.depthAll]; exact ⟨rfl, rfl⟩
  | i :: p => by
    obtain ⟨h1, h2⟩ := nats_lay p
    rw [List.map_cons, D.toPs, PyData.canLayAll0, PyData.depthAll, D.toP, PyData.canLay0, PyData.depth, h1, h2]
    exact ⟨rfl, rfl⟩
theorem plD_lay (p : List Nat) : PyData.canLay0 (plD p).toP = true ∧ PyData.depth (plD p).toP = 1 := by
  obtain ⟨h1, h2⟩ := nats_lay p
  unfold plD
  rw [D.toP, PyData.canLay0, PyData.depth, h1, h2]
  exact ⟨rfl, rfl⟩
theorem plD_shaped (p : List Nat) : SeqAt.shaped (plD p).toP = true := shaped_of (plD_lay p).1 (by rw [(plD_lay p).2]; decide)
theorem rop_top {p : List Nat} : ROp K (rEqD K) (.d (plD p)) (.d (.tup [])) (.d (.bl p.isEmpty)) := rop_eqD (plD_shaped p) (plD_shaped []) (plD_eqv p)
def preWith (h : Nat) (as : List A) (r : R) : Prop := ∃ (x y z : Doc) (p : List Nat), p.length < h ∧ Doc.at p x = some y ∧ x.size ≤ 1000 ∧ as = [.d x.d, .d (plD p), .d z.d] ∧ r = .d (Doc.put z p x).d
theorem sc__law_with : FnScope ["_law_doc_here", "_law_place", "_law_new", "_law_k"] ["_law_doc_here", "_law_place", "_law_new"] (defScope s__law_with) := ⟨rfl, rfl, rfl, by decide +kernel, rfl, by decide +kernel, by decide +kernel⟩
theorem ok_law_with (h : Nat) (F : FnP K "_law_with" "_law_with" s__law_with f fd) (T : Txt mg) (c_l_with : Cal P w K mg base "_law_with" h ["_law_doc_here", "_law_place", "_law_new"] (spD K (preWith h))) : FnOk P w K mg base CX0 (h + 1) f fd ["_law_doc_here", "_law_place", "_law_new"] (spD K (preWith (h + 1))) := by
  refine fnD F sc__law_with (n := 1) rfl (fun as r h => by obtain ⟨x, y, z, p, _, _, _, rfl, _⟩ := h; rfl) fun cdv A outer s H E hr => ⟨_,
    (pss_cons (ps_if (pt_cmpR (op_eqK K hr) (pv 1) (pe_tup pa_nil) (nomark _))
    (pss_one (ps_ret (pv 2)))
    pss_nil)
    (pss_cons (ps_set (i := 3) sc__law_with.nd rfl (Or.inl rfl) (pe_ix (ix_tupK K) (pv 1) pe_int (fun _ _ => rfl)))
    (pss_one (ps_ret (pe_tup (pa_cons (pe_ix (ix_tupK K) (pv 0) pe_int (fun _ _ => rfl)) (pa_cons (pe_op (op_catK K) (pe_op (op_catK K) (pe_slice (sl_tupK K) (pe_ix (ix_tupK K) (pv 0) pe_int (fun _ _ => rfl)) po_none (po_some (pv 3))) (pe_tup (pa_cons (pe_cal c_l_with hr (by rfl) (pa_cons (pe_ix (ix_tupK K) (pe_ix (ix_tupK K) (pv 0) pe_int (fun _ _ => rfl)) (pv 3) (fun _ _ => rfl)) (pa_cons (pe_slice (sl_tupK K) (pv 1) (po_some pe_int) po_none) (pa_cons (pv 2) pa_nil)))) pa_nil))) (pe_slice (sl_tupK K) (pe_ix (ix_tupK K) (pv 0) pe_int (fun _ _ => rfl)) (po_some (pe_op op_add (pv 3) pe_int)) po_none)) pa_nil))))))), fun as r h => ?_⟩
  obtain ⟨⟨n, ks⟩, y, z, p, hl, hp, hz, rfl, rfl⟩ := h
  rw [Doc.size] at hz
  have hlk := Doc.len_le ks
  refine sd_seq (sd_if (et_test (ev_op ev_v (ev_tup eds_nil (by decide)) rop_top)) (fun hb => ?_) fun hb => ?_)
  · obtain rfl := List.isEmpty_iff.mp hb
    refine sd_ret ev_v ?_
    rw [Doc.put]
  · cases p with
    | nil => cases hb
    | cons i p =>
      rw [Doc.at] at hp
      cases hki : ks[i]? with
      | none => rw [hki] at hp; cases hp
      | some k =>
        rw [hki] at hp
        have hs := Doc.size_le (List.mem_of_getElem? hki)
        refine sd_next (sd_seq (sd_set (d := nat i) (ev_ixc (xs := (i :: p).map nat) ev_v (at_some (j := 0) rfl rfl)) ?_))
        have hsl : ∀ {ss : List Sl}, Ev K (tVar 1) ss (.d (plD (i :: p))) → Ev K (tSl (rSlA K) (tVar 1) (tPart (tC (.int 1))) tNoPart) ss (.d (plD p)) := fun h => (ev_slT (xs := (i :: p).map nat) h (eo_some ev_int) eo_none).to (by
          have := cut_from ((i :: p).map nat) 1
          rw [show ((1 : Nat) : Int) = (1 : Int) from rfl] at this
          rw [this]
          rfl)
        have k1 : ∀ {ss : List Sl} {te tj : TE}, Ev K te ss (.d (.tup (ks.map Doc.d))) → Ev K tj ss (.d (nat i)) → Ev K (tSl (rSlA K) te tNoPart (tPart tj)) ss (.d (.tup ((ks.take i).map Doc.d))) := fun h h2 => (ev_slT h eo_none (eo_some h2)).to (by rw [cut_to, ← List.map_take])
        have k2 : ∀ {ss : List Sl} {te tj : TE}, Ev K te ss (.d (.tup (ks.map Doc.d))) → Ev K tj ss (.d (.int ((i : Int) + 1))) → Ev K (tSl (rSlA K) te (tPart tj) tNoPart) ss (.d (.tup ((ks.drop (i + 1)).map Doc.d))) := fun h h2 => (ev_slT h (eo_some h2) eo_none).to (by
            have := cut_from (ks.map Doc.d) (i + 1)
            rw [show ((i + 1 : Nat) : Int) = (i : Int) + 1 from by omega] at this
            rw [this, ← List.map_drop])
        refine sd_ret (ev_tup (xs := [.str n, .tup (((ks.take i) ++ [Doc.put z p k] ++ ks.drop (i + 1)).map Doc.d)]) (eds_cons (ev_name ev_v) (eds_cons ((ev_op (ev_op (k1 (ev_kids ev_v) ev_v) (ev_tup (eds_cons (ev_call (d := (Doc.put z p k).d) (ea_cons (ev_kid (ev_kids ev_v) ev_v hki) (ea_cons (hsl ev_v) (ea_cons ev_v ea_nil))) ⟨k, y, z, p, by simp at hl; omega, hp, by omega, rfl, rfl⟩) eds_nil) (by show 1 ≤ 100000; decide)) (rop_catA ?_)) (k2 (ev_kids ev_v) (ev_op ev_v ev_int rop_i)) (rop_catA ?_)).to ?_) eds_nil)) (by show 2 ≤ 100000; decide)) ?_
        · simp; omega
        · simp; omega
        · first | rfl | (rw [List.map_append, List.map_append] <;> rfl)
        · rw [Doc.put, hki, Doc.d_mk]
/-! ### _law_state -/
def preState (h : Nat) (as : List A) (r : R) : Prop := ∃ (m : M) (n : Nat) (x : Doc), m.Ok n ∧ x.ht ≤ h ∧ as = [.d m.d, .d x.d] ∧ r = .d (nat (m.state x))
theorem start_eq {m : M} {n : Nat} (hm : m.Ok n) (x : Str) : (∀ (i : Nat), m.names[i]? = some x → m.start x = m.starts.getD i 0) ∧ (x ∉ m.names → m.start x = m.starts.getD m.names.length 0) := by
  refine ⟨fun i hi => ?_, fun h => ?_⟩
  · unfold M.start
    have h1 : i < m.names.length := (List.getElem?_eq_some_iff.mp hi).1
    have h2 : m.names[i] = x := (List.getElem?_eq_some_iff.mp hi).2
    have h3 : m.names.idxOf x = i := by
      have h4 : m.names.idxOf x < m.names.length := List.idxOf_lt_length_iff.mpr (by rw [← h2]; exact List.getElem_mem h1)
      have h5 : m.names[m.names.idxOf x] = x := by
        have := List.getElem?_eq_getElem h4
        simp
      exact (List.getElem_inj hm.nd).mp (h5.trans h2.symm)
    rw [h3]
  · unfold M.start
    rw [List.idxOf_eq_length h]
/-- the start as it is looked for, name by name -/
def M.startTo (m : M) (x : Str) (i : Nat) : Nat := if x ∈ m.names.take i then m.start x else m.starts.getD m.names.length 0
theorem ev_step {te t1 t2 : TE} {ss : List Sl} {m : M} {n p q : Nat} (hm : m.Ok n) (h : Ev K te ss (.d m.d)) (h1 : Ev K t1 ss (.d (nat p))) (h2 : Ev K t2 ss (.d (nat q))) (hp : p < n) (hq : q < n) : Ev K (tOp (rIxT K) (tOp (rIxT K) (tOp (rIxT K) te (tC (.int 3))) t1) t2) ss (.d (nat (m.step p q))) := by
  have l1 : p < m.steps.length := by rw [hm.sp]; exact hp
  have hr : m.steps[p] ∈ m.steps := List.getElem_mem l1
  have l2 : q < (m.steps[p]).length := by rw [hm.rl _ hr]; exact hq
  refine ev_ix (f := false) (xs := (m.steps[p]).map nat) (ev_ix (xs := m.steps.map rowD) (ev_ixc (xs := m.parts) h rfl) h1 (atI_nat ?_)) h2 (atI_nat ?_)
  · rw [List.getElem?_map, List.getElem?_eq_getElem l1]
    rfl
  · rw [List.getElem?_map, List.getElem?_eq_getElem l2]
    unfold M.step
    rw [List.getD_eq_getElem?_getD (l := m.steps), List.getElem?_eq_getElem l1]
    simp only [Option.getD_some]
    rw [List.getD_eq_getElem?_getD, List.getElem?_eq_getElem l2]
    rfl
theorem sc__law_state : FnScope ["_law_machine_here", "_law_doc_here", "_law_here", "_law_k", "_law_child"] ["_law_machine_here", "_law_doc_here"] (defScope s__law_state) := ⟨rfl, rfl, rfl, by decide +kernel, rfl, by decide +kernel, by decide +kernel⟩
theorem ok_law_state (h : Nat) (F : FnP K "_law_state" "_law_state" s__law_state f fd) (T : Txt mg) (c_l_state : Cal P w K mg base "_law_state" h ["_law_machine_here", "_law_doc_here"] (spD K (preState h))) : FnOk P w K mg base CX0 (h + 1) f fd ["_law_machine_here", "_law_doc_here"] (spD K (preState (h + 1))) := by
  refine fnD F sc__law_state (n := 3) rfl (fun as r h => by obtain ⟨m, n, x, _, _, rfl, _⟩ := h; rfl) fun cdv A outer s H E hr => ⟨_,
    (pss_cons (ps_set (i := 2) sc__law_state.nd rfl (Or.inl rfl) (pe_ix (ix_tupK K) (pe_ix (ix_tupK K) (pv 0) pe_int (fun _ _ => rfl)) (pe_callB (call_lenK K) (by rfl) T.len PySem.boot_len (pa_cons (pe_ix (ix_tupK K) (pv 0) pe_int (fun _ _ => rfl)) pa_nil)) (fun _ _ => rfl)))
    (pss_cons (ps_for PassesOwn.never rfl (pi_range1 rfl T.range (pa_cons (pe_callB (call_lenK K) (by rfl) T.len PySem.boot_len (pa_cons (pe_ix (ix_tupK K) (pv 0) pe_int (fun _ _ => rfl)) pa_nil)) pa_nil)) (pg_name (i := 3) sc__law_state.nd rfl (Or.inl rfl))
    (pss_one (ps_if (pt_cmpR op_eq (pe_ix (ix_tupK K) (pe_ix (ix_tupK K) (pv 0) pe_int (fun _ _ => rfl)) (pv 3) (fun _ _ => rfl)) (pe_ix (ix_tupK K) (pv 1) pe_int (fun _ _ => rfl)) (nomark _))
    (pss_one (ps_set (i := 2) sc__law_state.nd rfl (Or.inl rfl) (pe_ix (ix_tupK K) (pe_ix (ix_tupK K) (pv 0) pe_int (fun _ _ => rfl)) (pv 3) (fun _ _ => rfl))))
    pss_nil)))
    (pss_cons (ps_for PassesOwn.never rfl (pi_tupK K (pe_ix (ix_tupK K) (pv 1) pe_int (fun _ _ => rfl))) (pg_name (i := 4) sc__law_state.nd rfl (Or.inl rfl))
    (pss_one (ps_set (i := 2) sc__law_state.nd rfl (Or.inl rfl) (pe_ix (ix_tupK K) (pe_ix (ix_tupK K) (pe_ix (ix_tupK K) (pv 0) pe_int (fun _ _ => rfl)) (pv 2) (fun _ _ => rfl)) (pe_cal c_l_state hr (by rfl) (pa_cons (pv 0) (pa_cons (pv 4) pa_nil))) (fun _ _ => rfl)))))
    (pss_one (ps_ret (pv 2)))))), fun as r h => ?_⟩
  obtain ⟨m, n, ⟨x, ks⟩, hm, hh, rfl, rfl⟩ := h
  rw [Doc.ht] at hh
  have haz := hm.az
  have hs0 : m.names.length < m.starts.length := by rw [hm.st]; omega
  have pn : ∀ {ss : List Sl}, Ev K (tVar 0) ss (.d m.d) → Ev K (tOp (rIxT K) (tVar 0) (tC (.int 1))) ss (.d (.tupF (m.names.map .str))) := fun h => ev_ixc (xs := m.parts) h rfl
  have ps : ∀ {ss : List Sl}, Ev K (tVar 0) ss (.d m.d) → Ev K (tOp (rIxT K) (tVar 0) (tC (.int 2))) ss (.d (.tup (m.starts.map nat))) := fun h => ev_ixc (xs := m.parts) h rfl
  have stA : ∀ (j : Nat), j < m.starts.length → atI (m.starts.map nat) (j : Int) = some (nat (m.starts.getD j 0)) := fun j hj => atI_nat (by rw [List.getElem?_map, List.getElem?_eq_getElem hj, List.getD_eq_getElem?_getD, List.getElem?_eq_getElem hj]; rfl)
  refine sd_seq (sd_set (ev_ix (ps ev_v) (ev_cb (ea_cons (pn ev_v) ea_nil) rcl_lenTm) (stA _ hs0)) ?_)
  refine sd_seq (sd_forR (n := m.names.length) (fun i ss => ∃ z, ss = [.a (.d m.d), .a (.d (Doc.mk x ks).d), .a (.d (nat (m.startTo x i))), z, .no]) (eds_cons (ev_cb (ea_cons (pn ev_v) ea_nil) rcl_lenTm) eds_nil) (by omega) ⟨_, by unfold M.startTo; rw [List.take_zero, if_neg (by simp)]; rfl⟩ ?_ ?_)
  · rintro i ss' hi ⟨z, rfl⟩
    have hk := List.getElem?_eq_getElem hi
    refine sd_if (et_test (ev_op (ev_ix (d := .str m.names[i]) (pn ev_v) ev_v (atI_nat (by rw [List.getElem?_map, hk] <;> rfl))) (ev_name ev_v) rop_eqS)) (fun hb => ?_) fun hb => ?_
    · have hb := of_decide_eq_true hb
      refine sd_set (ev_ix (ps ev_v) ev_v (stA i (by omega))) ⟨.a (.d (nat i)), ?_⟩
      have e : m.startTo x (i + 1) = m.starts.getD i 0 := by
        unfold M.startTo
        rw [if_pos (by rw [take_map_succ hk]; simp [hb]), (start_eq hm x).1 i (by rw [hk, hb])]
      rw [e] <;> rfl
    · have hb := of_decide_eq_false hb
      refine sd_next ⟨.a (.d (nat i)), ?_⟩
      have e : m.startTo x (i + 1) = m.startTo x i := by
        unfold M.startTo
        have : (x ∈ m.names.take (i + 1)) = (x ∈ m.names.take i) := by
          rw [take_map_succ hk]
          simp only [List.mem_append, List.mem_singleton]
          refine propext ⟨fun h => h.elim id fun e => absurd e.symm hb, .inl⟩
        simp only [this]
      rw [e] <;> rfl
  · rintro ss' ⟨z, rfl⟩
    have e : m.startTo x m.names.length = m.start x := by
      unfold M.startTo
      rw [List.take_length]
      by_cases hx : x ∈ m.names
      · rw [if_pos hx]
      · rw [if_neg hx, (start_eq hm x).2 hx]
    rw [e]
    have sl := hm.start_lt x
    refine sd_seq (sd_forTm (ks := ks) (fun i ss => ∃ z2, ss = [.a (.d m.d), .a (.d (Doc.mk x ks).d), .a (.d (nat (m.run (m.start x) (ks.take i)))), z, z2]) (ev_kids ev_v) ⟨.no, by rw [List.take_zero, M.run]⟩ ?_ ?_)
    · rintro i k ss' hk ⟨z2, rfl⟩
      have hmem := List.mem_of_getElem? hk
      have hm1 := Doc.ht_le hmem
      rw [take_map_succ hk, M.run_app, M.run, M.run]
      exact sd_set (ev_step hm ev_v ev_v (ev_call (ea_cons ev_v (ea_cons ev_v ea_nil)) ⟨m, n, k, hm, by omega, rfl, rfl⟩) (hm.run_lt _ sl) (hm.state_lt k)) ⟨_, rfl⟩
    · rintro ss' ⟨z2, rfl⟩
      rw [List.take_length]
      refine sd_ret ev_v ?_
      rw [M.state] <;> rfl
/-! ### _law_forms -/
def lawForms (m : M) (t : Tr) (x : Doc) : List Str := match t.turn x with
  | [y] => bitsOf (m.marks.getD (m.state y) 0) m.forms
  | _ => []
theorem bitRest_eq : ∀ (i r : Nat), bitRest r i = r / 2 ^ i
  | 0, r => by rw [bitRest, Nat.pow_zero, Nat.div_one]
  | i + 1, r => by rw [bitRest, bitRest_eq i, Nat.pow_succ, Nat.div_div_eq_div_mul, Nat.mul_comm]
theorem gvn_bits (r : Nat) (fs : List Str) : ∀ i, i ≤ fs.length → gvn (fun k => decide ((r : Int) / (1 * 2 ^ k) % 2 = 1)) (fun k => .str (fs.getD k default)) i = (bitsOf r (fs.take i)).map D.str
  | 0, _ => by rw [List.take_zero, bitsOf]; rfl
  | i + 1, hi => by
    have ih := gvn_bits r fs i (by omega)
    have hk := List.getElem?_eq_getElem (l := fs) (i := i) (by omega)
    have hd : fs.getD i default = fs[i] := by rw [List.getD_eq_getElem?_getD, hk]; rfl
    have e : (decide ((r : Int) / (1 * 2 ^ i) % 2 = 1)) = decide (bitRest r i % 2 = 1) := by
      rw [bitRest_eq]
      have : ((r : Int) / (1 * 2 ^ i) % 2) = ((r / 2 ^ i % 2 : Nat) : Int) := by
        rw [Int.one_mul]
        norm_cast
      rw [this]
      by_cases h : r / 2 ^ i % 2 = 1
      · rw [h]; rfl
      · rw [decide_eq_false h, decide_eq_false (by omega)]
    rw [bitsOf_take _ _ _ _ hk]
    by_cases h : bitRest r i % 2 = 1
    · rw [gvn_yes (by rw [e, decide_eq_true h]), ih, if_pos h, List.map_append]
      simp only [hd]
      rfl
    · rw [gvn_no (by rw [e, decide_eq_false h]), ih, if_neg h, List.append_nil]
def preLForms (as : List A) (r : R) : Prop := ∃ (m : M) (n : Nat) (t : Tr) (x : Doc), m.Ok n ∧ m.forms.length ≤ 20 ∧ t.Ok ∧ x.ht ≤ 20 ∧ x.okS = true ∧ x.size ≤ 1000 ∧ t.tsz x ≤ 300 ∧ as = [.d m.d, .d t.d, .d x.d] ∧ r = .l ((lawForms m t x).map .str)
theorem sc__law_forms : FnScope ["_law_machine_here", "_law_turner_here", "_law_doc_here", "_law_row", "_law_mark", "_law_k"] ["_law_machine_here", "_law_turner_here", "_law_doc_here"] (defScope s__law_forms) := ⟨rfl, rfl, rfl, by decide +kernel, rfl, by decide +kernel, by decide +kernel⟩
theorem ok_law_forms (F : FnP K "_law_forms" "_law_forms" s__law_forms f fd) (T : Txt mg) (c_l_state : Cal P w K mg base "_law_state" 40 ["_law_machine_here", "_law_doc_here"] (spD K (preState 40))) (c_l_turned : Cal P w K mg base "_law_turned" 26 ["_law_rules", "_law_doc_here"] (spD K (preTurn 20))) :
    FnOk P w K mg base CX0 41 f fd ["_law_machine_here", "_law_turner_here", "_law_doc_here"] (spD K preLForms) := by
  refine fnD F sc__law_forms (n := 3) rfl (fun as r h => by obtain ⟨m, n, t, x, _, _, _, _, _, _, _, rfl, _⟩ := h; rfl) fun cdv A outer s H E hr => ⟨_,
    (pss_cons (ps_set (i := 3) sc__law_forms.nd rfl (Or.inl rfl) (pe_cal c_l_turned hr (by rfl) (pa_cons (pv 1) (pa_cons (pv 2) pa_nil))))
    (pss_cons (ps_if (pt_cmpR op_ne (pe_callB (call_lenK K) (by rfl) T.len PySem.boot_len (pa_cons (pv 3) pa_nil)) pe_int (nomark _))
    (pss_one (ps_ret (pe_lst pa_nil)))
    pss_nil)
    (pss_cons (ps_set (i := 4) sc__law_forms.nd rfl (Or.inr rfl) (pe_ix (ix_tupK K) (pe_ix (ix_tupK K) (pv 0) pe_int (fun _ _ => rfl)) (pe_cal c_l_state hr (by rfl) (pa_cons (pv 0) (pa_cons (pe_ix (ix_tupK K) (pv 3) pe_int (fun _ _ => rfl)) pa_nil))) (fun _ _ => rfl)))
    (pss_one (ps_ret (pe_lc (own := [("_law_k", 5)]) (g := gName 5) rfl sc__law_forms.nd (pi_range1 rfl T.range (pa_cons (pe_callB (call_lenK K) (by rfl) T.len PySem.boot_len (pa_cons (pe_ix (ix_tupK K) (pv 0) pe_int (fun _ _ => rfl)) pa_nil)) pa_nil)) (blkOk_by (N := ["_law_machine_here", "_law_turner_here", "_law_doc_here", "_law_row", "_law_mark", "_law_k"]) (sc := defScope s__law_forms) (by decide +kernel)) (fun _ _ _ _ _ => pg_name (i := 5) sc__law_forms.nd rfl (Or.inl rfl)) (fun _ _ _ _ _ => pts_one (pt_cmpR op_eq (pe_op op_mod (pe_op op_fdiv (pv 4) (pe_op op_shl pe_int (pv 5))) pe_int) pe_int (nomark _))) (fun _ _ _ _ _ => (pe_ix (ix_tupK K) (pe_ix (ix_tupK K) (pv 0) pe_int (fun _ _ => rfl)) (pv 5) (fun _ _ => rfl))))))))), fun as r h => ?_⟩
  obtain ⟨m, n, t, x, hm, hf, ht, hh, hx, hz, htz, rfl, rfl⟩ := h
  have hth := ht.turn_ht x hx
  refine sd_seq (sd_set (d := .tup ((t.turn x).map Doc.d)) (ev_call (ea_cons ev_v (ea_cons ev_v ea_nil)) ⟨t, x, ht, hh, hx, hz, htz, rfl, rfl⟩) ?_)
  refine sd_seq (sd_if (et_test (ev_op (x := .d (nat (t.turn x).length)) (ev_cb (ea_cons ev_v ea_nil) rcl_lenTm) ev_int rop_neI)) (fun hb => ?_) fun hb => ?_)
  · have hb : ¬ ((t.turn x).length : Int) = 1 := by simpa using hb
    refine sd_retN (evn_lst eds_nil (by decide)) ?_
    unfold lawForms
    split
    · rename_i y hy
      rw [hy] at hb
      exact absurd rfl hb
    · rfl
  · have hb : ((t.turn x).length : Int) = 1 := by simpa using hb
    have hb1 : (t.turn x).length = 1 := by omega
    obtain ⟨y, hy⟩ := List.length_eq_one_iff.mp hb1
    rw [hy, Doc.hts, Doc.hts] at hth
    have e2 : lawForms m t x = bitsOf (m.marks.getD (m.state y) 0) m.forms := by
      unfold lawForms
      rw [hy]
    have sl := hm.state_lt y
    have hl : m.state y < m.marks.length := by rw [hm.ml]; exact sl
    rw [e2, hy]
    refine sd_next (sd_seq (sd_set (d := nat (m.marks.getD (m.state y) 0)) (ev_ix (xs := m.marks.map nat) (ev_ixc (xs := m.parts) ev_v rfl) (ev_call (d := nat (m.state y)) (ea_cons ev_v (ea_cons (ev_ixc (d := y.d) (xs := [y].map Doc.d) ev_v rfl) ea_nil)) ⟨m, n, y, hm, by omega, rfl, rfl⟩) (atI_nat ?_)) ?_))
    · rw [List.getElem?_map, List.getElem?_eq_getElem hl, List.getD_eq_getElem?_getD, List.getElem?_eq_getElem hl]
      rfl
    · refine sd_retN (evn_lcR_if (n := m.forms.length) (fun k => decide (((m.marks.getD (m.state y) 0 : Nat) : Int) / (1 * 2 ^ k) % 2 = 1)) (fun k => .str (m.forms.getD k default)) (eds_cons (ev_cb (ea_cons (ev_ixc (d := .tup (m.forms.map .str)) (xs := m.parts) ev_v rfl) ea_nil) rcl_lenTm) eds_nil) (by omega) (fun i hi => ?_) fun i hi _ => ?_) ?_
      · have hp : (0 : Int) < 1 * 2 ^ i := by
          rw [Int.one_mul]
          exact Int.pow_pos (by decide)
        have hp2 : (1 * 2 ^ i : Int) < 1073741824 := by
          rw [Int.one_mul]
          have : (2 : Nat) ^ i ≤ 2 ^ 20 := Nat.pow_le_pow_right (by decide) (by omega)
          have h2 : ((2 ^ i : Nat) : Int) = (2 : Int) ^ i := by norm_cast
          rw [← h2]
          omega
        exact et_test (ev_op (ev_op (ev_op ev_v (ev_op (z := .d (.int (1 * 2 ^ i))) ev_int ev_v (rop_ic (C := CPow) (g := fun i j => i * 2 ^ j.toNat) (show CPow 1 (i : Int) from ⟨by omega, by omega, by decide⟩))) (rop_ic ⟨hp, hp2⟩)) ev_int (rop_ic (by decide))) ev_int rop_eqI)
      · exact ev_ix (xs := m.forms.map .str) (ev_ixc (xs := m.parts) ev_v rfl) ev_v (atI_nat (by rw [List.getElem?_map, List.getElem?_eq_getElem hi, List.getD_eq_getElem?_getD, List.getElem?_eq_getElem hi]; rfl))
      · rw [gvn_bits _ _ _ (Nat.le_refl _), List.take_length]
end
end G
namespace G
open PySem L2
open Evl (Ex)
/-! ### promises with an answer that is told by what holds of it -/
def spX (K : PySem.W.Frag) (pre : List A → Prop) (post : List A → R → Prop) : Sp := fun vs H Q _ => ∃ as, AAtL K H as vs ∧ pre as ∧ ∀ r, post as r → RAt H r Q
section
variable {P : Program} {w : World} {K : PySem.W.Frag} {mg : Str → Option Value} {base : Heap} {x qual : Str} {params : Arguments} {body : List Stmt} {scope : Scope} {f : Addr} {fd : FuncData}
theorem fnX {N ps : List Str} {k n : Nat} {pre : List A → Prop} {post : List A → R → Prop} (F : FunD K x qual params body scope [] [] f fd) (S : FnScope N ps scope) (hn : ps.length + n = N.length) (hl : ∀ as, pre as → as.length = ps.length)
    (hb : ∀ (cdv : Value) (A : Around) (outer : List Env) (s : Shared) (H : Hp) (E : XK), Room k (A.deeper (PyProof.Rows.envOfC qual scope s.heap.objs.size f cdv)) →
      ∃ t, PSs (cxOf CX0 P w K mg base N qual scope f cdv A outer s H E).nox body t ∧ ∀ as, pre as → Sd K t (starts as n) (fun _ => post as (.d .non)) (post as) noSN noSN) : FnOk P w K mg base CX0 (k + 1) f fd ps (spX K pre post) := by
  refine F.ok S (fun vs H Q E h => ?_) (fun cdv A outer s H vs Q E hr h => ?_)
  · obtain ⟨as, ha, hp, _⟩ := h
    rw [ha.length, hl _ hp]
  · obtain ⟨as, ha, hp, hq⟩ := h
    obtain ⟨t, h1, h2⟩ := hb cdv A outer s H E hr
    refine ⟨t, h1.nox, ?_⟩
    exact h2 as hp H H H _ _ (start_ok ha (by rw [hl _ hp]; exact hn)) ⟨fun ss H' σ e ok => hq _ e _ _ ok.ex (at_non.mpr rfl), fun r' e => hq r' e, fun _ _ _ z => z.elim, fun _ _ _ z => z.elim⟩
end
section
variable {K : PySem.W.Frag} {ss : List Sl} {ta : TA} {as : List A} {pre : List A → Prop} {post : List A → R → Prop} {N Bk Ct : SN} {Rt : R → Prop} {E : XK} {i : Nat}
/-- x = f(..), f's answer a new list of which post tells -/
theorem sd_callX (h : EvAs K ta ss as) (hp : pre as) (k : ∀ r, post as r → ∃ xs, r = .l xs ∧ N (ss.set i (.own xs))) : Sd K (tAsg (tCall (spX K pre post) [] E ta) (gName i)) ss N Rt Bk Ct := fun B F H σ D ok e =>
  h B F H σ _ ok fun vs H2 e2 r => ⟨as, by rw [List.append_nil]; exact r, hp, fun r hr => by
    obtain ⟨xs, rfl, hn⟩ := k r hr
    exact fun a vs H3 ha e3 h1 h2 => e.nx _ _ _ hn (ok.setN (e2.trans e3) (Evl.fresh_back e2 ha) h1 h2)⟩
/-- return f(..) -/
theorem sd_retX (h : EvAs K ta ss as) (hp : pre as) (k : ∀ r, post as r → Rt r) : Sd K (tRet (tCall (spX K pre post) [] E ta)) ss N Rt Bk Ct := fun B F H σ D ok e =>
  h B F H σ _ ok fun vs H2 e2 r => ⟨as, by rw [List.append_nil]; exact r, hp, fun r hr => by
    have h3 := e.rt r (k r hr)
    have ex := (ok.bf.trans ok.ex).trans e2
    cases r with
    | d x => exact fun v H3 e3 hv => h3 v H3 (ex.trans e3) hv
    | l xs => exact fun a vs H3 ha e3 h1 h2 => h3 a vs H3 (Evl.fresh_back ex ha) (ex.trans e3) h1 h2
    | w v => exact fun H3 e3 => h3 H3 (ex.trans e3)⟩
end
section
variable {P : Program} {w : World} {K : PySem.W.Frag} {mg : Str → Option Value} {base : Heap} {f : Addr} {fd : FuncData}
theorem nat_add (a b : Nat) : D.int ((a : Int) + (b : Int)) = nat (a + b) := by
  show D.int _ = D.int _
  rw [Int.natCast_add]
/-! ### _law_cell_at -/
def cellAt (ns : List Int) (k : Nat) : Int := if k < ns.length then ns.getD k 0 else 0
def preCell (as : List A) (r : R) : Prop := ∃ (ns : List Int) (k : Nat), as = [.r (ns.map .int), .d (nat k)] ∧ r = .d (.int (cellAt ns k))
theorem sc__law_cell_at : FnScope ["_law_script", "_law_k"] ["_law_script", "_law_k"] (defScope s__law_cell_at) := ⟨rfl, rfl, rfl, by decide +kernel, rfl, by decide +kernel, by decide +kernel⟩
theorem ok_law_cell_at (F : FnP K "_law_cell_at" "_law_cell_at" s__law_cell_at f fd) (T : Txt mg) : FnOk P w K mg base CX0 1 f fd ["_law_script", "_law_k"] (spD K preCell) := by
  refine fnD F sc__law_cell_at (n := 0) rfl (fun as r h => by obtain ⟨ns, k, rfl, _⟩ := h; rfl) fun cdv A outer s H E hr => ⟨_,
    (pss_cons (ps_if (pt_cmpR op_lt (pv 1) (pe_callB (call_lenK K) (by rfl) T.len PySem.boot_len (pa_cons (pv 0) pa_nil)) (nomark _))
    (pss_one (ps_ret (pe_ix (ix_listK K) (pv 0) (pv 1) (fun _ _ => rfl))))
    pss_nil)
    (pss_one (ps_ret pe_int))), fun as r h => ?_⟩
  obtain ⟨ns, k, rfl, rfl⟩ := h
  refine sd_seq (sd_if (et_test (ev_op (y := .d (nat ns.length)) ev_v (ev_cb (ea_cons ev_v ea_nil) (by rw [← List.length_map (f := D.int)]; exact rcl_lenR)) rop_ib)) (fun hb => ?_) fun hb => ?_)
  · have hb : k < ns.length := by have := of_decide_eq_true hb; omega
    refine sd_ret (ev_op (x := .r (ns.map .int)) ev_v ev_v (rop_ixR (d := .int (cellAt ns k)) (atI_nat ?_))) rfl
    rw [List.getElem?_map, List.getElem?_eq_getElem hb]
    unfold cellAt
    rw [if_pos hb, List.getD_eq_getElem?_getD, List.getElem?_eq_getElem hb]
    rfl
  · have hb : ¬ k < ns.length := by have := of_decide_eq_false hb; omega
    refine sd_next (sd_ret ev_int ?_)
    unfold cellAt
    rw [if_neg hb] <;> rfl
/-! ### _law_numbers -/
def preNums (as : List A) : Prop := ∃ (ns : List Int) (a b : Nat), ns.length ≤ 1000 ∧ a ≤ 1000 ∧ b ≤ 1000 ∧ as = [.r (ns.map .int), .d (nat a), .d (nat b)]
def postNums (as : List A) (r : R) : Prop := ∀ s a b, as = [s, a, .d (nat b)] → ∃ xs : List Nat, xs.length = b ∧ (∀ x ∈ xs, x < 67108864) ∧ r = .l (xs.map nat)
theorem sc__law_numbers : FnScope ["_law_script", "_law_start", "_law_many", "_law_k", "_law_cells", "_law_found", "_law_number", "_law_at_here", "_law_cell"] ["_law_script", "_law_start", "_law_many"] (defScope s__law_numbers) := ⟨rfl, rfl, rfl, by decide +kernel, rfl, by decide +kernel, by decide +kernel⟩
theorem atI_own {xs : List D} {i : Nat} {d : D} (h : xs[i]? = some d) : atI xs (i : Int) = some d := atI_nat h
theorem ok_law_numbers (F : FnP K "_law_numbers" "_law_numbers" s__law_numbers f fd) (T : Txt mg) (c_l_cell_at : Cal P w K mg base "_law_cell_at" 1 ["_law_script", "_law_k"] (spD K preCell)) : FnOk P w K mg base CX0 2 f fd ["_law_script", "_law_start", "_law_many"] (spX K preNums postNums) := by
  refine fnX F sc__law_numbers (n := 6) rfl (fun as h => by obtain ⟨ns, a, b, _, _, _, rfl⟩ := h; rfl) fun cdv A outer s H E hr => ⟨_,
    (pss_cons (ps_setLc (i := 4) (own := [("_law_k", 3)]) (g := gName 3) (tt := tYes) rfl sc__law_numbers.nd rfl rfl (sw_true rfl rfl rfl (by decide +kernel)) (pi_range1 rfl T.range (pa_cons (pe_callB (call_max2' rfl) (by rfl) T.max (by decide +kernel) (pa_cons pe_int (pa_cons (pe_callB (call_min2' rfl) (by rfl) T.min (by decide +kernel) (pa_cons pe_int (pa_cons (pe_op op_sub (pe_callB (call_lenK K) (by rfl) T.len PySem.boot_len (pa_cons (pv 0) pa_nil)) (pv 1)) pa_nil))) pa_nil))) pa_nil)) (blkOk_by (N := ["_law_script", "_law_start", "_law_many", "_law_k", "_law_cells", "_law_found", "_law_number", "_law_at_here", "_law_cell"]) (sc := defScope s__law_numbers) (by decide +kernel)) (fun _ _ _ _ _ => pg_name (i := 3) sc__law_numbers.nd rfl (Or.inl rfl)) (fun _ _ _ _ _ => pts_nil) (fun _ _ _ _ _ => (pe_cal c_l_cell_at hr (by rfl) (pa_cons (pv 0) (pa_cons (pe_op op_add (pv 1) (pv 3)) pa_nil)))))
    (pss_cons (ps_set (i := 5) sc__law_numbers.nd rfl (Or.inl rfl) (pe_lst pa_nil))
    (pss_cons (ps_set (i := 6) sc__law_numbers.nd rfl (Or.inl rfl) pe_int)
    (pss_cons (ps_for PassesOwn.never rfl (pi_range1 rfl T.range (pa_cons (pv 2) pa_nil)) (pg_name (i := 3) sc__law_numbers.nd rfl (Or.inl rfl))
    (pss_cons (ps_set (i := 7) sc__law_numbers.nd rfl (Or.inl rfl) (pe_op op_mod (pv 3) (pe_callB (call_lenK K) (by rfl) T.len PySem.boot_len (pa_cons (pv 4) pa_nil))))
    (pss_cons (ps_set (i := 8) sc__law_numbers.nd rfl (Or.inl rfl) (pe_op op_mod (pe_cal c_l_cell_at hr (by rfl) (pa_cons (pv 0) (pa_cons (pe_op op_add (pv 1) (pv 3)) pa_nil))) pe_int))
    (pss_cons (ps_set (i := 6) sc__law_numbers.nd rfl (Or.inl rfl) (pe_op op_mod (pe_op op_add (pe_op op_add (pe_op op_add (pe_op op_mul (pv 6) pe_int) (pe_op op_mul (pv 8) pe_int)) (pe_op op_mul (pv 3) (pv 3))) pe_int) pe_int))
    (pss_cons (ps_expr (pe_app K (pv 5) (pe_op op_fdiv (pv 6) pe_int)))
    (pss_one (ps_if (pt_cmpR op_ge (pe_ix (ix_listK K) (pv 4) (pv 7) (fun _ _ => rfl)) (pe_op op_pow pe_int pe_int) (nomark _))
    (pss_cons (ps_asg (pe_op op_mod (pe_ix (ix_listK K) (pv 4) (pv 7) (fun _ _ => rfl)) pe_int) (pg_sub (pv 5) (pv 3) set_list))
    (pss_one (ps_asg (pe_op op_fdiv (pe_ix (ix_listK K) (pv 4) (pv 7) (fun _ _ => rfl)) pe_int) (pg_sub (pv 4) (pv 7) set_list))))
    pss_nil)))))))
    (pss_one (ps_ret (pv 5))))))), fun as h => ?_⟩
  obtain ⟨ns, a, b, hns, ha, hb, rfl⟩ := h
  have hL : ∃ L : Nat, ((if (if ((ns.length : Int) - (a : Int)) < 20 then ((ns.length : Int) - (a : Int)) else 20) > 1 then (if ((ns.length : Int) - (a : Int)) < 20 then ((ns.length : Int) - (a : Int)) else 20) else 1) = (L : Int)) ∧ 1 ≤ L ∧ L ≤ 20 := by
    refine ⟨(if (if ((ns.length : Int) - (a : Int)) < 20 then ((ns.length : Int) - (a : Int)) else 20) > 1 then (if ((ns.length : Int) - (a : Int)) < 20 then ((ns.length : Int) - (a : Int)) else 20) else 1).toNat, ?_, ?_, ?_⟩ <;> (repeat' split) <;> omega
  obtain ⟨L, hL, hL1, hL2⟩ := hL
  have elen : ∀ {ss : List Sl}, Ev K (tVar 0) ss (.r (ns.map .int)) → Ev K (tCB (Evl.rLenS K) (tCons (tVar 0) tNil)) ss (.d (nat ns.length)) := fun h => ev_cb (ea_cons h ea_nil) (by rw [← List.length_map (f := D.int)]; exact rcl_lenR)
  refine sd_seq (sd_setN (evn_lcR (n := L) (fun k => .int (cellAt ns (a + k))) (eds_cons (Ev.to (ev_cb (ea_cons ev_int (ea_cons (ev_cb (ea_cons ev_int (ea_cons (ev_op (elen ev_v) ev_v rop_i) ea_nil)) rcl_min) ea_nil)) rcl_max) (by rw [hL])) eds_nil) (by omega) fun k hk => ?_) ?_)
  · refine ev_call (ea_cons ev_v (ea_cons (ev_op ev_v ev_v rop_i) ea_nil)) ⟨ns, a + k, by rw [nat_add], rfl⟩
  refine sd_seq (sd_setN (evn_lst eds_nil (by decide)) ?_)
  refine sd_seq (sd_set (d := nat 48271) ev_int ?_)
  refine sd_seq (sd_forR (n := b) (fun i ss => ∃ (cs : List Int) (xs : List Nat) (m : Nat) (z1 z2 z3 : Sl), cs.length = L ∧ xs.length = i ∧ (∀ x ∈ xs, x < 67108864) ∧ m < 2147483647 ∧ ss = [.a (.r (ns.map .int)), .a (.d (nat a)), .a (.d (nat b)), z1, .own (cs.map .int), .own (xs.map nat), .a (.d (nat m)), z2, z3])
    (eds_cons ev_v eds_nil) (by omega) ⟨(List.range L).map fun k => cellAt ns (a + k), [], 48271, .no, .no, .no, by simp, rfl, by simp, by decide, ?_⟩ ?_ ?_)
  · rw [List.map_map] <;> rfl
  · rintro i ss' hi ⟨cs, xs, m, z1, z2, z3, hcs, hxs, hxb, hm, rfl⟩
    have hq : i % L < L := Nat.mod_lt _ (by omega)
    have e1 : ((i : Int) % (cs.length : Int)) = ((i % L : Nat) : Int) := by rw [hcs, Int.natCast_emod]
    refine sd_seq (sd_set (d := nat (i % L)) (Ev.to (ev_op (y := .d (nat cs.length)) ev_v (ev_cb (ea_cons ev_v ea_nil) rcl_lenLm) (rop_ic (by omega))) (by rw [e1])) ?_)
    have hc0 : 0 ≤ cellAt ns (a + i) % 2147483647 := Int.emod_nonneg _ (by decide)
    have hc1 : cellAt ns (a + i) % 2147483647 < 2147483647 := Int.emod_lt_of_pos _ (by decide)
    obtain ⟨c, hc⟩ : ∃ c : Nat, cellAt ns (a + i) % 2147483647 = (c : Int) := ⟨_, (Int.toNat_of_nonneg hc0).symm⟩
    have hcb : c < 2147483647 := by omega
    refine sd_seq (sd_set (d := nat c) (Ev.to (ev_op (ev_call (d := .int (cellAt ns (a + i))) (ea_cons ev_v (ea_cons (ev_op ev_v ev_v rop_i) ea_nil)) ⟨ns, a + i, by rw [nat_add], rfl⟩) ev_int (rop_ic (by decide))) (by rw [hc])) ?_)
    have e2 : ((m : Int) * 69621 + (c : Int) * 48271 + (i : Int) * (i : Int) + 1) % 2147483647 = (((m * 69621 + c * 48271 + i * i + 1) % 2147483647 : Nat) : Int) := by
      rw [Int.natCast_emod]
      simp [Int.natCast_add, Int.natCast_mul]
    have hm2 : (m * 69621 + c * 48271 + i * i + 1) % 2147483647 < 2147483647 := Nat.mod_lt _ (by decide)
    refine sd_seq (sd_set (d := nat ((m * 69621 + c * 48271 + i * i + 1) % 2147483647)) (Ev.to (ev_op (ev_op (ev_op (ev_op (ev_op ev_v ev_int (rop_ic (.inl ⟨by omega, by omega⟩))) (ev_op ev_v ev_int (rop_ic (.inl ⟨by omega, by omega⟩))) rop_i) (ev_op ev_v ev_v (rop_ic (.inl ⟨by omega, by omega⟩))) rop_i) ev_int rop_i) ev_int (rop_ic (by decide))) (by rw [e2])) ?_)
    generalize (m * 69621 + c * 48271 + i * i + 1) % 2147483647 = m2 at hm2
    have e3 : (m2 : Int) / 32 = ((m2 / 32 : Nat) : Int) := by rw [Int.natCast_ediv] <;> rfl
    refine sd_seq (sd_app rfl (d := nat (m2 / 32)) (Ev.to (ev_op ev_v ev_int (rop_ic ⟨by decide, by decide⟩)) (by rw [e3])) (by rw [List.length_map]; omega) ?_)
    have hci : (cs.map D.int)[i % L]? = some (.int (cs.getD (i % L) 0)) := by
      have hl : i % L < cs.length := by rw [hcs]; exact hq
      rw [List.getElem?_map, List.getElem?_eq_getElem hl, List.getD_eq_getElem?_getD, List.getElem?_eq_getElem hl]
      rfl
    have hx2 : ∀ x ∈ xs ++ [m2 / 32], x < 67108864 := fun x hx => by
      rcases List.mem_append.mp hx with h | h
      · exact hxb x h
      · rw [List.mem_singleton.mp h]; omega
    have el : xs.map nat ++ [nat (m2 / 32)] = (xs ++ [m2 / 32]).map nat := by rw [List.map_append] <;> rfl
    have eix : ∀ {ss : List Sl}, Ev K (tVar 4) ss (.l (cs.map .int)) → Ev K (tVar 7) ss (.d (nat (i % L))) → Ev K (tOp (rIxL K) (tVar 4) (tVar 7)) ss (.d (.int (cs.getD (i % L) 0))) := fun h h2 => ev_op h h2 (rop_ixL (atI_own hci))
    refine sd_if (et_test (ev_op (eix ev_v ev_v) (ev_op ev_int ev_int (rop_ic (C := CPow) (g := fun i j => i ^ j.toNat) (show CPow 10 18 from ⟨by decide, by decide, by decide⟩))) rop_ib)) (fun hb => ?_) fun hb => ?_
    · have h0 : 0 ≤ cs.getD (i % L) 0 % 67108864 := Int.emod_nonneg _ (by decide)
      have h1 : cs.getD (i % L) 0 % 67108864 < 67108864 := Int.emod_lt_of_pos _ (by decide)
      obtain ⟨y, hy⟩ : ∃ y : Nat, cs.getD (i % L) 0 % 67108864 = (y : Int) := ⟨_, (Int.toNat_of_nonneg h0).symm⟩
      have hyb : y < 67108864 := by omega
      refine sd_seq (sd_setItem (m := i) (d := nat y) (xs := xs.map nat ++ [nat (m2 / 32)]) rfl (Ev.to (ev_op (eix ev_v ev_v) ev_int (rop_ic (by decide))) (by rw [hy])) (k' := (i : Int)) ev_v (by unfold ixN; rw [if_pos (by omega), if_pos (by rw [List.length_append, List.length_map]; simp; omega)]; rfl) ?_)
      refine sd_setItem (m := i % L) (d := .int (cs.getD (i % L) 0 / 67108864)) (xs := cs.map .int) rfl (ev_op (eix ev_v ev_v) ev_int (rop_ic ⟨by decide, by decide⟩)) (k' := ((i % L : Nat) : Int)) ev_v (by unfold ixN; rw [if_pos (by omega), if_pos (by rw [List.length_map]; omega)]; rfl) ?_
      refine ⟨cs.set (i % L) (cs.getD (i % L) 0 / 67108864), xs ++ [y], m2, .a (.d (nat i)), .a (.d (nat (i % L))), .a (.d (nat c)), by rw [List.length_set]; exact hcs, by rw [List.length_append, hxs]; rfl, fun x hx => ?_, hm2, ?_⟩
      · rcases List.mem_append.mp hx with h | h
        · exact hxb x h
        · rw [List.mem_singleton.mp h]; exact hyb
      · have e5 : (xs.map nat ++ [nat (m2 / 32)]).set i (nat y) = (xs ++ [y]).map nat := by
          rw [List.set_append_right _ _ (by rw [List.length_map]; omega), List.length_map, hxs, Nat.sub_self, List.map_append]
          rfl
        have e6 : (cs.map D.int).set (i % L) (.int (cs.getD (i % L) 0 / 67108864)) = (cs.set (i % L) (cs.getD (i % L) 0 / 67108864)).map .int := by
          rw [List.map_set]
        rw [e5, e6] <;> rfl
    · refine sd_next ⟨cs, xs ++ [m2 / 32], m2, .a (.d (nat i)), .a (.d (nat (i % L))), .a (.d (nat c)), hcs, by rw [List.length_append, hxs]; rfl, hx2, hm2, ?_⟩
      rw [el] <;> rfl
  · rintro ss' ⟨cs, xs, m, z1, z2, z3, hcs, hxs, hxb, hm, rfl⟩
    refine sd_retO rfl ?_
    intro s' a' b' e
    cases e
    exact ⟨xs, hxs, hxb, rfl⟩
end
end G
namespace G
open PySem L2
open Evl (Ex)
/-! ### words -/
def LW (l : List Nat) : Prop := ∀ c ∈ l, 97 ≤ c ∧ c < 123
def Nm (s : Str) : Prop := ∃ l : List Nat, s = SX.S l ∧ 1 ≤ l.length ∧ l.length ≤ 8 ∧ LW l
theorem LW.app {a b : List Nat} (h : LW a) (k : LW b) : LW (a ++ b) := fun c hc => (List.mem_append.mp hc).elim (h c) (k c)
theorem LW.cut {l : List Nat} {a b : Option Int} (h : LW l) : LW (cut l a b) := fun c hc => h c (List.mem_of_mem_drop (List.mem_of_mem_take hc))
theorem letters_eq : ("abcdefghijklmnopqrstuvwxyz" : Str) = SX.S (List.range' 97 26) := by decide +kernel
theorem nd_len {α : Type} : ∀ {l m : List α}, l.Nodup → (∀ x ∈ l, x ∈ m) → l.length ≤ m.length
  | [], m, _, _ => Nat.zero_le _
  | a :: l, m, hn, hs => by
    classical
    rw [List.nodup_cons] at hn
    have ha := hs a List.mem_cons_self
    have h1 : ∀ x ∈ l, x ∈ m.erase a := fun x hx => by
      have : x ≠ a := fun e => hn.1 (e ▸ hx)
      exact (List.mem_erase_of_ne this).mpr (hs x (List.mem_cons_of_mem _ hx))
    have h2 := nd_len hn.2 h1
    rw [List.length_erase_of_mem ha] at h2
    have h3 : 0 < m.length := List.length_pos_of_mem ha
    rw [List.length_cons]
    omega
theorem nodup_map {α β : Type} {l : List α} {g : α → β} (h : l.Nodup) (inj : ∀ a b, a ∈ l → b ∈ l → g a = g b → a = b) : (l.map g).Nodup := by
  unfold List.Nodup at h ⊢
  rw [List.pairwise_map]
  exact List.Pairwise.imp_of_mem (fun ha hb hne e => hne (inj _ _ ha hb e)) h
theorem cutS_S (l : List Nat) (a b : Option Int) : cutS (SX.S l) a b = SX.S (cut l a b) := by
  unfold cutS cut
  rw [SX.S_len]
theorem joinL_one : ∀ l : List Nat, TL.joinL [] (l.map fun c => [c]) = l
  | [] => rfl
  | [c] => rfl
  | c :: d :: l => by
    have ih := joinL_one (d :: l)
    show [c] ++ [] ++ TL.joinL [] ((d :: l).map fun c => [c]) = _
    rw [ih]
    rfl
theorem Nm.strOk {s : Str} (h : Nm s) : PyData.strOk s = true := by
  obtain ⟨l, rfl, _, _, h⟩ := h
  unfold PyData.strOk
  rw [← Array.all_toList]
  show l.all _ = true
  rw [List.all_eq_true]
  intro c hc
  have := (h c hc).2
  exact decide_eq_true (by omega)
section
variable {K : PySem.W.Frag} {ss : List Sl} {te ti : TE}
theorem ev_letter {te : TE} {z : Int} (h : Ev K te ss (.d (.str "abcdefghijklmnopqrstuvwxyz"))) (h2 : Ev K ti ss (.d (.int z))) (h0 : 0 ≤ z) (h1 : z < 26) : Ev K (tOp rIxS te ti) ss (.d (.str (SX.S [97 + z.toNat]))) := by
  refine ev_op h h2 (rop_ixS (s := "abcdefghijklmnopqrstuvwxyz") (i := z) (c := 97 + z.toNat) (by decide +kernel) ?_)
  rw [letters_eq]
  show atI (List.range' 97 26) z = _
  refine at_some (j := z.toNat) (by omega) ?_
  rw [List.getElem?_range' (by omega)]
  simp
/-- t * 1 -/
def rMul1 : R2 := fun x y H Q => ∃ z, x = .str z ∧ y = .int 1 ∧ Q (.str z) H
theorem op_mulSI {X : Cx} : OpR X (binaryOp .Mult) rMul1 := by
  intro pins s σ H x y v u Q I rx ry h
  obtain ⟨z, rfl, rfl, q⟩ := h
  obtain ⟨t, rfl⟩ := rx
  obtain ⟨t', rfl⟩ := ry
  refine P.mul_str (by decide) (fun _ h => by simp at h) (fun _ h => by simp at h) ?_
  rw [if_neg (by decide), if_pos (by simp)]
  exact ⟨.str z, H, I, ⟨_, rfl⟩, q⟩
theorem rop_mul1 {s : Str} : ROp K rMul1 (.d (.str s)) (.d (.int 1)) (.d (.str s)) := fun H v u Q h1 h2 q => ⟨s, un_str h1, un_int h2, q _ H (Ex.refl H) ad_str⟩
end
section
variable {P : Program} {w : World} {K : PySem.W.Frag} {mg : Str → Option Value} {base : Heap} {f : Addr} {fd : FuncData}
/-! ### _law_any_names -/
def preNames (as : List A) : Prop := ∃ (c : Int), as = [.d (.int c), .d (nat 8)]
def postNames (as : List A) (r : R) : Prop := ∃ ws : List Str, ws.length = 8 ∧ ws.Nodup ∧ (∀ x ∈ ws, Nm x) ∧ r = .l (ws.map .str)
theorem sc__law_any_names : FnScope ["_law_cell", "_law_many", "_law_letters", "_law_found", "_law_k", "_law_size_here", "_law_word_here", "_law_j"] ["_law_cell", "_law_many"] (defScope s__law_any_names) := ⟨rfl, rfl, rfl, by decide +kernel, rfl, by decide +kernel, by decide +kernel⟩
theorem ok_law_any_names (F : FnP K "_law_any_names" "_law_any_names" s__law_any_names f fd) (T : Txt mg) : FnOk P w K mg base CX0 1 f fd ["_law_cell", "_law_many"] (spX K preNames postNames) := by
  refine fnX F sc__law_any_names (n := 6) rfl (fun as h => by obtain ⟨c, rfl⟩ := h; rfl) fun cdv A outer s H E hr => ⟨_,
    (pss_cons (ps_set (i := 2) sc__law_any_names.nd rfl (Or.inl rfl) pe_str)
    (pss_cons (ps_set (i := 3) sc__law_any_names.nd rfl (Or.inl rfl) (pe_lst pa_nil))
    (pss_cons (ps_for PassesOwn.never rfl (pi_range1 rfl T.range (pa_cons (pv 1) pa_nil)) (pg_name (i := 4) sc__law_any_names.nd rfl (Or.inl rfl))
    (pss_cons (ps_set (i := 5) sc__law_any_names.nd rfl (Or.inl rfl) (pe_op op_add pe_int (pe_op op_mod (pv 0) pe_int)))
    (pss_cons (ps_set (i := 0) sc__law_any_names.nd rfl (Or.inl rfl) (pe_op op_fdiv (pv 0) pe_int))
    (pss_cons (ps_set (i := 6) sc__law_any_names.nd rfl (Or.inl rfl) pe_str)
    (pss_cons (ps_while PassesOwn.never (pt_cmpR op_lt (pe_callB call_lenT (by rfl) T.len PySem.boot_len (pa_cons (pv 6) pa_nil)) (pv 5) (nomark _))
    (pss_cons (ps_set (i := 6) sc__law_any_names.nd rfl (Or.inl rfl) (pe_op op_addS (pv 6) (pe_ix ix_str (pv 2) (pe_op op_mod (pv 0) pe_int) (fun _ _ => rfl))))
    (pss_one (ps_set (i := 0) sc__law_any_names.nd rfl (Or.inl rfl) (pe_op op_fdiv (pv 0) pe_int)))))
    (pss_cons (ps_set (i := 7) sc__law_any_names.nd rfl (Or.inl rfl) pe_int)
    (pss_cons (ps_while PassesOwn.never (pt_cmpR (op_inK K) (pv 6) (pv 3) (by rfl))
    (pss_cons (ps_set (i := 6) sc__law_any_names.nd rfl (Or.inl rfl) (pe_op op_mulSI (pe_ix ix_str (pv 2) (pe_op op_mod (pv 7) pe_int) (fun _ _ => rfl)) (pe_op op_add pe_int (pe_op op_fdiv (pv 7) pe_int))))
    (pss_one (ps_set (i := 7) sc__law_any_names.nd rfl (Or.inl rfl) (pe_op op_add (pv 7) pe_int)))))
    (pss_one (ps_expr (pe_app K (pv 3) (pv 6)))))))))))
    (pss_one (ps_ret (pv 3)))))), fun as h => ?_⟩
  obtain ⟨c, rfl⟩ := h
  refine sd_seq (sd_set ev_str ?_)
  refine sd_seq (sd_setN (evn_lst eds_nil (by decide)) ?_)
  refine sd_seq (sd_forR (n := 8) (fun i ss => ∃ (c : Int) (ws : List Str) (z1 z2 z3 z4 : Sl), ws.length = i ∧ ws.Nodup ∧ (∀ x ∈ ws, Nm x) ∧ ss = [.a (.d (.int c)), .a (.d (nat 8)), .a (.d (.str "abcdefghijklmnopqrstuvwxyz")), .own (ws.map .str), z1, z2, z3, z4])
    (eds_cons ev_v eds_nil) (by omega) ⟨c, [], .no, .no, .no, .no, rfl, List.nodup_nil, by simp, rfl⟩ ?_ ?_)
  · rintro i ss' hi ⟨c, ws, z1, z2, z3, z4, hl, hn, hw, rfl⟩
    have h8 : 0 ≤ c % 8 ∧ c % 8 < 8 := ⟨Int.emod_nonneg _ (by decide), Int.emod_lt_of_pos _ (by decide)⟩
    obtain ⟨sz, hsz⟩ : ∃ sz : Nat, 1 + c % 8 = (sz : Int) := ⟨(1 + c % 8).toNat, by omega⟩
    have hsz1 : 1 ≤ sz ∧ sz ≤ 8 := by omega
    refine sd_seq (sd_set (d := nat sz) (Ev.to (ev_op ev_int (ev_op ev_v ev_int (rop_ic (by decide))) rop_i) (by rw [hsz])) ?_)
    refine sd_seq (sd_set (d := .int (c / 8)) (ev_op ev_v ev_int (rop_ic ⟨by decide, by decide⟩)) ?_)
    refine sd_seq (sd_set (d := .str (SX.S [])) ev_str ?_)
    refine sd_seq (sd_while (fun m ss => ∃ (c : Int) (l : List Nat), l.length ≤ sz ∧ LW l ∧ m = sz - l.length ∧ ss = [.a (.d (.int c)), .a (.d (nat 8)), .a (.d (.str "abcdefghijklmnopqrstuvwxyz")), .own (ws.map .str), .a (.d (.int (i : Int))), .a (.d (nat sz)), .a (.d (.str (SX.S l))), z4]) sz ⟨c / 8, [], by simp, (fun x hx => nomatch hx), by simp, rfl⟩ ?_)
    rintro m ss2 ⟨c, l, hll, hlw, rfl, rfl⟩
    have hlen : (SX.S l).length = l.length := SX.S_len l
    refine ⟨_, et_test (ev_op (x := .d (nat l.length)) ((ev_cb (ea_cons ev_v ea_nil) (rcl_lenS (s := SX.S l) (by rw [hlen]; omega))).to (by rw [hlen])) ev_v rop_ib), fun hb => ?_, fun hb => ?_⟩
    · have hb : l.length < sz := by have := of_decide_eq_true hb; omega
      have h26 : 0 ≤ c % 26 ∧ c % 26 < 26 := ⟨Int.emod_nonneg _ (by decide), Int.emod_lt_of_pos _ (by decide)⟩
      refine sd_seq (sd_set (d := .str (SX.S (l ++ [97 + (c % 26).toNat]))) (Ev.to (ev_op ev_v (ev_letter ev_v (ev_op ev_v ev_int (rop_ic (by decide))) h26.1 h26.2) (rop_addS (by rw [hlen, SX.S_len]; simp; omega))) (by rw [SX.S_cat])) ?_)
      refine sd_set (d := .int (c / 26)) (ev_op ev_v ev_int (rop_ic ⟨by decide, by decide⟩)) ⟨sz - (l.length + 1), by omega, c / 26, l ++ [97 + (c % 26).toNat], by simp; omega, hlw.app (fun x hx => by rw [List.mem_singleton.mp hx]; omega), by simp, rfl⟩
    · have hb : ¬ l.length < sz := by have := of_decide_eq_false hb; omega
      refine sd_seq (sd_set (d := nat 0) ev_int ?_)
      refine sd_seq (sd_while (fun m ss => ∃ (x : Str) (j : Nat), j ≤ 8 ∧ m = 10 - j ∧ Nm x ∧ (∀ t, t + 1 < j → SX.S [97 + t] ∈ ws) ∧ (0 < j → x = SX.S [97 + (j - 1)]) ∧ ss = [.a (.d (.int c)), .a (.d (nat 8)), .a (.d (.str "abcdefghijklmnopqrstuvwxyz")), .own (ws.map .str), .a (.d (.int (i : Int))), .a (.d (nat sz)), .a (.d (.str x)), .a (.d (nat j))]) 10
        ⟨SX.S l, 0, by omega, rfl, ⟨l, rfl, by omega, by omega, hlw⟩, fun t h => by omega, fun h => by omega, rfl⟩ ?_)
      rintro m ss2 ⟨x, j, hj, rfl, hx, hin, hxj, rfl⟩
      refine ⟨_, et_test (ev_op ev_v ev_v rop_inL), fun hb => ?_, fun hb => ?_⟩
      · have hb : x ∈ ws := of_decide_eq_true hb
        have hin2 : ∀ t, t < j → SX.S [97 + t] ∈ ws := fun t ht => by
          by_cases e : t + 1 < j
          · exact hin t e
          · have := hxj (by omega)
            rw [show t = j - 1 by omega, ← this]
            exact hb
        have hcnt : j ≤ ws.length := by
          have h1 : ((List.range j).map fun t => SX.S [97 + t]).Nodup := by
            refine nodup_map List.nodup_range fun a b _ _ e => ?_
            have := SX.S_inj e
            simp at this
            omega
          have h2 := nd_len h1 (m := ws) (fun y hy => by
            obtain ⟨t, ht, rfl⟩ := List.mem_map.mp hy
            exact hin2 t (List.mem_range.mp ht))
          simpa using h2
        have hj7 : j ≤ 7 := by omega
        have e1 : (j : Int) % 26 = (j : Int) := by omega
        have e2 : 1 + (j : Int) / 26 = 1 := by omega
        refine sd_seq (sd_set (d := .str (SX.S [97 + j])) (Ev.to (ev_op (z := .d (.str (SX.S [97 + ((j : Int) % 26).toNat]))) (ev_letter (z := (j : Int) % 26) ev_v (ev_op ev_v ev_int (rop_ic (by decide))) (by omega) (by omega)) (Ev.to (ev_op ev_int (ev_op (x := .d (nat j)) ev_v ev_int (rop_ic ⟨by decide, by decide⟩)) rop_i) (by rw [e2])) rop_mul1) (by rw [e1, Int.toNat_natCast])) ?_)
        refine sd_set (d := nat (j + 1)) (ev_op (x := .d (nat j)) ev_v ev_int rop_i) ⟨10 - (j + 1), by omega, SX.S [97 + j], j + 1, by omega, rfl, ⟨[97 + j], rfl, by simp, by simp, fun y hy => by rw [List.mem_singleton.mp hy]; omega⟩, fun t ht => hin2 t (by omega), fun _ => by simp, rfl⟩
      · have hb : x ∉ ws := of_decide_eq_false hb
        refine sd_app rfl (d := .str x) ev_v (by rw [List.length_map]; omega) ⟨c, ws ++ [x], _, _, _, _, by simp [hl], ?_, ?_, by rw [List.map_append] <;> rfl⟩
        · rw [List.nodup_append]
          exact ⟨hn, by simp, fun a ha b hb2 e => by rw [List.mem_singleton.mp hb2] at e; exact hb (e ▸ ha)⟩
        · intro y hy
          rcases List.mem_append.mp hy with h | h
          · exact hw y h
          · rw [List.mem_singleton.mp h]; exact hx
  · rintro ss' ⟨c, ws, z1, z2, z3, z4, hl, hn, hw, rfl⟩
    exact sd_retO rfl ⟨ws, hl, hn, hw, rfl⟩
/-! ### _law_names -/
theorem sc__law_names : FnScope ["_law_cell", "_law_many", "_law_letters", "_law_number", "_law_k", "_law_base", "_law_at_here", "_law_size_here", "_law_found", "_law_sign"] ["_law_cell", "_law_many"] (defScope s__law_names) := ⟨rfl, rfl, rfl, by decide +kernel, rfl, by decide +kernel, by decide +kernel⟩
theorem sum_ones : ∀ l : List Nat, ((l.map fun c => [c]).map (·.length)).sum = l.length
  | [] => rfl
  | c :: l => by
    rw [List.map_cons, List.map_cons, List.sum_cons, sum_ones l, List.length_cons]
    exact Nat.add_comm _ _
theorem cut_len_to {l : List Nat} {k : Nat} (h : k ≤ l.length) : (cut l none (some (k : Int))).length = k := by rw [cut_to, List.length_take]; omega
theorem ok_law_names (F : FnP K "_law_names" "_law_names" s__law_names f fd) (T : Txt mg) (c_l_any_names : Cal P w K mg base "_law_any_names" 1 ["_law_cell", "_law_many"] (spX K preNames postNames)) : FnOk P w K mg base CX0 2 f fd ["_law_cell", "_law_many"] (spX K preNames postNames) := by
  refine fnX F sc__law_names (n := 8) rfl (fun as h => by obtain ⟨c, rfl⟩ := h; rfl) fun cdv A outer s H E hr => ⟨_,
    (pss_cons (ps_set (i := 2) sc__law_names.nd rfl (Or.inr rfl) pe_str)
    (pss_cons (ps_if (pt_cmpR op_ge (pv 0) (pe_op op_pow pe_int pe_int) (nomark _))
    (pss_one (ps_ret (pe_cal c_l_any_names hr (by rfl) (pa_cons (pv 0) (pa_cons (pv 1) pa_nil)))))
    pss_nil)
    (pss_cons (ps_set (i := 3) sc__law_names.nd rfl (Or.inr rfl) (pe_op op_mod (pv 0) pe_int))
    (pss_cons (ps_set (i := 5) sc__law_names.nd rfl (Or.inr rfl) (pe_joinS K pe_str (pe_lc (own := [("_law_k", 4)]) (g := gName 4) (tt := tYes) rfl sc__law_names.nd (pi_range1 rfl T.range (pa_cons pe_int pa_nil)) (blkOk_by (N := ["_law_cell", "_law_many", "_law_letters", "_law_number", "_law_k", "_law_base", "_law_at_here", "_law_size_here", "_law_found", "_law_sign"]) (sc := defScope s__law_names) (by decide +kernel)) (fun _ _ _ _ _ => pg_name (i := 4) sc__law_names.nd rfl (Or.inl rfl)) (fun _ _ _ _ _ => pts_nil) (fun _ _ _ _ _ => (pe_ix ix_str (pv 2) (pe_op op_mod (pe_op op_mod (pe_op op_mul (pv 3) (pe_op op_add (pe_op op_mul (pv 4) (pv 4)) pe_int)) pe_int) pe_int) (fun _ _ => rfl))))))
    (pss_cons (ps_if (pt_cmpR op_eq (pe_op op_mod (pv 3) pe_int) pe_int (nomark _))
    (pss_one (ps_ret (pe_lc (own := [("_law_k", 4)]) (g := gName 4) (tt := tYes) rfl sc__law_names.nd (pi_range1 rfl T.range (pa_cons (pv 1) pa_nil)) (blkOk_by (N := ["_law_cell", "_law_many", "_law_letters", "_law_number", "_law_k", "_law_base", "_law_at_here", "_law_size_here", "_law_found", "_law_sign"]) (sc := defScope s__law_names) (by decide +kernel)) (fun _ _ _ _ _ => pg_name (i := 4) sc__law_names.nd rfl (Or.inl rfl)) (fun _ _ _ _ _ => pts_nil) (fun _ _ _ _ _ => (pe_slice sl_str (pv 5) po_none (po_some (pe_op op_add (pv 4) pe_int)))))))
    pss_nil)
    (pss_cons (ps_set (i := 6) sc__law_names.nd rfl (Or.inl rfl) (pe_op op_mod (pe_op op_fdiv (pv 3) pe_int) pe_int))
    (pss_cons (ps_set (i := 7) sc__law_names.nd rfl (Or.inl rfl) (pe_op op_add (pe_op op_add (pv 6) pe_int) (pe_op op_mod (pe_op op_fdiv (pv 3) pe_int) (pe_op op_sub pe_int (pv 6)))))
    (pss_cons (ps_set (i := 8) sc__law_names.nd rfl (Or.inl rfl) (pe_lst pa_nil))
    (pss_cons (ps_for PassesOwn.never rfl (pi_range1 rfl T.range (pa_cons (pv 1) pa_nil)) (pg_name (i := 4) sc__law_names.nd rfl (Or.inl rfl))
    (pss_cons (ps_set (i := 9) sc__law_names.nd rfl (Or.inl rfl) (pe_ix ix_str (pv 2) (pe_op op_mod (pe_op op_add (pe_op op_fdiv (pv 3) pe_int) (pv 4)) pe_int) (fun _ _ => rfl)))
    (pss_one (ps_expr (pe_app K (pv 8) (pe_slice sl_str (pe_op op_addS (pe_op op_addS (pe_slice sl_str (pv 5) po_none (po_some (pv 6))) (pv 9)) (pe_slice sl_str (pv 5) (po_some (pe_op op_add (pv 6) pe_int)) po_none)) po_none (po_some (pv 7))))))))
    (pss_one (ps_ret (pv 8)))))))))))), fun as h => ?_⟩
  obtain ⟨c, rfl⟩ := h
  refine sd_seq (sd_set ev_str ?_)
  refine sd_seq (sd_if (et_test (ev_op ev_v (ev_op ev_int ev_int (rop_ic (C := CPow) (g := fun i j => i ^ j.toNat) (show CPow 10 18 from ⟨by decide, by decide, by decide⟩))) rop_ib)) (fun hb => ?_) fun hb => sd_next ?_)
  · exact sd_retX (ea_cons ev_v (ea_cons ev_v ea_nil)) ⟨c, rfl⟩ fun r hr => hr
  · obtain ⟨n, hn⟩ : ∃ n : Nat, c % 1000003 = (n : Int) := ⟨_, (Int.toNat_of_nonneg (Int.emod_nonneg c (by decide))).symm⟩
    have hnb : n < 1000003 := by
      have := Int.emod_lt_of_pos c (show (0 : Int) < 1000003 by decide)
      omega
    refine sd_seq (sd_set (d := nat n) (Ev.to (ev_op ev_v ev_int (rop_ic (by decide))) (by rw [hn])) ?_)
    have h26 : ∀ z : Int, 0 ≤ z % 26 ∧ z % 26 < 26 := fun z => ⟨Int.emod_nonneg _ (by decide), Int.emod_lt_of_pos _ (by decide)⟩
    -- the base: eight letters
    let bs : List Nat := (List.range 8).map fun (k : Nat) => 97 + ((n : Int) * ((k : Int) * (k : Int) + 7) % 10007 % 26).toNat
    have hbl : bs.length = 8 := by simp [bs]
    have hbw : LW bs := fun x hx => by
      obtain ⟨k, _, rfl⟩ := List.mem_map.mp hx
      have := h26 ((n : Int) * ((k : Int) * (k : Int) + 7) % 10007)
      omega
    have hj : Txt.join "" ((bs.map fun c => [c]).map SX.S) = SX.S bs := by
      have h := SX.join_S [] (bs.map fun c => [c])
      rw [joinL_one] at h
      exact h
    refine sd_seq (sd_set (d := .str (SX.S bs)) (Ev.to (ev_join (s := "") (l := (bs.map fun c => [c]).map SX.S) ev_str (EvN.l (EvN.to (evn_lcR (n := 8) (fun k => .str (SX.S [97 + ((n : Int) * ((k : Int) * (k : Int) + 7) % 10007 % 26).toNat])) (eds_cons ev_int eds_nil) (by decide) fun k hk => ?_) (by first | (simp [bs, List.map_map]; done) | (simp [bs, List.map_map]; rfl)))) (by rw [SX.lens, sum_ones, hbl, List.length_map, List.length_map, hbl]; decide)) (by rw [hj])) ?_)
    · exact ev_letter ev_v (ev_op (ev_op (ev_op (x := .d (nat n)) ev_v (ev_op (ev_op ev_v ev_v (rop_ic (.inl ⟨by omega, by omega⟩))) ev_int rop_i) (rop_ic (.inl ⟨by omega, by omega⟩))) ev_int (rop_ic (by decide))) ev_int (rop_ic (by decide))) (h26 _).1 (h26 _).2
    generalize bs = bs at hbl hbw
    have hSl : (SX.S bs).length = 8 := by rw [SX.S_len, hbl]
    refine sd_seq (sd_if (et_test (ev_op (ev_op (x := .d (nat n)) ev_v ev_int (rop_ic (by decide))) ev_int rop_eqI)) (fun hb => ?_) fun hb => sd_next ?_)
    · refine sd_retN (evn_lcR (n := 8) (fun k => .str (SX.S (bs.take (k + 1)))) (eds_cons ev_v eds_nil) (by decide) fun k hk => ?_) ⟨(List.range 8).map fun k => SX.S (bs.take (k + 1)), by simp, ?_, ?_, by rw [List.map_map]; rfl⟩
      · refine Ev.to (ev_slS (s := SX.S bs) (hi := some ((k + 1 : Nat) : Int)) ev_v eo_none (eo_some (Ev.to (ev_op ev_v ev_int rop_i) (by rw [Int.natCast_add] <;> rfl))) (by rw [hSl]; decide)) ?_
        rw [cutS_S, cut_to]
      · refine nodup_map List.nodup_range fun a b ha hb e => ?_
        have := congrArg List.length (SX.S_inj e)
        rw [List.length_take, List.length_take, hbl] at this
        rw [List.mem_range] at ha hb
        omega
      · intro x hx
        obtain ⟨k, hk, rfl⟩ := List.mem_map.mp hx
        rw [List.mem_range] at hk
        exact ⟨bs.take (k + 1), rfl, by rw [List.length_take]; omega, by rw [List.length_take]; omega, fun c hc => hbw c (List.mem_of_mem_take hc)⟩
    · have e1 : (n : Int) / 2 % 8 = ((n / 2 % 8 : Nat) : Int) := by rw [Int.natCast_emod, Int.natCast_ediv] <;> rfl
      refine sd_seq (sd_set (d := nat (n / 2 % 8)) (Ev.to (ev_op (ev_op (x := .d (nat n)) ev_v ev_int (rop_ic ⟨by decide, by decide⟩)) ev_int (rop_ic (by decide))) (by rw [e1])) ?_)
      have ha8 : n / 2 % 8 < 8 := Nat.mod_lt _ (by decide)
      generalize n / 2 % 8 = a at ha8
      have e2 : (a : Int) + 1 + (n : Int) / 16 % (8 - (a : Int)) = ((a + 1 + n / 16 % (8 - a) : Nat) : Int) := by
        have : (8 : Int) - (a : Int) = ((8 - a : Nat) : Int) := by omega
        rw [this]
        simp [Int.natCast_add, Int.natCast_emod, Int.natCast_ediv]
      refine sd_seq (sd_set (d := nat (a + 1 + n / 16 % (8 - a))) (Ev.to (ev_op (ev_op (x := .d (nat a)) ev_v ev_int rop_i) (ev_op (ev_op (x := .d (nat n)) ev_v ev_int (rop_ic ⟨by decide, by decide⟩)) (ev_op ev_int ev_v rop_i) (rop_ic (by omega))) rop_i) (by rw [e2])) ?_)
      have hz : a + 1 + n / 16 % (8 - a) ≤ 8 := by
        have := Nat.mod_lt (n / 16) (show 0 < 8 - a by omega)
        omega
      have hz1 : a < a + 1 + n / 16 % (8 - a) := by omega
      generalize a + 1 + n / 16 % (8 - a) = sz at hz hz1
      refine sd_seq (sd_setN (evn_lst eds_nil (by decide)) ?_)
      let sg : Nat → Nat := fun k => 97 + (((n : Int) / 128 + (k : Int)) % 26).toNat
      let wd : Nat → List Nat := fun k => (bs.take a ++ [sg k] ++ bs.drop (a + 1)).take sz
      have hwl : ∀ k, (wd k).length = sz := fun k => by
        simp only [wd]
        rw [List.length_take, List.length_append, List.length_append, List.length_take, List.length_drop, hbl]
        simp
        omega
      have hsg : ∀ k, 97 ≤ sg k ∧ sg k < 123 := fun k => by
        have := h26 ((n : Int) / 128 + (k : Int))
        simp only [sg]
        omega
      have hat : ∀ k, (wd k)[a]? = some (sg k) := fun k => by
        simp only [wd]
        rw [List.getElem?_take_of_lt hz1, List.append_assoc, List.getElem?_append_right (by rw [List.length_take]; omega), List.length_take, hbl, Nat.min_eq_left (by omega), Nat.sub_self]
        rfl
      have hww : ∀ k, LW (wd k) := fun k c hc => by
        have hc := List.mem_of_mem_take hc
        rcases List.mem_append.mp hc with hc | hc
        · rcases List.mem_append.mp hc with hc | hc
          · exact hbw c (List.mem_of_mem_take hc)
          · rw [List.mem_singleton.mp hc]; exact hsg k
        · exact hbw c (List.mem_of_mem_drop hc)
      refine sd_seq (sd_forR (n := 8) (fun i ss => ∃ (z1 z2 : Sl), ss = [.a (.d (.int c)), .a (.d (nat 8)), .a (.d (.str "abcdefghijklmnopqrstuvwxyz")), .a (.d (nat n)), z1, .a (.d (.str (SX.S bs))), .a (.d (nat a)), .a (.d (nat sz)), .own (((List.range i).map fun k => SX.S (wd k)).map .str), z2])
        (eds_cons ev_v eds_nil) (by decide) ⟨.no, .no, rfl⟩ ?_ ?_)
      · rintro i ss' hi ⟨z1, z2, rfl⟩
        refine sd_seq (sd_set (d := .str (SX.S [sg i])) (ev_letter ev_v (ev_op (ev_op (ev_op (x := .d (nat n)) ev_v ev_int (rop_ic ⟨by decide, by decide⟩)) ev_v rop_i) ev_int (rop_ic (by decide))) (h26 _).1 (h26 _).2) ?_)
        have l1 : (SX.S (bs.take a)).length ≤ 8 := by rw [SX.S_len, List.length_take]; omega
        have l2 : (SX.S (bs.drop (a + 1))).length ≤ 8 := by rw [SX.S_len, List.length_drop]; omega
        have k1 : ∀ {ss : List Sl}, Ev K (tVar 5) ss (.d (.str (SX.S bs))) → Ev K (tVar 6) ss (.d (nat a)) → Ev K (tSl rSlS (tVar 5) tNoPart (tPart (tVar 6))) ss (.d (.str (SX.S (bs.take a)))) := fun h h2 => (ev_slS h eo_none (eo_some h2) (by rw [hSl]; decide)).to (by rw [cutS_S, cut_to])
        have k2 : ∀ {ss : List Sl}, Ev K (tVar 5) ss (.d (.str (SX.S bs))) → Ev K (tVar 6) ss (.d (nat a)) → Ev K (tSl rSlS (tVar 5) (tPart (tOp (rI0 fun i j => .int (i + j)) (tVar 6) (tC (.int 1)))) tNoPart) ss (.d (.str (SX.S (bs.drop (a + 1))))) := fun h h2 => (ev_slS h (eo_some (Ev.to (y := .d (nat (a + 1))) (ev_op h2 ev_int rop_i) (by rw [← nat_add] <;> rfl))) eo_none (by rw [hSl]; decide)).to (by rw [cutS_S, cut_from])
        refine sd_app rfl (d := .str (SX.S (wd i))) (Ev.to (ev_slS (s := SX.S (bs.take a ++ [sg i] ++ bs.drop (a + 1))) (Ev.to (ev_op (ev_op (k1 ev_v ev_v) ev_v (rop_addS (s' := SX.S [sg i]) (by rw [SX.S_len [sg i]]; simp; omega))) (k2 ev_v ev_v) (rop_addS (by rw [SX.S_cat, SX.S_len, List.length_append, List.length_take]; simp; omega))) (by rw [SX.S_cat, SX.S_cat])) eo_none (eo_some ev_v) (by rw [SX.S_len, List.length_append, List.length_append, List.length_take, List.length_drop]; simp; omega)) (by rw [cutS_S, cut_to])) (by simp; omega) ⟨_, _, by rw [List.range_succ, List.map_append, List.map_append] <;> rfl⟩
      · rintro ss' ⟨z1, z2, rfl⟩
        refine sd_retO rfl ⟨(List.range 8).map fun k => SX.S (wd k), by simp, ?_, ?_, rfl⟩
        · refine nodup_map List.nodup_range fun x y hx hy e => ?_
          have e1 := SX.S_inj e
          have e2 : some (sg x) = some (sg y) := by rw [← hat x, ← hat y, e1]
          have e3 := Option.some.inj e2
          have b1 := h26 ((n : Int) / 128 + (x : Int))
          have b2 := h26 ((n : Int) / 128 + (y : Int))
          rw [List.mem_range] at hx hy
          simp only [sg] at e3
          omega
        · intro x hx
          obtain ⟨k, hk, rfl⟩ := List.mem_map.mp hx
          exact ⟨wd k, rfl, by rw [hwl]; omega, by rw [hwl]; omega, hww k⟩
end
end G
namespace G
open PySem L2
open Evl (Ex)
section
variable {K : PySem.W.Frag} {ss : List Sl} {te ti : TE}
theorem ev_addN {a b : Nat} (h : Ev K te ss (.d (nat a))) (h2 : Ev K ti ss (.d (nat b))) : Ev K (tOp (rI0 fun i j => .int (i + j)) te ti) ss (.d (nat (a + b))) := (ev_op h h2 rop_i).to (by rw [nat_add])
theorem ev_modN {a b : Nat} (h : Ev K te ss (.d (nat a))) (h2 : Ev K ti ss (.d (nat b))) (hb : 0 < b) : Ev K (tOp (rI (fun _ j => 0 < j) fun i j => .int (i % j)) te ti) ss (.d (nat (a % b))) :=
  (ev_op h h2 (rop_ic (by omega))).to (by rw [← show ((a % b : Nat) : Int) = (a : Int) % (b : Int) from Int.natCast_emod _ _])
theorem ev_divN {a b : Nat} (h : Ev K te ss (.d (nat a))) (h2 : Ev K ti ss (.d (nat b))) (hb : 0 < b) (hb2 : b < 1073741824) : Ev K (tOp (rI CDiv fun i j => .int (i / j)) te ti) ss (.d (nat (a / b))) :=
  (ev_op h h2 (rop_ic ⟨by omega, by omega⟩)).to (by rw [← show ((a / b : Nat) : Int) = (a : Int) / (b : Int) from Int.natCast_ediv _ _])
theorem ev_mulN {a b : Nat} (h : Ev K te ss (.d (nat a))) (h2 : Ev K ti ss (.d (nat b))) (ha : a < 1000) (hb : b < 1000) : Ev K (tOp (rI CMul fun i j => .int (i * j)) te ti) ss (.d (nat (a * b))) :=
  (ev_op h h2 (rop_ic (.inl ⟨by omega, by omega⟩))).to (by rw [← show ((a * b : Nat) : Int) = (a : Int) * (b : Int) from Int.natCast_mul _ _])
theorem ev_n (n : Nat) : Ev K (tC (.int (n : Int))) ss (.d (nat n)) := ev_int
theorem ev_nthL {xs : List Nat} {k : Nat} (h : Ev K te ss (.l (xs.map nat))) (h2 : Ev K ti ss (.d (nat k))) (hk : k < xs.length) : Ev K (tOp (rIxL K) te ti) ss (.d (nat (xs.getD k 0))) :=
  ev_op h h2 (rop_ixL (atI_nat (by rw [List.getElem?_map, List.getElem?_eq_getElem hk, List.getD_eq_getElem?_getD, List.getElem?_eq_getElem hk]; rfl)))
theorem ev_nthS {xs : List Str} {k : Nat} (h : Ev K te ss (.l (xs.map .str))) (h2 : Ev K ti ss (.d (nat k))) (hk : k < xs.length) : Ev K (tOp (rIxL K) te ti) ss (.d (.str (xs.getD k ""))) :=
  ev_op h h2 (rop_ixL (atI_nat (by rw [List.getElem?_map, List.getElem?_eq_getElem hk, List.getD_eq_getElem?_getD, List.getElem?_eq_getElem hk]; rfl)))
theorem ev_lenL {α : Type} {e : α → D} {ks : List α} (h : Ev K te ss (.l (ks.map e))) : Ev K (tCB (Evl.rLenS K) (tCons te tNil)) ss (.d (nat ks.length)) := ev_cb (ea_cons h ea_nil) rcl_lenLm
theorem ev_lenT {α : Type} {e : α → D} {ks : List α} {fr : Bool} (h : Ev K te ss (.d (.tu fr (ks.map e)))) : Ev K (tCB (Evl.rLenS K) (tCons te tNil)) ss (.d (nat ks.length)) := ev_cb (ea_cons h ea_nil) rcl_lenTm
theorem ev_tupL {xs : List D} (h : Ev K te ss (.l xs)) : Ev K (tCB (rTupS K) (tCons te tNil)) ss (.d (.tup xs)) := ev_cb (ea_cons h ea_nil) rcl_tupL
theorem getD_mem {α : Type} {l : List α} {k : Nat} {d : α} (h : k < l.length) : l.getD k d ∈ l := by
  rw [List.getD_eq_getElem?_getD, List.getElem?_eq_getElem h]
  exact List.getElem_mem h
end
section
variable {P : Program} {w : World} {K : PySem.W.Frag} {mg : Str → Option Value} {base : Heap} {f : Addr} {fd : FuncData}
/-! ### _law_machine -/
def lawMach (xs : List Nat) (n : Nat) (forms names : List Str) : M where
  forms := forms
  names := names
  starts := (List.range (names.length + 1)).map fun k => xs.getD k 0 % n
  marks := (List.range n).map fun k => xs.getD (names.length + 1 + k) 0 % (1 * 2 ^ forms.length)
  steps := (List.range n).map fun p => (List.range n).map fun q => xs.getD (names.length + 1 + n + n * p + q) 0 % n
theorem lawMach_ok {xs : List Nat} {n : Nat} {forms names : List Str} (h1 : 1 ≤ n) (h2 : n ≤ 64) (hf : forms.length ≤ 64) (hn : names.length ≤ 64) (nd : names.Nodup) : (lawMach xs n forms names).Ok n where
  st := by simp [lawMach]
  sb s hs := by
    simp only [lawMach, List.mem_map] at hs
    obtain ⟨k, _, rfl⟩ := hs
    exact Nat.mod_lt _ h1
  sp := by simp [lawMach]
  rl r hr := by
    simp only [lawMach, List.mem_map] at hr
    obtain ⟨k, _, rfl⟩ := hr
    simp
  rb r hr s hs := by
    simp only [lawMach, List.mem_map] at hr
    obtain ⟨k, _, rfl⟩ := hr
    obtain ⟨k, _, rfl⟩ := List.mem_map.mp hs
    exact Nat.mod_lt _ h1
  ml := by simp [lawMach]
  n0 := h1
  nz := h2
  az := hn
  fz := hf
  nd := nd
def preMach (as : List A) (r : R) : Prop := ∃ (xs : List Nat) (n : Nat) (forms names : List Str), 34 ≤ xs.length ∧ 1 ≤ n ∧ n ≤ 3 ∧ forms.length ≤ 2 ∧ names.length ≤ 2 ∧ as = [.l (xs.map nat), .d (nat n), .l (forms.map .str), .l (names.map .str)] ∧ r = .d (lawMach xs n forms names).d
theorem sc__law_machine : FnScope ["_law_xs", "_law_many", "_law_forms_here", "_law_names_here", "_law_top", "_law_starts", "_law_marks", "_law_steps", "_law_p", "_law_k", "_law_q"] ["_law_xs", "_law_many", "_law_forms_here", "_law_names_here"] (defScope s__law_machine) := ⟨rfl, rfl, rfl, by decide +kernel, rfl, by decide +kernel, by decide +kernel⟩
theorem ok_law_machine (F : FnP K "_law_machine" "_law_machine" s__law_machine f fd) (T : Txt mg) : FnOk P w K mg base CX0 1 f fd ["_law_xs", "_law_many", "_law_forms_here", "_law_names_here"] (spD K preMach) := by
  refine fnD F sc__law_machine (n := 7) rfl (fun as r h => by obtain ⟨xs, n, fs, ns, _, _, _, _, _, rfl, _⟩ := h; rfl) fun cdv A outer s H E hr => ⟨_,
    (pss_cons (ps_set (i := 4) sc__law_machine.nd rfl (Or.inr rfl) (pe_op op_add (pe_callB (call_lenK K) (by rfl) T.len PySem.boot_len (pa_cons (pv 3) pa_nil)) pe_int))
    (pss_cons (ps_set (i := 5) sc__law_machine.nd rfl (Or.inl rfl) (pe_callTy (call_tupK K) (by rfl) T.tuple (by decide +kernel) (pa_cons (pe_lc (own := [("_law_k", 9)]) (g := gName 9) (tt := tYes) rfl sc__law_machine.nd (pi_range1 rfl T.range (pa_cons (pv 4) pa_nil)) (blkOk_by (N := ["_law_xs", "_law_many", "_law_forms_here", "_law_names_here", "_law_top", "_law_starts", "_law_marks", "_law_steps", "_law_p", "_law_k", "_law_q"]) (sc := defScope s__law_machine) (by decide +kernel)) (fun _ _ _ _ _ => pg_name (i := 9) sc__law_machine.nd rfl (Or.inl rfl)) (fun _ _ _ _ _ => pts_nil) (fun _ _ _ _ _ => (pe_op op_mod (pe_ix (ix_listK K) (pv 0) (pv 9) (fun _ _ => rfl)) (pv 1)))) pa_nil)))
    (pss_cons (ps_set (i := 6) sc__law_machine.nd rfl (Or.inl rfl) (pe_callTy (call_tupK K) (by rfl) T.tuple (by decide +kernel) (pa_cons (pe_lc (own := [("_law_k", 9)]) (g := gName 9) (tt := tYes) rfl sc__law_machine.nd (pi_range1 rfl T.range (pa_cons (pv 1) pa_nil)) (blkOk_by (N := ["_law_xs", "_law_many", "_law_forms_here", "_law_names_here", "_law_top", "_law_starts", "_law_marks", "_law_steps", "_law_p", "_law_k", "_law_q"]) (sc := defScope s__law_machine) (by decide +kernel)) (fun _ _ _ _ _ => pg_name (i := 9) sc__law_machine.nd rfl (Or.inl rfl)) (fun _ _ _ _ _ => pts_nil) (fun _ _ _ _ _ => (pe_op op_mod (pe_ix (ix_listK K) (pv 0) (pe_op op_add (pv 4) (pv 9)) (fun _ _ => rfl)) (pe_op op_shl pe_int (pe_callB (call_lenK K) (by rfl) T.len PySem.boot_len (pa_cons (pv 2) pa_nil)))))) pa_nil)))
    (pss_cons (ps_set (i := 7) sc__law_machine.nd rfl (Or.inl rfl) (pe_lst pa_nil))
    (pss_cons (ps_for PassesOwn.never rfl (pi_range1 rfl T.range (pa_cons (pv 1) pa_nil)) (pg_name (i := 8) sc__law_machine.nd rfl (Or.inr rfl))
    (pss_one (ps_expr (pe_app K (pv 7) (pe_callTy (call_tupK K) (by rfl) T.tuple (by decide +kernel) (pa_cons (pe_lc (own := [("_law_q", 10)]) (g := gName 10) (tt := tYes) rfl sc__law_machine.nd (pi_range1 rfl T.range (pa_cons (pv 1) pa_nil)) (blkOk_by (N := ["_law_xs", "_law_many", "_law_forms_here", "_law_names_here", "_law_top", "_law_starts", "_law_marks", "_law_steps", "_law_p", "_law_k", "_law_q"]) (sc := defScope s__law_machine) (by decide +kernel)) (fun _ _ _ _ _ => pg_name (i := 10) sc__law_machine.nd rfl (Or.inl rfl)) (fun _ _ _ _ _ => pts_nil) (fun _ _ _ _ _ => (pe_op op_mod (pe_ix (ix_listK K) (pv 0) (pe_op op_add (pe_op op_add (pe_op op_add (pv 4) (pv 1)) (pe_op op_mul (pv 1) (pv 8))) (pv 10)) (fun _ _ => rfl)) (pv 1)))) pa_nil))))))
    (pss_one (ps_ret (pe_tup (pa_cons (pe_callTy (call_tupK K) (by rfl) T.tuple (by decide +kernel) (pa_cons (pv 2) pa_nil)) (pa_cons (pe_callTy (call_tupFK K) (by rfl) T.tuple (by decide +kernel) (pa_cons (pv 3) pa_nil)) (pa_cons (pv 5) (pa_cons (pe_callTy (call_tupK K) (by rfl) T.tuple (by decide +kernel) (pa_cons (pv 7) pa_nil)) (pa_cons (pv 6) pa_nil))))))))))))), fun as r h => ?_⟩
  obtain ⟨xs, n, fs, ns, hx, h1, h3, hf, hn, rfl, rfl⟩ := h
  refine sd_seq (sd_set (d := nat (ns.length + 1)) (ev_addN (ev_lenL (ks := ns) ev_v) (ev_n 1)) ?_)
  refine sd_seq (sd_set (d := .tup ((lawMach xs n fs ns).starts.map nat)) (ev_tupL (EvN.l (EvN.to (evn_lcR (n := ns.length + 1) (fun k => nat (xs.getD k 0 % n)) (eds_cons ev_v eds_nil) (by omega) fun k hk => ?_) (by simp only [lawMach, List.map_map] <;> rfl)))) ?_)
  · exact ev_modN (ev_nthL (k := k) ev_v ev_v (by omega)) ev_v (by omega)
  have hp : 0 < 1 * 2 ^ fs.length := by
    rw [Nat.one_mul]
    exact Nat.pow_pos (by decide)
  refine sd_seq (sd_set (d := .tup ((lawMach xs n fs ns).marks.map nat)) (ev_tupL (EvN.l (EvN.to (evn_lcR (n := n) (fun k => nat (xs.getD (ns.length + 1 + k) 0 % (1 * 2 ^ fs.length))) (eds_cons ev_v eds_nil) (by omega) fun k hk => ?_) (by simp only [lawMach, List.map_map] <;> rfl)))) ?_)
  · refine ev_modN (ev_nthL (k := ns.length + 1 + k) ev_v (ev_addN ev_v ev_v) (by omega)) (Ev.to (ev_op (z := .d (.int (1 * 2 ^ fs.length))) ev_int (ev_lenL (ks := fs) ev_v) (rop_ic (C := CPow) (g := fun i j => i * 2 ^ j.toNat) (show CPow 1 (fs.length : Int) from ⟨by omega, by omega, by decide⟩))) (by norm_cast)) hp
  refine sd_seq (sd_setN (evn_lst eds_nil (by decide)) ?_)
  refine sd_seq (sd_forR (n := n) (fun i ss => ∃ (z1 z2 z3 : Sl), ss = [.a (.l (xs.map nat)), .a (.d (nat n)), .a (.l (fs.map .str)), .a (.l (ns.map .str)), .a (.d (nat (ns.length + 1))), .a (.d (.tup ((lawMach xs n fs ns).starts.map nat))), .a (.d (.tup ((lawMach xs n fs ns).marks.map nat))), .own (((lawMach xs n fs ns).steps.take i).map rowD), z1, z2, z3])
    (eds_cons ev_v eds_nil) (by omega) ⟨.no, .no, .no, rfl⟩ ?_ ?_)
  · rintro i ss' hi ⟨z1, z2, z3, rfl⟩
    have hrow : (lawMach xs n fs ns).steps[i]? = some ((List.range n).map fun q => xs.getD (ns.length + 1 + n + n * i + q) 0 % n) := by
      simp only [lawMach]
      rw [List.getElem?_map, List.getElem?_range hi]
      rfl
    refine sd_app rfl (d := rowD ((List.range n).map fun q => xs.getD (ns.length + 1 + n + n * i + q) 0 % n)) (ev_tupL (EvN.l (EvN.to (evn_lcR (n := n) (fun q => nat (xs.getD (ns.length + 1 + n + n * i + q) 0 % n)) (eds_cons ev_v eds_nil) (by omega) fun q hq => ?_) (by rw [List.map_map] <;> rfl)))) (by simp [lawMach]; omega) ⟨_, _, _, by rw [take_map_succ hrow, List.map_append] <;> rfl⟩
    have hlt : n * i + q < 9 := by
      have : n * i ≤ 3 * 2 := Nat.mul_le_mul h3 (by omega)
      omega
    exact ev_modN (ev_nthL (k := ns.length + 1 + n + n * i + q) ev_v (ev_addN (ev_addN (ev_addN ev_v ev_v) (ev_mulN ev_v ev_v (by omega) (by omega))) ev_v) (by omega)) ev_v (by omega)
  · rintro ss' ⟨z1, z2, z3, rfl⟩
    have hl : (lawMach xs n fs ns).steps.take n = (lawMach xs n fs ns).steps := List.take_of_length_le (by simp [lawMach])
    rw [hl]
    exact sd_ret (ev_tup (xs := (lawMach xs n fs ns).parts) (eds_cons (ev_tupL ev_v) (eds_cons (ev_cb (ea_cons ev_v ea_nil) rcl_tupF) (eds_cons ev_v (eds_cons (ev_tupL ev_v) (eds_cons ev_v eds_nil))))) (by show 5 ≤ 100000; decide)) rfl
/-! ### _law_item -/
def menu (a b : Str) : List (List Item) := [[.hole], [], [.el a [.hole]], [.el a [.hole, .el b []]], [.el a [.el b [.hole]]], [.el a [.hole, .hole]], [.el a [.hole], .el b []], [.el a [.el b [], .hole]], [.el a []], [.el a [.hole]]]
def lawItem (x : Nat) (tags : List Str) : List Item := (menu (tags.getD (x % tags.length) "") (tags.getD (x / 8 % tags.length) "")).getD (x / 64 % 10) []
theorem menu_ok {a b : Str} (ha : PyData.strOk a = true) (hb : PyData.strOk b = true) : ∀ is ∈ menu a b, Item.okSs is = true ∧ Item.hts is ≤ 2 ∧ Item.fszs 1 is ≤ 40 := by
  intro is h
  simp only [menu, List.mem_cons, List.mem_nil_iff, or_false] at h
  rcases h with h | h | h | h | h | h | h | h | h | h <;> subst h <;> simp [Item.okSs, Item.okS, Item.hts, Item.ht, Item.fszs, Item.fsz, ha, hb]
def preIt (as : List A) (r : R) : Prop := ∃ (x : Nat) (tags : List Str), tags ≠ [] ∧ tags.length ≤ 100 ∧ as = [.d (nat x), .l (tags.map .str)] ∧ r = .d (.tup ((lawItem x tags).map Item.d))
theorem sc__law_item : FnScope ["_law_x", "_law_tags", "_law_a", "_law_b", "_law_hole", "_law_some"] ["_law_x", "_law_tags"] (defScope s__law_item) := ⟨rfl, rfl, rfl, by decide +kernel, rfl, by decide +kernel, by decide +kernel⟩
theorem ok_law_item (F : FnP K "_law_item" "_law_item" s__law_item f fd) (T : Txt mg) : FnOk P w K mg base CX0 1 f fd ["_law_x", "_law_tags"] (spD K preIt) := by
  refine fnD F sc__law_item (n := 4) rfl (fun as r h => by obtain ⟨x, t, _, _, rfl, _⟩ := h; rfl) fun cdv A outer s H E hr => ⟨_,
    (pss_cons (ps_set (i := 2) sc__law_item.nd rfl (Or.inl rfl) (pe_ix (ix_listK K) (pv 1) (pe_op op_mod (pv 0) (pe_callB (call_lenK K) (by rfl) T.len PySem.boot_len (pa_cons (pv 1) pa_nil))) (fun _ _ => rfl)))
    (pss_cons (ps_set (i := 3) sc__law_item.nd rfl (Or.inl rfl) (pe_ix (ix_listK K) (pv 1) (pe_op op_mod (pe_op op_fdiv (pv 0) pe_int) (pe_callB (call_lenK K) (by rfl) T.len PySem.boot_len (pa_cons (pv 1) pa_nil))) (fun _ _ => rfl)))
    (pss_cons (ps_set (i := 4) sc__law_item.nd rfl (Or.inl rfl) pe_str)
    (pss_cons (ps_set (i := 5) sc__law_item.nd rfl (Or.inl rfl) (pe_lst (pa_cons (pe_tup (pa_cons (pv 4) pa_nil)) (pa_cons (pe_tup pa_nil) (pa_cons (pe_tup (pa_cons (pe_tup (pa_cons (pv 2) (pa_cons (pe_tup (pa_cons (pv 4) pa_nil)) pa_nil))) pa_nil)) (pa_cons (pe_tup (pa_cons (pe_tup (pa_cons (pv 2) (pa_cons (pe_tup (pa_cons (pv 4) (pa_cons (pe_tup (pa_cons (pv 3) (pa_cons (pe_tup pa_nil) pa_nil))) pa_nil))) pa_nil))) pa_nil)) (pa_cons (pe_tup (pa_cons (pe_tup (pa_cons (pv 2) (pa_cons (pe_tup (pa_cons (pe_tup (pa_cons (pv 3) (pa_cons (pe_tup (pa_cons (pv 4) pa_nil)) pa_nil))) pa_nil)) pa_nil))) pa_nil)) (pa_cons (pe_tup (pa_cons (pe_tup (pa_cons (pv 2) (pa_cons (pe_tup (pa_cons (pv 4) (pa_cons (pv 4) pa_nil))) pa_nil))) pa_nil)) pa_nil))))))))
    (pss_cons (ps_set (i := 5) sc__law_item.nd rfl (Or.inl rfl) (pe_op op_cat (pv 5) (pe_lst (pa_cons (pe_tup (pa_cons (pe_tup (pa_cons (pv 2) (pa_cons (pe_tup (pa_cons (pv 4) pa_nil)) pa_nil))) (pa_cons (pe_tup (pa_cons (pv 3) (pa_cons (pe_tup pa_nil) pa_nil))) pa_nil))) (pa_cons (pe_tup (pa_cons (pe_tup (pa_cons (pv 2) (pa_cons (pe_tup (pa_cons (pe_tup (pa_cons (pv 3) (pa_cons (pe_tup pa_nil) pa_nil))) (pa_cons (pv 4) pa_nil))) pa_nil))) pa_nil)) (pa_cons (pe_tup (pa_cons (pe_tup (pa_cons (pv 2) (pa_cons (pe_tup pa_nil) pa_nil))) pa_nil)) (pa_cons (pe_tup (pa_cons (pe_tup (pa_cons (pv 2) (pa_cons (pe_tup (pa_cons (pv 4) pa_nil)) pa_nil))) pa_nil)) pa_nil)))))))
    (pss_one (ps_ret (pe_ix (ix_listK K) (pv 5) (pe_op op_mod (pe_op op_fdiv (pv 0) pe_int) pe_int) (fun _ _ => rfl))))))))), fun as r h => ?_⟩
  obtain ⟨x, tags, hne, hz, rfl, rfl⟩ := h
  have h0 : 0 < tags.length := List.length_pos_iff.mpr hne
  refine sd_seq (sd_set (ev_nthS ev_v (ev_modN ev_v (ev_lenL (ks := tags) ev_v) h0) (Nat.mod_lt _ h0)) ?_)
  refine sd_seq (sd_set (ev_nthS ev_v (ev_modN (ev_divN ev_v (ev_n 8) (by decide) (by decide)) (ev_lenL (ks := tags) ev_v) h0) (Nat.mod_lt _ h0)) ?_)
  unfold lawItem
  generalize tags.getD (x % tags.length) "" = a
  generalize tags.getD (x / 8 % tags.length) "" = b
  refine sd_seq (sd_set (d := Item.hole.d) ev_str ?_)
  have t0 : ∀ {ss : List Sl}, Ev K (tTup tNil) ss (.d (.tup [])) := ev_tup eds_nil (by decide)
  have t1 : ∀ {ss : List Sl} {te : TE} {d : D}, Ev K te ss (.d d) → Ev K (tTup (tCons te tNil)) ss (.d (.tup [d])) := fun h => ev_tup (eds_cons h eds_nil) (by show 1 ≤ 100000; decide)
  have t2 : ∀ {ss : List Sl} {te te2 : TE} {d d2 : D}, Ev K te ss (.d d) → Ev K te2 ss (.d d2) → Ev K (tTup (tCons te (tCons te2 tNil))) ss (.d (.tup [d, d2])) := fun h h2 => ev_tup (eds_cons h (eds_cons h2 eds_nil)) (by show 2 ≤ 100000; decide)
  refine sd_seq (sd_setN (xs := ((menu a b).take 6).map fun is => .tup (is.map Item.d)) (EvN.to (evn_lst (eds_cons (t1 ev_v) (eds_cons t0 (eds_cons (t1 (t2 ev_v (t1 ev_v))) (eds_cons (t1 (t2 ev_v (t2 ev_v (t2 ev_v t0)))) (eds_cons (t1 (t2 ev_v (t1 (t2 ev_v (t1 ev_v))))) (eds_cons (t1 (t2 ev_v (t2 ev_v ev_v))) eds_nil)))))) (by show 6 ≤ 100000; decide)) rfl) ?_)
  refine sd_seq (sd_setN (xs := (menu a b).map fun is => .tup (is.map Item.d)) (EvN.to (evn_op ev_v (EvN.l (evn_lst (eds_cons (t2 (t2 ev_v (t1 ev_v)) (t2 ev_v t0)) (eds_cons (t1 (t2 ev_v (t2 (t2 ev_v t0) ev_v))) (eds_cons (t1 (t2 ev_v t0)) (eds_cons (t1 (t2 ev_v (t1 ev_v))) eds_nil)))) (by show 4 ≤ 100000; decide))) (rop_cat (by show 6 + 4 ≤ 100000; decide))) rfl) ?_)
  have hlt : x / 64 % 10 < (menu a b).length := Nat.mod_lt _ (by decide)
  refine sd_ret (ev_op ev_v (ev_modN (ev_divN ev_v (ev_n 64) (by decide) (by decide)) (ev_n 10) (by decide)) (rop_ixL (d := .tup (((menu a b).getD (x / 64 % 10) []).map Item.d)) (atI_nat ?_))) rfl
  rw [List.getElem?_map, List.getElem?_eq_getElem hlt, List.getD_eq_getElem?_getD, List.getElem?_eq_getElem hlt]
  rfl
/-! ### _law_turner -/
def lawRules (xs : List Nat) (tags : List Str) : Tr := (List.range (xs.getD 1 0 % (tags.length + 1))).map fun k => (tags.getD k "", lawItem (xs.getD (2 + k) 0) tags)
def lawTr (xs : List Nat) (tags : List Str) : Tr := if xs.getD 1 0 / 8 % 2 = 1 then (lawRules xs tags).reverse else lawRules xs tags
def ruleD (q : Str × List Item) : D := .tup [.str q.1, .tup (q.2.map Item.d)]
theorem Tr.d_rules (t : Tr) : t.d = .tup (t.map ruleD) := by
  unfold Tr.d ruleD
  refine congrArg D.tup (List.map_congr_left fun q _ => ?_)
  rw [Item.ds_map]
theorem lawTr_mem {xs : List Nat} {tags : List Str} {q : Str × List Item} (h : q ∈ lawTr xs tags) : q ∈ lawRules xs tags := by
  unfold lawTr at h
  split at h
  · exact List.mem_reverse.mp h
  · exact h
theorem lawTr_names {xs : List Nat} {tags : List Str} {q : Str × List Item} (h : q ∈ lawTr xs tags) : q.1 ∈ tags := by
  obtain ⟨k, hk, rfl⟩ := List.mem_map.mp (lawTr_mem h)
  have := List.mem_range.mp hk
  have h2 := Nat.mod_lt (xs.getD 1 0) (show 0 < tags.length + 1 by omega)
  exact getD_mem (by omega)
theorem lawTr_ok {xs : List Nat} {tags : List Str} (hne : tags ≠ []) (hl : tags.length ≤ 12) (hn : tags.Nodup) (hw : ∀ x ∈ tags, PyData.strOk x = true) : (lawTr xs tags).Ok := by
  have h0 : 0 < tags.length := List.length_pos_iff.mpr hne
  have h2 := Nat.mod_lt (xs.getD 1 0) (show 0 < tags.length + 1 by omega)
  have nd : ((lawRules xs tags).map (·.1)).Nodup := by
    unfold lawRules
    rw [List.map_map]
    refine nodup_map List.nodup_range fun a b ha hb e => ?_
    rw [List.mem_range] at ha hb
    have la : a < tags.length := by omega
    have lb : b < tags.length := by omega
    have e : tags.getD a "" = tags.getD b "" := e
    rw [List.getD_eq_getElem?_getD, List.getElem?_eq_getElem la, List.getD_eq_getElem?_getD, List.getElem?_eq_getElem lb] at e
    exact (List.getElem_inj hn).mp e
  refine ⟨?_, fun q hq => ?_, ?_⟩
  · unfold lawTr
    split
    · rw [List.map_reverse]
      exact List.pairwise_reverse.mpr (List.Pairwise.imp (fun h => Ne.symm h) nd)
    · exact nd
  · obtain ⟨k, hk, rfl⟩ := List.mem_map.mp (lawTr_mem hq)
    have hk := List.mem_range.mp hk
    have hm := menu_ok (hw (tags.getD (xs.getD (2 + k) 0 % tags.length) "") (getD_mem (Nat.mod_lt _ h0))) (hw (tags.getD (xs.getD (2 + k) 0 / 8 % tags.length) "") (getD_mem (Nat.mod_lt _ h0))) (lawItem (xs.getD (2 + k) 0) tags) (getD_mem (Nat.mod_lt _ (by decide)))
    exact ⟨hw _ (getD_mem (by omega)), hm⟩
  · unfold lawTr lawRules
    split
    · rw [List.length_reverse, List.length_map, List.length_range]; omega
    · rw [List.length_map, List.length_range]; omega
def preTr (as : List A) (r : R) : Prop := ∃ (xs : List Nat) (tags : List Str), tags ≠ [] ∧ tags.length ≤ 3 ∧ 6 ≤ xs.length ∧ as = [.l (xs.map nat), .d (nat 1), .l (tags.map .str)] ∧ r = .d (lawTr xs tags).d
theorem sc__law_turner : FnScope ["_law_xs", "_law_at_here", "_law_tags", "_law_rules", "_law_k"] ["_law_xs", "_law_at_here", "_law_tags"] (defScope s__law_turner) := ⟨rfl, rfl, rfl, by decide +kernel, rfl, by decide +kernel, by decide +kernel⟩
theorem ok_law_turner (F : FnP K "_law_turner" "_law_turner" s__law_turner f fd) (T : Txt mg) (c_l_item : Cal P w K mg base "_law_item" 1 ["_law_x", "_law_tags"] (spD K preIt)) : FnOk P w K mg base CX0 2 f fd ["_law_xs", "_law_at_here", "_law_tags"] (spD K preTr) := by
  refine fnD F sc__law_turner (n := 2) rfl (fun as r h => by obtain ⟨x, t, _, _, _, rfl, _⟩ := h; rfl) fun cdv A outer s H E hr => ⟨_,
    (pss_cons (ps_set (i := 3) sc__law_turner.nd rfl (Or.inl rfl) (pe_lst pa_nil))
    (pss_cons (ps_for PassesOwn.never rfl (pi_range1 rfl T.range (pa_cons (pe_op op_mod (pe_ix (ix_listK K) (pv 0) (pv 1) (fun _ _ => rfl)) (pe_op op_add (pe_callB (call_lenK K) (by rfl) T.len PySem.boot_len (pa_cons (pv 2) pa_nil)) pe_int)) pa_nil)) (pg_name (i := 4) sc__law_turner.nd rfl (Or.inl rfl))
    (pss_one (ps_expr (pe_app K (pv 3) (pe_tup (pa_cons (pe_ix (ix_listK K) (pv 2) (pv 4) (fun _ _ => rfl)) (pa_cons (pe_cal c_l_item hr (by rfl) (pa_cons (pe_ix (ix_listK K) (pv 0) (pe_op op_add (pe_op op_add (pv 1) pe_int) (pv 4)) (fun _ _ => rfl)) (pa_cons (pv 2) pa_nil))) pa_nil)))))))
    (pss_cons (ps_if (pt_cmpR op_eq (pe_op op_mod (pe_op op_fdiv (pe_ix (ix_listK K) (pv 0) (pv 1) (fun _ _ => rfl)) pe_int) pe_int) pe_int (nomark _))
    (pss_one (ps_set (i := 3) sc__law_turner.nd rfl (Or.inl rfl) (pe_revL (pv 3))))
    pss_nil)
    (pss_one (ps_ret (pe_callTy (call_tupK K) (by rfl) T.tuple (by decide +kernel) (pa_cons (pv 3) pa_nil))))))), fun as r h => ?_⟩
  obtain ⟨xs, tags, hne, hz, hx, rfl, rfl⟩ := h
  have h0 : 0 < tags.length := List.length_pos_iff.mpr hne
  refine sd_seq (sd_setN (evn_lst eds_nil (by decide)) ?_)
  have hN : (xs.getD 1 0 % (tags.length + 1)) ≤ tags.length := by
    have := Nat.mod_lt (xs.getD 1 0) (show 0 < tags.length + 1 by omega)
    omega
  refine sd_seq (sd_forR (n := xs.getD 1 0 % (tags.length + 1)) (fun i ss => ∃ (z : Sl), ss = [.a (.l (xs.map nat)), .a (.d (nat 1)), .a (.l (tags.map .str)), .own (((lawRules xs tags).take i).map ruleD), z])
    (eds_cons (ev_modN (ev_nthL ev_v ev_v (by omega)) (ev_addN (ev_lenL (ks := tags) ev_v) (ev_n 1)) (by omega)) eds_nil) (by omega) ⟨.no, rfl⟩ ?_ ?_)
  · rintro i ss' hi ⟨z, rfl⟩
    have hrow : (lawRules xs tags)[i]? = some (tags.getD i "", lawItem (xs.getD (2 + i) 0) tags) := by
      unfold lawRules
      rw [List.getElem?_map, List.getElem?_range hi]
      rfl
    refine sd_app rfl (d := ruleD (tags.getD i "", lawItem (xs.getD (2 + i) 0) tags)) (ev_tup (xs := [.str (tags.getD i ""), .tup ((lawItem (xs.getD (2 + i) 0) tags).map Item.d)]) (eds_cons (ev_nthS ev_v ev_v (by omega)) (eds_cons (ev_call (ea_cons (ev_nthL (k := 2 + i) ev_v (ev_addN (ev_addN (a := 1) ev_v (ev_n 1)) ev_v) (by omega)) (ea_cons ev_v ea_nil)) ⟨_, tags, hne, by omega, rfl, rfl⟩) eds_nil)) (by show 2 ≤ 100000; decide)) (by simp [lawRules]; omega) ⟨_, by rw [take_map_succ hrow, List.map_append] <;> rfl⟩
  · rintro ss' ⟨z, rfl⟩
    have hl : (lawRules xs tags).take (xs.getD 1 0 % (tags.length + 1)) = lawRules xs tags := List.take_of_length_le (by simp [lawRules])
    rw [hl]
    refine sd_seq (sd_if (et_test (ev_op (ev_modN (ev_divN (ev_nthL (k := 1) ev_v ev_v (by omega)) (ev_n 8) (by decide) (by decide)) (ev_n 2) (by decide)) ev_int rop_eqI)) (fun hb => ?_) fun hb => ?_)
    · have hb := of_decide_eq_true hb
      refine sd_setN (EvN.to (evn_rev ev_v) (by rw [← List.map_reverse])) (sd_ret (ev_tupL ev_v) ?_)
      rw [Tr.d_rules]
      unfold lawTr
      rw [if_pos (by omega)]
    · have hb := of_decide_eq_false hb
      refine sd_next (sd_ret (ev_tupL ev_v) ?_)
      rw [Tr.d_rules]
      unfold lawTr
      rw [if_neg (by omega)]
/-! ### _law_doc -/
def lawDoc (xs : List Nat) (tags : List Str) : Nat → Nat → Doc
  | 0, a => .mk (tags.getD (xs.getD a 0 / 4 % tags.length) "") []
  | d + 1, a => .mk (tags.getD (xs.getD a 0 / 4 % tags.length) "") ((List.range (xs.getD a 0 % 4)).map fun k => lawDoc xs tags d ((3 * a + 1 + k) % xs.length))
theorem okSs_of : ∀ {ks : List Doc}, (∀ k ∈ ks, k.okS = true) → Doc.okSs ks = true
  | [], _ => by rw [Doc.okSs]
  | k :: ks, h => by
    rw [Doc.okSs, h k List.mem_cons_self, okSs_of fun j hj => h j (List.mem_cons_of_mem _ hj)]
    rfl
theorem sizes_of {b : Nat} : ∀ {ks : List Doc}, (∀ k ∈ ks, k.size ≤ b) → Doc.sizes ks ≤ ks.length * b
  | [], _ => by rw [Doc.sizes]; exact Nat.zero_le _
  | k :: ks, h => by
    rw [Doc.sizes, List.length_cons, Nat.succ_mul]
    have h1 := h k List.mem_cons_self
    have h2 := sizes_of fun j hj => h j (List.mem_cons_of_mem _ hj)
    omega
def szB : Nat → Nat
  | 0 => 1
  | d + 1 => 1 + 3 * szB d
theorem lawDoc_ok {xs : List Nat} {tags : List Str} (hne : tags ≠ []) (hw : ∀ x ∈ tags, PyData.strOk x = true) : ∀ d a, (lawDoc xs tags d a).okS = true ∧ (lawDoc xs tags d a).ht ≤ d + 1 ∧ (lawDoc xs tags d a).size ≤ szB d
  | 0, a => by
    rw [lawDoc, Doc.okS, Doc.okSs, Doc.ht, Doc.hts, Doc.size, Doc.sizes, hw _ (getD_mem (Nat.mod_lt _ (List.length_pos_iff.mpr hne)))]
    exact ⟨rfl, Nat.le_refl _, Nat.le_refl _⟩
  | d + 1, a => by
    have ih := lawDoc_ok (xs := xs) hne hw d
    rw [lawDoc, Doc.okS, Doc.ht, Doc.size, hw _ (getD_mem (Nat.mod_lt _ (List.length_pos_iff.mpr hne)))]
    refine ⟨?_, ?_, ?_⟩
    · rw [Bool.true_and]
      refine okSs_of fun k hk => ?_
      obtain ⟨j, _, rfl⟩ := List.mem_map.mp hk
      exact (ih _).1
    · have := Doc.hts_le (b := d + 1) (ks := (List.range (xs.getD a 0 % 4)).map fun k => lawDoc xs tags d ((3 * a + 1 + k) % xs.length)) (fun k hk => by
        obtain ⟨j, _, rfl⟩ := List.mem_map.mp hk
        exact (ih _).2.1)
      omega
    · have := sizes_of (b := szB d) (ks := (List.range (xs.getD a 0 % 4)).map fun k => lawDoc xs tags d ((3 * a + 1 + k) % xs.length)) (fun k hk => by
        obtain ⟨j, _, rfl⟩ := List.mem_map.mp hk
        exact (ih _).2.2)
      rw [List.length_map, List.length_range] at this
      have h3 : xs.getD a 0 % 4 * szB d ≤ 3 * szB d := Nat.mul_le_mul_right _ (by omega)
      rw [szB]
      omega
def preDoc (h : Nat) (as : List A) (r : R) : Prop := ∃ (xs : List Nat) (a dp : Nat) (tags : List Str), dp < h ∧ a < xs.length ∧ a < 900 ∧ xs.length < 900 ∧ tags ≠ [] ∧ as = [.l (xs.map nat), .d (nat a), .d (nat dp), .l (tags.map .str)] ∧ r = .d (lawDoc xs tags dp a).d
theorem sc__law_doc : FnScope ["_law_xs", "_law_at_here", "_law_deep", "_law_tags", "_law_x", "_law_children", "_law_k"] ["_law_xs", "_law_at_here", "_law_deep", "_law_tags"] (defScope s__law_doc) := ⟨rfl, rfl, rfl, by decide +kernel, rfl, by decide +kernel, by decide +kernel⟩
theorem ok_law_doc (h : Nat) (F : FnP K "_law_doc" "_law_doc" s__law_doc f fd) (T : Txt mg) (c_l_doc : Cal P w K mg base "_law_doc" h ["_law_xs", "_law_at_here", "_law_deep", "_law_tags"] (spD K (preDoc h))) : FnOk P w K mg base CX0 (h + 1) f fd ["_law_xs", "_law_at_here", "_law_deep", "_law_tags"] (spD K (preDoc (h + 1))) := by
  refine fnD F sc__law_doc (n := 3) rfl (fun as r h => by obtain ⟨x, a, dp, t, _, _, _, _, _, rfl, _⟩ := h; rfl) fun cdv A outer s H E hr => ⟨_,
    (pss_cons (ps_set (i := 4) sc__law_doc.nd rfl (Or.inl rfl) (pe_ix (ix_listK K) (pv 0) (pv 1) (fun _ _ => rfl)))
    (pss_cons (ps_set (i := 5) sc__law_doc.nd rfl (Or.inl rfl) (pe_lst pa_nil))
    (pss_cons (ps_if (pt_cmpR op_gt (pv 2) pe_int (nomark _))
    (pss_one (ps_for PassesOwn.never rfl (pi_range1 rfl T.range (pa_cons (pe_op op_mod (pv 4) pe_int) pa_nil)) (pg_name (i := 6) sc__law_doc.nd rfl (Or.inl rfl))
    (pss_one (ps_expr (pe_app K (pv 5) (pe_cal c_l_doc hr (by rfl) (pa_cons (pv 0) (pa_cons (pe_op op_mod (pe_op op_add (pe_op op_add (pe_op op_mul pe_int (pv 1)) pe_int) (pv 6)) (pe_callB (call_lenK K) (by rfl) T.len PySem.boot_len (pa_cons (pv 0) pa_nil))) (pa_cons (pe_op op_sub (pv 2) pe_int) (pa_cons (pv 3) pa_nil))))))))))
    pss_nil)
    (pss_one (ps_ret (pe_tup (pa_cons (pe_ix (ix_listK K) (pv 3) (pe_op op_mod (pe_op op_fdiv (pv 4) pe_int) (pe_callB (call_lenK K) (by rfl) T.len PySem.boot_len (pa_cons (pv 3) pa_nil))) (fun _ _ => rfl)) (pa_cons (pe_callTy (call_tupK K) (by rfl) T.tuple (by decide +kernel) (pa_cons (pv 5) pa_nil)) pa_nil)))))))), fun as r h => ?_⟩
  obtain ⟨xs, a, dp, tags, hd, ha, ha9, hx9, hne, rfl, rfl⟩ := h
  have h0 : 0 < tags.length := List.length_pos_iff.mpr hne
  refine sd_seq (sd_set (ev_nthL ev_v ev_v ha) ?_)
  refine sd_seq (sd_setN (evn_lst eds_nil (by decide)) ?_)
  have hfin : ∀ (n : Nat) (ks : List Doc) (z : Sl), Sd K (tRet (tTup (tCons (tOp (rIxL K) (tVar 3) (tOp (rI (fun _ j => 0 < j) fun i j => .int (i % j)) (tOp (rI CDiv fun i j => .int (i / j)) (tVar 4) (tC (.int 4))) (tCB (Evl.rLenS K) (tCons (tVar 3) tNil)))) (tCons (tCB (rTupS K) (tCons (tVar 5) tNil)) tNil)))) [.a (.l (xs.map nat)), .a (.d (nat a)), .a (.d (nat dp)), .a (.l (tags.map .str)), .a (.d (nat (xs.getD a 0))), .own (ks.map Doc.d), z] (fun _ => R.d (lawDoc xs tags dp a).d = .d .non) (· = .d (Doc.mk (tags.getD (xs.getD a 0 / 4 % tags.length) "") ks).d) noSN noSN := fun n ks z => by
    refine sd_ret (ev_tup (xs := [.str (tags.getD (xs.getD a 0 / 4 % tags.length) ""), .tup (ks.map Doc.d)]) (eds_cons (ev_nthS ev_v (ev_modN (ev_divN ev_v (ev_n 4) (by decide) (by decide)) (ev_lenL (ks := tags) ev_v) h0) (Nat.mod_lt _ h0)) (eds_cons (ev_tupL ev_v) eds_nil)) (by show 2 ≤ 100000; decide)) ?_
    rw [Doc.d_mk]
  refine sd_seq (sd_if (et_test (ev_op ev_v ev_int rop_ib)) (fun hb => ?_) fun hb => ?_)
  · have hb : (dp : Int) > 0 := of_decide_eq_true hb
    obtain ⟨e, rfl⟩ : ∃ e, dp = e + 1 := ⟨dp - 1, by omega⟩
    have h4 : xs.getD a 0 % 4 < 4 := Nat.mod_lt _ (by decide)
    have hl : 0 < xs.length := by omega
    refine sd_forR (n := xs.getD a 0 % 4) (fun i ss => ∃ (z : Sl), ss = [.a (.l (xs.map nat)), .a (.d (nat a)), .a (.d (nat (e + 1))), .a (.l (tags.map .str)), .a (.d (nat (xs.getD a 0))), .own (((List.range i).map fun k => lawDoc xs tags e ((3 * a + 1 + k) % xs.length)).map Doc.d), z])
      (eds_cons (ev_modN ev_v (ev_n 4) (by decide)) eds_nil) (by omega) ⟨.no, rfl⟩ ?_ ?_
    · rintro i ss' hi ⟨z, rfl⟩
      refine sd_app rfl (d := (lawDoc xs tags e ((3 * a + 1 + i) % xs.length)).d) (ev_call (ea_cons ev_v (ea_cons (ev_modN (ev_addN (ev_addN (ev_mulN (ev_n 3) ev_v (by decide) (by omega)) (ev_n 1)) ev_v) (ev_lenL (ks := xs) ev_v) hl) (ea_cons (Ev.to (y := .d (nat e)) (ev_op (x := .d (nat (e + 1))) ev_v ev_int rop_i) (by show G.A.d (.int _) = G.A.d (.int _); rw [show (((e + 1 : Nat) : Int) - 1) = (e : Int) by omega])) (ea_cons ev_v ea_nil)))) ⟨xs, _, e, tags, by omega, Nat.mod_lt _ hl, by have := Nat.mod_lt (3 * a + 1 + i) hl; omega, hx9, hne, rfl, rfl⟩) (by simp; omega) ⟨_, by rw [List.range_succ, List.map_append, List.map_append] <;> rfl⟩
    · rintro ss' ⟨z, rfl⟩
      have := hfin a ((List.range (xs.getD a 0 % 4)).map fun k => lawDoc xs tags e ((3 * a + 1 + k) % xs.length)) z
      rw [lawDoc] at this ⊢
      exact this
  · have hb : ¬ (dp : Int) > 0 := of_decide_eq_false hb
    obtain rfl : dp = 0 := by omega
    refine sd_next ?_
    have := hfin a [] .no
    rw [lawDoc] at this ⊢
    exact this
end
end G
/-! Places, deeds, what a deed makes of a document. -/
namespace G
open PySem L2
theorem Doc.at_app : ∀ (p q : List Nat) (x : Doc), Doc.at (p ++ q) x = (Doc.at p x).bind (Doc.at q)
  | [], q, x => by rw [List.nil_append, Doc.at]; rfl
  | i :: p, q, .mk n ks => by
    rw [List.cons_append, Doc.at, Doc.at]
    cases ks[i]? with
    | none => rfl
    | some k => exact Doc.at_app p q k
theorem Doc.at_ht : ∀ {p : List Nat} {x y : Doc}, Doc.at p x = some y → p.length + y.ht ≤ x.ht
  | [], x, y, h => by rw [Doc.at] at h; cases h; simp
  | i :: p, .mk n ks, y, h => by
    rw [Doc.at] at h
    cases hk : ks[i]? with
    | none => rw [hk] at h; cases h
    | some k =>
      rw [hk] at h
      have h1 := Doc.at_ht h
      have h2 := Doc.ht_le (List.mem_of_getElem? hk)
      rw [Doc.ht, List.length_cons]
      omega
theorem Doc.at_size : ∀ {p : List Nat} {x y : Doc}, Doc.at p x = some y → y.size ≤ x.size
  | [], x, y, h => by rw [Doc.at] at h; cases h; exact Nat.le_refl _
  | i :: p, .mk n ks, y, h => by
    rw [Doc.at] at h
    cases hk : ks[i]? with
    | none => rw [hk] at h; cases h
    | some k =>
      rw [hk] at h
      have h1 := Doc.at_size h
      have h2 := Doc.size_le (List.mem_of_getElem? hk)
      rw [Doc.size]
      omega
theorem Doc.at_okS : ∀ {p : List Nat} {x y : Doc}, x.okS = true → Doc.at p x = some y → y.okS = true
  | [], x, y, hx, h => by rw [Doc.at] at h; cases h; exact hx
  | i :: p, .mk n ks, y, hx, h => by
    rw [Doc.at] at h
    rw [Doc.okS, Bool.and_eq_true] at hx
    cases hk : ks[i]? with
    | none => rw [hk] at h; cases h
    | some k =>
      rw [hk] at h
      exact Doc.at_okS (Doc.okSs_mem hx.2 (List.mem_of_getElem? hk)) h
mutual
theorem Doc.pl_at : ∀ (x : Doc) (q p : List Nat), p ∈ x.pl q → ∃ r y, p = q ++ r ∧ Doc.at r x = some y
  | .mk n ks, q, p, h => by
    rw [Doc.pl] at h
    rcases List.mem_cons.mp h with rfl | h
    · exact ⟨[], _, by simp, by rw [Doc.at]⟩
    · obtain ⟨j, r, k, y, h1, h2, h3⟩ := Doc.pls_at ks q 0 p h
      refine ⟨(0 + j) :: r, y, h1, ?_⟩
      rw [Doc.at, Nat.zero_add, h2]
      exact h3
theorem Doc.pls_at : ∀ (ks : List Doc) (q : List Nat) (i : Nat) (p : List Nat), p ∈ Doc.pls q i ks → ∃ j r k y, p = q ++ (i + j) :: r ∧ ks[j]? = some k ∧ Doc.at r k = some y
  | [], q, i, p, h => by rw [Doc.pls] at h; cases h
  | k :: ks, q, i, p, h => by
    rw [Doc.pls] at h
    rcases List.mem_append.mp h with h | h
    · obtain ⟨r, y, h1, h2⟩ := Doc.pl_at k _ p h
      exact ⟨0, r, k, y, by rw [h1]; simp, rfl, h2⟩
    · obtain ⟨j, r, k', y, h1, h2, h3⟩ := Doc.pls_at ks q (i + 1) p h
      exact ⟨j + 1, r, k', y, by rw [h1, show i + 1 + j = i + (j + 1) by omega], by simpa using h2, h3⟩
end
/-- the document at a place that it has -/
def Doc.sub (x : Doc) (p : List Nat) : Doc := (Doc.at p x).getD (.mk "" [])
theorem Doc.sub_eq {x y : Doc} {p : List Nat} (h : Doc.at p x = some y) : x.sub p = y := by unfold Doc.sub; rw [h]; rfl
theorem Doc.eta (x : Doc) : x = .mk x.name x.kids := by cases x; rfl
inductive Dd where | put (p : List Nat) | cut (p : List Nat) | ren (p : List Nat)
def Dd.p : Dd → List Nat
  | .put p => p
  | .cut p => p
  | .ren p => p
def Dd.w : Dd → Str
  | .put _ => "put"
  | .cut _ => "cut"
  | .ren _ => "rename"
def Dd.d (e : Dd) : D := .tup [.str e.w, plD e.p]
def Dd.Ok (x : Doc) : Dd → Prop
  | .put p => ∃ q i y, p = q ++ [i] ∧ Doc.at q x = some y ∧ i ≤ y.kids.length
  | .cut p => ∃ q i y, p = q ++ [i] ∧ Doc.at q x = some y ∧ i < y.kids.length
  | .ren p => ∃ y, Doc.at p x = some y
def Dd.done (x new : Doc) (tag : Str) : Dd → Doc
  | .put p => Doc.put (.mk (x.sub p.dropLast).name ((x.sub p.dropLast).kids.take (p.getLastD 0) ++ [new] ++ (x.sub p.dropLast).kids.drop (p.getLastD 0))) p.dropLast x
  | .cut p => Doc.put (.mk (x.sub p.dropLast).name ((x.sub p.dropLast).kids.take (p.getLastD 0) ++ (x.sub p.dropLast).kids.drop (p.getLastD 0 + 1))) p.dropLast x
  | .ren p => Doc.put (.mk tag (x.sub p).kids) p x
/-- the place at which the document is made anew -/
def Dd.q : Dd → List Nat
  | .put p => p.dropLast
  | .cut p => p.dropLast
  | .ren p => p
def deedAt (c : Nat) (p : List Nat) (k : Nat) : Dd := if c % 8 < 4 ∧ k < 3 then .put (p ++ [c / 1024 % (k + 1)]) else if c % 8 = 4 ∨ p = [] then .ren p else .cut p
def deedPl (x : Doc) (c : Nat) : List Nat := (x.pl []).getD (c / 8 % (x.pl []).length) []
def lawDeed (x : Doc) (c : Nat) : Dd := deedAt c (deedPl x c) (x.sub (deedPl x c)).kids.length
theorem Doc.pl_pos (x : Doc) (p : List Nat) : 0 < (x.pl p).length := by rw [Doc.pl_len]; cases x; rw [Doc.size]; omega
theorem Doc.pl_get (x : Doc) (j : Nat) : ∃ y, Doc.at ((x.pl []).getD (j % (x.pl []).length) []) x = some y := by
  obtain ⟨r, y, h1, h2⟩ := Doc.pl_at x [] _ (getD_mem (d := []) (Nat.mod_lt j (Doc.pl_pos x [])))
  rw [List.nil_append] at h1
  rw [h1]
  exact ⟨y, h2⟩
theorem lawDeed_ok (x : Doc) (c : Nat) : (lawDeed x c).Ok x := by
  unfold lawDeed deedPl
  obtain ⟨y, hy⟩ := Doc.pl_get x (c / 8)
  generalize (x.pl []).getD (c / 8 % (x.pl []).length) [] = p at hy
  rw [Doc.sub_eq hy]
  unfold deedAt
  split
  · exact ⟨p, _, y, rfl, hy, by have := Nat.mod_lt (c / 1024) (show 0 < y.kids.length + 1 by omega); omega⟩
  · split
    · exact ⟨y, hy⟩
    · rename_i h
      have hp : p ≠ [] := fun e => h (.inr e)
      have e := List.dropLast_concat_getLast hp
      rw [← e, Doc.at_app] at hy
      cases hq : Doc.at p.dropLast x with
      | none => rw [hq] at hy; cases hy
      | some z =>
        rw [hq] at hy
        obtain ⟨n, ks⟩ := z
        have hy : Doc.at [p.getLast hp] (.mk n ks) = some y := hy
        rw [Doc.at] at hy
        refine ⟨p.dropLast, p.getLast hp, _, e.symm, hq, ?_⟩
        cases hk : ks[p.getLast hp]? with
        | none => rw [hk] at hy; cases hy
        | some k => exact (List.getElem?_eq_some_iff.mp hk).1
theorem Dd.Ok.q_at {x : Doc} {e : Dd} (h : e.Ok x) : ∃ y, Doc.at e.q x = some y := by
  cases e with
  | put p => obtain ⟨q, i, y, rfl, h, _⟩ := h; exact ⟨y, by rw [Dd.q, List.dropLast_concat]; exact h⟩
  | cut p => obtain ⟨q, i, y, rfl, h, _⟩ := h; exact ⟨y, by rw [Dd.q, List.dropLast_concat]; exact h⟩
  | ren p => exact h
theorem Doc.put_at (z : Doc) : ∀ {p : List Nat} {x y : Doc}, Doc.at p x = some y → Doc.at p (Doc.put z p x) = some z
  | [], x, y, h => by rw [Doc.put, Doc.at]
  | i :: p, .mk n ks, y, h => by
    rw [Doc.at] at h
    cases hk : ks[i]? with
    | none => rw [hk] at h; cases h
    | some k =>
      rw [hk] at h
      have hi := (List.getElem?_eq_some_iff.mp hk).1
      rw [Doc.put, hk, Doc.at]
      have : (ks.take i ++ [Doc.put z p k] ++ ks.drop (i + 1))[i]? = some (Doc.put z p k) := by
        rw [List.append_assoc, List.getElem?_append_right (by rw [List.length_take]; omega), List.length_take, Nat.min_eq_left (by omega), Nat.sub_self]
        rfl
      show ((ks.take i ++ [Doc.put z p k] ++ ks.drop (i + 1))[i]?).bind (Doc.at p) = _
      rw [this]
      exact Doc.put_at z h
theorem Doc.at_take {x y : Doc} {p : List Nat} (h : Doc.at p x = some y) (n : Nat) : ∃ z, Doc.at (p.take n) x = some z := by
  rw [← List.take_append_drop n p, Doc.at_app] at h
  cases hq : Doc.at (p.take n) x with
  | none => rw [hq] at h; cases h
  | some z => exact ⟨z, rfl⟩
theorem Doc.put_ht (z : Doc) {b : Nat} : ∀ {p : List Nat} {x y : Doc}, Doc.at p x = some y → x.ht ≤ b → p.length + z.ht ≤ b → (Doc.put z p x).ht ≤ b
  | [], x, y, h, hx, hz => by rw [Doc.put]; simpa using hz
  | i :: p, .mk n ks, y, h, hx, hz => by
    rw [Doc.at] at h
    cases hk : ks[i]? with
    | none => rw [hk] at h; cases h
    | some k =>
      rw [hk] at h
      have hkm := List.mem_of_getElem? hk
      have h0 := Doc.ht_le hkm
      rw [Doc.ht] at hx
      obtain ⟨b, rfl⟩ : ∃ c, b = c + 1 := ⟨b - 1, by omega⟩
      have h1 := Doc.put_ht z h (b := b) (by omega) (by rw [List.length_cons] at hz; omega)
      rw [Doc.put, hk, Doc.ht]
      have : Doc.hts (ks.take i ++ [Doc.put z p k] ++ ks.drop (i + 1)) ≤ b := Doc.hts_le fun j hj => by
        rcases List.mem_append.mp hj with hj | hj
        · rcases List.mem_append.mp hj with hj | hj
          · have := Doc.ht_le (List.mem_of_mem_take hj); omega
          · rw [List.mem_singleton.mp hj]; exact h1
        · have := Doc.ht_le (List.mem_of_mem_drop hj); omega
      show Doc.hts (ks.take i ++ [Doc.put z p k] ++ ks.drop (i + 1)) + 1 ≤ b + 1
      omega
theorem Doc.put_okS {z : Doc} (hz : z.okS = true) : ∀ {p : List Nat} {x y : Doc}, Doc.at p x = some y → x.okS = true → (Doc.put z p x).okS = true
  | [], x, y, h, hx => by rw [Doc.put]; exact hz
  | i :: p, .mk n ks, y, h, hx => by
    rw [Doc.at] at h
    rw [Doc.okS, Bool.and_eq_true] at hx
    cases hk : ks[i]? with
    | none => rw [hk] at h; cases h
    | some k =>
      rw [hk] at h
      have hkm := List.mem_of_getElem? hk
      have h1 := Doc.put_okS hz h (Doc.okSs_mem hx.2 hkm)
      rw [Doc.put, hk, Doc.okS, hx.1]
      refine okSs_of (ks := ks.take i ++ [Doc.put z p k] ++ ks.drop (i + 1)) fun j hj => ?_
      rcases List.mem_append.mp hj with hj | hj
      · rcases List.mem_append.mp hj with hj | hj
        · exact Doc.okSs_mem hx.2 (List.mem_of_mem_take hj)
        · rw [List.mem_singleton.mp hj]; exact h1
      · exact Doc.okSs_mem hx.2 (List.mem_of_mem_drop hj)
theorem sizes_split (ks : List Doc) (i : Nat) {k : Doc} (hk : ks[i]? = some k) : Doc.sizes ks = Doc.sizes (ks.take i) + k.size + Doc.sizes (ks.drop (i + 1)) := by
  obtain ⟨hi, e⟩ := List.getElem?_eq_some_iff.mp hk
  conv => lhs; rw [← List.take_append_drop i ks, List.drop_eq_getElem_cons hi, e]
  rw [Doc.sizes_app, Doc.sizes]
  omega
theorem Doc.put_size (z : Doc) : ∀ {p : List Nat} {x y : Doc}, Doc.at p x = some y → (Doc.put z p x).size + y.size = x.size + z.size
  | [], x, y, h => by rw [Doc.at] at h; cases h; rw [Doc.put]; omega
  | i :: p, .mk n ks, y, h => by
    rw [Doc.at] at h
    cases hk : ks[i]? with
    | none => rw [hk] at h; cases h
    | some k =>
      rw [hk] at h
      have h1 := Doc.put_size z h
      rw [Doc.put, hk, Doc.size, Doc.size, sizes_split ks i hk]
      show 1 + Doc.sizes (ks.take i ++ [Doc.put z p k] ++ ks.drop (i + 1)) + y.size = _
      rw [Doc.sizes_app, Doc.sizes_app, Doc.sizes, Doc.sizes]
      omega
theorem hts_app_le {a b : List Doc} {c : Nat} (h1 : Doc.hts a ≤ c) (h2 : Doc.hts b ≤ c) : Doc.hts (a ++ b) ≤ c := by rw [Doc.hts_app]; omega
theorem hts_take (ks : List Doc) (i : Nat) : Doc.hts (ks.take i) ≤ Doc.hts ks := Doc.hts_le fun k hk => Doc.ht_le (List.mem_of_mem_take hk)
theorem hts_drop (ks : List Doc) (i : Nat) : Doc.hts (ks.drop i) ≤ Doc.hts ks := Doc.hts_le fun k hk => Doc.ht_le (List.mem_of_mem_drop hk)
theorem sizes_td (ks : List Doc) (i : Nat) : Doc.sizes (ks.take i) + Doc.sizes (ks.drop i) = Doc.sizes ks := by
  rw [← Doc.sizes_app, List.take_append_drop]
theorem sizes_dd (ks : List Doc) (i : Nat) : Doc.sizes (ks.drop (i + 1)) ≤ Doc.sizes (ks.drop i) := by
  have := sizes_td (ks.drop i) 1
  rw [List.drop_drop] at this
  omega
theorem getLastD_concat {α : Type} (q : List α) (i d : α) : (q ++ [i]).getLastD d = i := by simp [List.getLastD_eq_getLast?]
/-- what a deed keeps -/
theorem Dd.done_ok {x new : Doc} {tag : Str} {e : Dd} (h : e.Ok x) (hx : x.okS = true) (hn : new.okS = true) (ht : PyData.strOk tag = true) (hh : new.ht ≤ 2) (hs : new.size ≤ 2) :
    (e.done x new tag).okS = true ∧ (e.done x new tag).ht ≤ x.ht + 2 ∧ (e.done x new tag).size ≤ x.size + 2 := by
  cases e with
  | put p =>
    obtain ⟨q, i, ⟨n, ks⟩, rfl, hq, hi⟩ := h
    have hy := Doc.at_okS hx hq
    have h1 := Doc.at_ht hq
    have hs0 := Doc.put_size (.mk n (ks.take i ++ [new] ++ ks.drop i)) hq
    rw [Doc.okS, Bool.and_eq_true] at hy
    rw [Doc.ht] at h1
    simp only [Dd.done, List.dropLast_concat, getLastD_concat, Doc.sub_eq hq, Doc.name, Doc.kids]
    refine ⟨Doc.put_okS ?_ hq hx, Doc.put_ht _ hq (by omega) ?_, ?_⟩
    · rw [Doc.okS, hy.1]
      refine okSs_of fun j hj => ?_
      rcases List.mem_append.mp hj with hj | hj
      · rcases List.mem_append.mp hj with hj | hj
        · exact Doc.okSs_mem hy.2 (List.mem_of_mem_take hj)
        · rw [List.mem_singleton.mp hj]; exact hn
      · exact Doc.okSs_mem hy.2 (List.mem_of_mem_drop hj)
    · rw [Doc.ht]
      have := hts_take ks i
      have := hts_drop ks i
      have : Doc.hts (ks.take i ++ [new] ++ ks.drop i) ≤ max (Doc.hts ks) 2 := hts_app_le (hts_app_le (by omega) (by rw [Doc.hts, Doc.hts]; omega)) (by omega)
      omega
    · rw [Doc.size, Doc.size, Doc.sizes_app, Doc.sizes_app, Doc.sizes, Doc.sizes] at hs0
      have := sizes_td ks i
      omega
  | cut p =>
    obtain ⟨q, i, ⟨n, ks⟩, rfl, hq, hi⟩ := h
    have hy := Doc.at_okS hx hq
    have h1 := Doc.at_ht hq
    have hs0 := Doc.put_size (.mk n (ks.take i ++ ks.drop (i + 1))) hq
    rw [Doc.okS, Bool.and_eq_true] at hy
    rw [Doc.ht] at h1
    simp only [Dd.done, List.dropLast_concat, getLastD_concat, Doc.sub_eq hq, Doc.name, Doc.kids]
    refine ⟨Doc.put_okS ?_ hq hx, Doc.put_ht _ hq (by omega) ?_, ?_⟩
    · rw [Doc.okS, hy.1]
      refine okSs_of fun j hj => ?_
      rcases List.mem_append.mp hj with hj | hj
      · exact Doc.okSs_mem hy.2 (List.mem_of_mem_take hj)
      · exact Doc.okSs_mem hy.2 (List.mem_of_mem_drop hj)
    · rw [Doc.ht]
      have := hts_take ks i
      have := hts_drop ks (i + 1)
      have : Doc.hts (ks.take i ++ ks.drop (i + 1)) ≤ Doc.hts ks := hts_app_le (by omega) (by omega)
      omega
    · rw [Doc.size, Doc.size, Doc.sizes_app] at hs0
      have := sizes_td ks i
      have := sizes_dd ks i
      omega
  | ren p =>
    obtain ⟨⟨n, ks⟩, hq⟩ := h
    have hy := Doc.at_okS hx hq
    have h1 := Doc.at_ht hq
    have hs0 := Doc.put_size (.mk tag ks) hq
    rw [Doc.okS, Bool.and_eq_true] at hy
    rw [Doc.ht] at h1
    simp only [Dd.done, Doc.sub_eq hq, Doc.name, Doc.kids]
    refine ⟨Doc.put_okS ?_ hq hx, Doc.put_ht _ hq (by omega) ?_, ?_⟩
    · rw [Doc.okS, ht, hy.2]
      rfl
    · rw [Doc.ht]
      omega
    · rw [Doc.size, Doc.size] at hs0
      omega
theorem Dd.done_at {x new : Doc} {tag : Str} {e : Dd} (h : e.Ok x) : ∃ y, Doc.at e.q (e.done x new tag) = some y := by
  obtain ⟨y, hy⟩ := h.q_at
  cases e with
  | put p => exact ⟨_, Doc.put_at _ hy⟩
  | cut p => exact ⟨_, Doc.put_at _ hy⟩
  | ren p => exact ⟨_, Doc.put_at _ hy⟩
/-! ### how far a change is looked for -/
def climb (m : M) (b a : Doc) (q : List Nat) : Nat → List (List Nat)
  | 0 => [q.take 0]
  | n + 1 => q.take (n + 1) :: if m.state (b.sub (q.take (n + 1))) = m.state (a.sub (q.take (n + 1))) then [] else climb m b a q n
def Dd.first (new : Doc) : Dd → List (List Nat)
  | .put p => new.up p
  | _ => []
def lawDue (m : M) (b a new : Doc) (e : Dd) : List (List Nat) := e.first new ++ climb m b a e.q e.q.length
def climbAt (m : M) (b a : Doc) (q : List Nat) (i : Nat) : List (List Nat) := if i ≤ q.length then climb m b a q (q.length - i) else []
theorem climbAt_step (m : M) (b a : Doc) (q : List Nat) {i : Nat} (h : i ≤ q.length) : climbAt m b a q i = q.take (q.length - i) :: if m.state (b.sub (q.take (q.length - i))) = m.state (a.sub (q.take (q.length - i))) then [] else climbAt m b a q (i + 1) := by
  unfold climbAt
  rw [if_pos h]
  by_cases e : i = q.length
  · subst e
    rw [Nat.sub_self, climb, if_neg (show ¬ q.length + 1 ≤ q.length by omega), ite_self]
  · obtain ⟨n, hn⟩ : ∃ n, q.length - i = n + 1 := ⟨q.length - i - 1, by omega⟩
    rw [hn, climb, if_pos (show i + 1 ≤ q.length by omega), show q.length - (i + 1) = n by omega]
theorem climb_len (m : M) (b a : Doc) (q : List Nat) : ∀ n, (climb m b a q n).length ≤ n + 1
  | 0 => by rw [climb]; simp
  | n + 1 => by
    rw [climb, List.length_cons]
    have := climb_len m b a q n
    split
    · simp
    · omega
end G
namespace G
open PySem L2
open Evl (Ex)
open PyProof.Rows (sortedS)
section
variable {K : PySem.W.Frag} {ss : List Sl} {te ti : TE} {N Bk Ct M : SN} {Rt : R → Prop} {t1 t2 : TS}
theorem sd_seq' (h : Sd K t1 ss M Rt Bk Ct) (k : ∀ ss', M ss' → Sd K t2 ss' N Rt Bk Ct) : Sd K (tSeq t1 t2) ss N Rt Bk Ct := fun B F H σ D ok e =>
  h B F H σ _ ok ⟨fun ss' H' σ' s ok' => k ss' s B F H' σ' D ok' e, e.rt, e.bk, e.ct⟩
theorem ev_init {q : List Nat} {i : Nat} (h : Ev K te ss (.d (plD (q ++ [i])))) : Ev K (tSl (rSlA K) te tNoPart (tPart (tUn (rU fun i => .int (-i)) (tC (.int 1))))) ss (.d (plD q)) :=
  (ev_slT (xs := (q ++ [i]).map nat) h eo_none (eo_some ev_m1)).to (by rw [cut_map, cut_init _ (by simp), List.dropLast_concat] <;> rfl)
theorem ev_lastp {q : List Nat} {i : Nat} (h : Ev K te ss (.d (plD (q ++ [i])))) : Ev K (tOp (rIxT K) te (tUn (rU fun i => .int (-i)) (tC (.int 1)))) ss (.d (nat i)) :=
  ev_ix (xs := (q ++ [i]).map nat) h ev_m1 (at_last1 (by rw [List.map_append]; simp))
theorem ev_at {K : PySem.W.Frag} {ss : List Sl} {E : XK} {t1 t2 : TE} {x y : Doc} {p : List Nat} (h1 : Ev K t1 ss (.d x.d)) (h2 : Ev K t2 ss (.d (plD p))) (h : Doc.at p x = some y) : Ev K (tCall (spD K preAt) [] E (tCons t1 (tCons t2 tNil))) ss (.d y.d) :=
  ev_call (ea_cons h1 (ea_cons h2 ea_nil)) ⟨x, y, p, h, rfl, rfl⟩
theorem sd_sorted {i : Nat} {l : List Str} (h : Ev K te ss (.l (l.map .str))) (hz : l.length < 64) (k : ∀ ys : List Str, ys.Perm l → sortedS ys = true → N (ss.set i (.own (ys.map .str)))) : Sd K (tAsg (tCB (rSortedS K) (tCons te tNil)) (gName i)) ss N Rt Bk Ct := fun B F H σ D ok e =>
  h B F H σ _ ok fun v H2 e2 r => by
    obtain ⟨a, vs, rfl, ha, hl⟩ := r
    rw [atL_strs.mp hl] at ha
    refine ⟨a, l, rfl, SqL.of ha, hz, fun ys p hp hs hn => ?_⟩
    have e3 : Ex H2 (upd H2 p (.lst (ys.map V.str))) := Evl.Ex.new hn
    exact e.nx _ _ _ (k ys hp hs) (ok.setN (e2.trans e3) (Evl.fresh_back e2 hn) upd_same (atL_strs.mpr rfl))
theorem cut_nn {α : Type} (xs : List α) (a b : Nat) (h1 : a ≤ xs.length) (h2 : b ≤ xs.length) : cut xs (some (a : Int)) (some (b : Int)) = (xs.drop a).take (b - a) := by
  unfold cut
  rw [HT.sIx_nat, HT.sIx_nat, Nat.min_eq_left h1, Nat.min_eq_left h2]
theorem evn_slTo {α : Type} {e : α → D} {xs : List α} {k : Nat} (h : Ev K te ss (.l (xs.map e))) (h2 : Ev K ti ss (.d (nat k))) : EvN K (tSl (rSlL K) te tNoPart (tPart ti)) ss ((xs.take k).map e) := (evn_slL h eo_none (eo_some h2)).to (by rw [cut_to, ← List.map_take])
theorem evn_slFrom {α : Type} {e : α → D} {xs : List α} {k : Nat} (h : Ev K te ss (.l (xs.map e))) (h2 : Ev K ti ss (.d (nat k))) : EvN K (tSl (rSlL K) te (tPart ti) tNoPart) ss ((xs.drop k).map e) := (evn_slL h (eo_some h2) eo_none).to (by rw [cut_from, ← List.map_drop])
theorem ev_slTo {α : Type} {e : α → D} {xs : List α} {k : Nat} (h : Ev K te ss (.d (.tup (xs.map e)))) (h2 : Ev K ti ss (.d (nat k))) : Ev K (tSl (rSlA K) te tNoPart (tPart ti)) ss (.d (.tup ((xs.take k).map e))) := (ev_slT h eo_none (eo_some h2)).to (by rw [cut_to, ← List.map_take])
theorem ev_slFrom {α : Type} {e : α → D} {xs : List α} {k : Nat} (h : Ev K te ss (.d (.tup (xs.map e)))) (h2 : Ev K ti ss (.d (nat k))) : Ev K (tSl (rSlA K) te (tPart ti) tNoPart) ss (.d (.tup ((xs.drop k).map e))) := (ev_slT h (eo_some h2) eo_none).to (by rw [cut_from, ← List.map_drop])
theorem ev_catM {α : Type} {e : α → D} {xs ys : List α} (h : Ev K te ss (.d (.tup (xs.map e)))) (h2 : Ev K ti ss (.d (.tup (ys.map e)))) (hz : xs.length + ys.length ≤ 100000) : Ev K (tOp (rCatA K) te ti) ss (.d (.tup ((xs ++ ys).map e))) := (ev_op h h2 (rop_catA (by simpa using hz))).to (by rw [List.map_append])
theorem ev_t1 {d : D} (h : Ev K te ss (.d d)) : Ev K (tTup (tCons te tNil)) ss (.d (.tup [d])) := ev_tup (eds_cons h eds_nil) (by show 1 ≤ 100000; decide)
theorem ev_t2 {d d2 : D} (h : Ev K te ss (.d d)) (h2 : Ev K ti ss (.d d2)) : Ev K (tTup (tCons te (tCons ti tNil))) ss (.d (.tup [d, d2])) := ev_tup (eds_cons h (eds_cons h2 eds_nil)) (by show 2 ≤ 100000; decide)
theorem ev_mkD {n : Str} {ks : List Doc} (h : Ev K te ss (.d (.str n))) (h2 : Ev K ti ss (.d (.tup (ks.map Doc.d)))) : Ev K (tTup (tCons te (tCons ti tNil))) ss (.d (Doc.mk n ks).d) := (ev_t2 h h2).to (by rw [Doc.d_mk])
end
section
variable {P : Program} {w : World} {K : PySem.W.Frag} {mg : Str → Option Value} {base : Heap} {f : Addr} {fd : FuncData}
/-! ### _law_deed -/
def preDeed (as : List A) (r : R) : Prop := ∃ (x : Doc) (c : Nat), x.ht ≤ 20 ∧ x.size ≤ 900 ∧ as = [.d x.d, .d (nat c)] ∧ r = .d (lawDeed x c).d
theorem sc__law_deed : FnScope ["_law_doc_here", "_law_cell", "_law_places_here", "_law_place", "_law_many"] ["_law_doc_here", "_law_cell"] (defScope s__law_deed) := ⟨rfl, rfl, rfl, by decide +kernel, rfl, by decide +kernel, by decide +kernel⟩
theorem ok_law_deed (F : FnP K "_law_deed" "_law_deed" s__law_deed f fd) (T : Txt mg) (c_l_places : Cal P w K mg base "_law_places" 20 ["_law_doc_here", "_law_place"] (spD K (prePl 20))) (c_l_at : Cal P w K mg base "_law_at" 1 ["_law_doc_here", "_law_place"] (spD K preAt)) :
    FnOk P w K mg base CX0 21 f fd ["_law_doc_here", "_law_cell"] (spD K preDeed) := by
  refine fnD F sc__law_deed (n := 3) rfl (fun as r h => by obtain ⟨x, c, _, _, rfl, _⟩ := h; rfl) fun cdv A outer s H E hr => ⟨_,
    (pss_cons (ps_set (i := 2) sc__law_deed.nd rfl (Or.inl rfl) (pe_cal c_l_places hr (by rfl) (pa_cons (pv 0) (pa_cons (pe_tup pa_nil) pa_nil))))
    (pss_cons (ps_set (i := 3) sc__law_deed.nd rfl (Or.inl rfl) (pe_ix (ix_listK K) (pv 2) (pe_op op_mod (pe_op op_fdiv (pv 1) pe_int) (pe_callB (call_lenK K) (by rfl) T.len PySem.boot_len (pa_cons (pv 2) pa_nil))) (fun _ _ => rfl)))
    (pss_cons (ps_set (i := 4) sc__law_deed.nd rfl (Or.inl rfl) (pe_callB (call_lenK K) (by rfl) T.len PySem.boot_len (pa_cons (pe_ix (ix_tupK K) (pe_cal c_l_at hr (by rfl) (pa_cons (pv 0) (pa_cons (pv 3) pa_nil))) pe_int (fun _ _ => rfl)) pa_nil)))
    (pss_cons (ps_if (PW.pt (pw_and (pt_cmpR op_lt (pe_op op_mod (pv 1) pe_int) pe_int (nomark _)) (pw_and1 (pt_cmpR op_lt (pv 4) pe_int (nomark _)))))
    (pss_one (ps_ret (pe_tup (pa_cons pe_str (pa_cons (pe_op (op_catK K) (pv 3) (pe_tup (pa_cons (pe_op op_mod (pe_op op_fdiv (pv 1) pe_int) (pe_op op_add (pv 4) pe_int)) pa_nil))) pa_nil)))))
    pss_nil)
    (pss_cons (ps_if (PW.pt (pw_or (pt_cmpR op_eq (pe_op op_mod (pv 1) pe_int) pe_int (nomark _)) (pw_or1 (pt_cmpR (op_eqK K hr) (pv 3) (pe_tup pa_nil) (nomark _)))))
    (pss_one (ps_ret (pe_tup (pa_cons pe_str (pa_cons (pv 3) pa_nil)))))
    pss_nil)
    (pss_one (ps_ret (pe_tup (pa_cons pe_str (pa_cons (pv 3) pa_nil)))))))))), fun as r h => ?_⟩
  obtain ⟨x, c, hh, hz, rfl, rfl⟩ := h
  refine sd_seq (sd_setN (xs := (x.pl []).map plD) (evn_call (ea_cons ev_v (ea_cons (Ev.to (y := .d (plD [])) (ev_tup eds_nil (by decide)) rfl) ea_nil)) ⟨x, [], hh, by simp, by omega, rfl, rfl⟩) ?_)
  have hj := Nat.mod_lt (c / 8) (Doc.pl_pos x [])
  obtain ⟨y, hy⟩ := Doc.pl_get x (c / 8)
  have hph := Doc.at_ht hy
  refine sd_seq (sd_set (d := plD ((x.pl []).getD (c / 8 % (x.pl []).length) [])) (ev_op ev_v (ev_modN (ev_divN ev_v (ev_n 8) (by decide) (by decide)) (ev_lenL (ks := x.pl []) ev_v) (Doc.pl_pos x [])) (rop_ixL (atI_nat ?_))) ?_)
  · rw [List.getElem?_map, List.getElem?_eq_getElem hj, List.getD_eq_getElem?_getD, List.getElem?_eq_getElem hj]
    rfl
  unfold lawDeed deedPl
  generalize (x.pl []).getD (c / 8 % (x.pl []).length) [] = p at hy hph
  obtain ⟨n, ks⟩ := y
  rw [Doc.sub_eq hy, show (Doc.mk n ks).kids.length = ks.length from rfl]
  refine sd_seq (sd_set (d := nat ks.length) (ev_lenT (ev_kids (ev_at ev_v ev_v hy))) ?_)
  refine sd_seq (sd_if (b := decide (c % 8 < 4 ∧ ks.length < 3)) (EvT.to (et_and (et_test (ev_op (ev_modN (a := c) ev_v (ev_n 8) (by decide)) ev_int rop_ib)) fun _ => et_test (ev_op ev_v ev_int rop_ib)) ?_) (fun hb => ?_) fun hb => ?_)
  · rw [Bool.eq_iff_iff, Bool.and_eq_true, decide_eq_true_eq, decide_eq_true_eq, decide_eq_true_eq]
    omega
  · have hb := of_decide_eq_true hb
    refine sd_ret (ev_t2 ev_str (ev_push (i := c / 1024 % (ks.length + 1)) ev_v (ev_modN (ev_divN ev_v (ev_n 1024) (by decide) (by decide)) (ev_addN ev_v (ev_n 1)) (by omega)) (by omega))) ?_
    unfold deedAt
    rw [if_pos hb]
    rfl
  · have hb := of_decide_eq_false hb
    refine sd_next (sd_seq (sd_if (b := decide (c % 8 = 4 ∨ p = [])) (EvT.to (et_or (et_test (ev_op (ev_modN (a := c) ev_v (ev_n 8) (by decide)) ev_int rop_eqI)) fun _ => et_test (ev_op (x := .d (plD p)) ev_v (ev_tup eds_nil (by decide)) rop_top)) ?_) (fun hb2 => ?_) fun hb2 => ?_))
    · have e4 : (((c % 8 : Nat) : Int) = 4) = (c % 8 = 4) := propext ⟨fun h => by omega, fun h => by omega⟩
      rw [Bool.eq_iff_iff, Bool.or_eq_true, decide_eq_true_eq, decide_eq_true_eq, List.isEmpty_iff]
      exact Iff.of_eq (congrArg (· ∨ p = []) e4)
    · have hb2 := of_decide_eq_true hb2
      refine sd_ret (ev_t2 ev_str ev_v) ?_
      unfold deedAt
      rw [if_neg hb, if_pos hb2]
      rfl
    · have hb2 := of_decide_eq_false hb2
      refine sd_next (sd_ret (ev_t2 ev_str ev_v) ?_)
      unfold deedAt
      rw [if_neg hb, if_neg hb2]
      rfl
/-! ### _law_done -/
def preDone (as : List A) (r : R) : Prop := ∃ (x new : Doc) (tag : Str) (e : Dd), e.Ok x ∧ x.ht ≤ 20 ∧ x.size ≤ 900 ∧ as = [.d x.d, .d e.d, .d new.d, .d (.str tag)] ∧ r = .d (e.done x new tag).d
theorem sc__law_done : FnScope ["_law_doc_here", "_law_deed_here", "_law_new", "_law_tag", "_law_word_here", "_law_place", "_law_name", "_law_children", "_law_k"] ["_law_doc_here", "_law_deed_here", "_law_new", "_law_tag"] (defScope s__law_done) := ⟨rfl, rfl, rfl, by decide +kernel, rfl, by decide +kernel, by decide +kernel⟩
theorem ok_law_done (F : FnP K "_law_done" "_law_done" s__law_done f fd) (T : Txt mg) (c_l_with : Cal P w K mg base "_law_with" 20 ["_law_doc_here", "_law_place", "_law_new"] (spD K (preWith 20))) (c_l_at : Cal P w K mg base "_law_at" 1 ["_law_doc_here", "_law_place"] (spD K preAt)) :
    FnOk P w K mg base CX0 21 f fd ["_law_doc_here", "_law_deed_here", "_law_new", "_law_tag"] (spD K preDone) := by
  refine fnD F sc__law_done (n := 5) rfl (fun as r h => by obtain ⟨x, c, _, _, _, _, _, rfl, _⟩ := h; rfl) fun cdv A outer s H E hr => ⟨_,
    (pss_cons (ps_asg (pv 1) (pg_tup rfl (pgs_cons (pg_name (i := 4) sc__law_done.nd rfl (Or.inl rfl)) (pgs_cons (pg_name (i := 5) sc__law_done.nd rfl (Or.inl rfl)) pgs_nil))))
    (pss_cons (ps_if (pt_cmpR op_eq (pv 4) pe_str (nomark _))
    (pss_one (ps_ret (pe_cal c_l_with hr (by rfl) (pa_cons (pv 0) (pa_cons (pv 5) (pa_cons (pe_tup (pa_cons (pv 3) (pa_cons (pe_ix (ix_tupK K) (pe_cal c_l_at hr (by rfl) (pa_cons (pv 0) (pa_cons (pv 5) pa_nil))) pe_int (fun _ _ => rfl)) pa_nil))) pa_nil))))))
    pss_nil)
    (pss_cons (ps_asg (pe_cal c_l_at hr (by rfl) (pa_cons (pv 0) (pa_cons (pe_slice (sl_tupK K) (pv 5) po_none (po_some (pe_un un_neg pe_int))) pa_nil))) (pg_tup rfl (pgs_cons (pg_name (i := 6) sc__law_done.nd rfl (Or.inl rfl)) (pgs_cons (pg_name (i := 7) sc__law_done.nd rfl (Or.inl rfl)) pgs_nil))))
    (pss_cons (ps_set (i := 8) sc__law_done.nd rfl (Or.inl rfl) (pe_ix (ix_tupK K) (pv 5) (pe_un un_neg pe_int) (fun _ _ => rfl)))
    (pss_cons (ps_if (pt_cmpR op_eq (pv 4) pe_str (nomark _))
    (pss_one (ps_ret (pe_cal c_l_with hr (by rfl) (pa_cons (pv 0) (pa_cons (pe_slice (sl_tupK K) (pv 5) po_none (po_some (pe_un un_neg pe_int))) (pa_cons (pe_tup (pa_cons (pv 6) (pa_cons (pe_op (op_catK K) (pe_slice (sl_tupK K) (pv 7) po_none (po_some (pv 8))) (pe_slice (sl_tupK K) (pv 7) (po_some (pe_op op_add (pv 8) pe_int)) po_none)) pa_nil))) pa_nil))))))
    pss_nil)
    (pss_one (ps_ret (pe_cal c_l_with hr (by rfl) (pa_cons (pv 0) (pa_cons (pe_slice (sl_tupK K) (pv 5) po_none (po_some (pe_un un_neg pe_int))) (pa_cons (pe_tup (pa_cons (pv 6) (pa_cons (pe_op (op_catK K) (pe_op (op_catK K) (pe_slice (sl_tupK K) (pv 7) po_none (po_some (pv 8))) (pe_tup (pa_cons (pv 2) pa_nil))) (pe_slice (sl_tupK K) (pv 7) (po_some (pv 8)) po_none)) pa_nil))) pa_nil))))))))))), fun as r h => ?_⟩
  obtain ⟨x, new, tag, e, he, hh, hz, rfl, rfl⟩ := h
  refine sd_seq (sd_two (a := .str e.w) (b := plD e.p) ev_v ?_)
  cases e with
  | ren p =>
    obtain ⟨⟨n, ks⟩, hq⟩ := he
    have h1 := Doc.at_ht hq
    rw [Doc.ht] at h1
    refine sd_seq (sd_if (b := true) (EvT.to (et_test (ev_op (x := .d (.str "rename")) ev_v ev_str rop_eqS)) (by decide +kernel)) (fun _ => ?_) fun h => nomatch h)
    refine sd_ret (ev_call (d := (Doc.put (.mk tag ks) p x).d) (ea_cons ev_v (ea_cons ev_v (ea_cons (ev_mkD ev_v (ev_kids (ev_at ev_v ev_v hq))) ea_nil))) ⟨x, _, _, p, by omega, hq, by omega, rfl, rfl⟩) ?_
    simp only [Dd.done, Doc.sub_eq hq, Doc.kids]
  | cut p =>
    obtain ⟨q, i, ⟨n, ks⟩, rfl, hq, hi⟩ := he
    have h1 := Doc.at_ht hq
    have h2 := Doc.at_size hq
    have h3 := Doc.len_le ks
    rw [Doc.ht] at h1
    rw [Doc.size] at h2
    refine sd_seq (sd_if (b := false) (EvT.to (et_test (ev_op (x := .d (.str "cut")) ev_v ev_str rop_eqS)) (by decide +kernel)) (fun h => nomatch h) fun _ => ?_)
    refine sd_next (sd_seq (sd_two (a := .str n) (b := .tup (ks.map Doc.d)) (Ev.to (ev_at (y := .mk n ks) ev_v (ev_init (i := i) ev_v) hq) (by rw [Doc.d_mk])) ?_))
    refine sd_seq (sd_set (ev_lastp (q := q) (i := i) ev_v) ?_)
    refine sd_seq (sd_if (b := true) (EvT.to (et_test (ev_op (x := .d (.str "cut")) ev_v ev_str rop_eqS)) (by decide +kernel)) (fun _ => ?_) fun h => nomatch h)
    refine sd_ret (ev_call (d := (Doc.put (.mk n (ks.take i ++ ks.drop (i + 1))) q x).d) (ea_cons ev_v (ea_cons (ev_init (i := i) ev_v) (ea_cons (ev_mkD ev_v (ev_catM (ev_slTo ev_v ev_v) (ev_slFrom ev_v (ev_addN ev_v (ev_n 1))) (by simp; omega))) ea_nil))) ⟨x, _, _, q, by omega, hq, by omega, rfl, rfl⟩) ?_
    simp only [Dd.done, List.dropLast_concat, getLastD_concat, Doc.sub_eq hq, Doc.name, Doc.kids]
  | put p =>
    obtain ⟨q, i, ⟨n, ks⟩, rfl, hq, hi⟩ := he
    have h1 := Doc.at_ht hq
    have h2 := Doc.at_size hq
    have h3 := Doc.len_le ks
    rw [Doc.ht] at h1
    rw [Doc.size] at h2
    refine sd_seq (sd_if (b := false) (EvT.to (et_test (ev_op (x := .d (.str "put")) ev_v ev_str rop_eqS)) (by decide +kernel)) (fun h => nomatch h) fun _ => ?_)
    refine sd_next (sd_seq (sd_two (a := .str n) (b := .tup (ks.map Doc.d)) (Ev.to (ev_at (y := .mk n ks) ev_v (ev_init (i := i) ev_v) hq) (by rw [Doc.d_mk])) ?_))
    refine sd_seq (sd_set (ev_lastp (q := q) (i := i) ev_v) ?_)
    refine sd_seq (sd_if (b := false) (EvT.to (et_test (ev_op (x := .d (.str "put")) ev_v ev_str rop_eqS)) (by decide +kernel)) (fun h => nomatch h) fun _ => ?_)
    refine sd_next (sd_ret (ev_call (d := (Doc.put (.mk n (ks.take i ++ [new] ++ ks.drop i)) q x).d) (ea_cons ev_v (ea_cons (ev_init (i := i) ev_v) (ea_cons (ev_mkD ev_v (ev_catM (ev_catM (ys := [new]) (ev_slTo ev_v ev_v) (ev_t1 ev_v) (by simp; omega)) (ev_slFrom ev_v ev_v) (by simp; omega))) ea_nil))) ⟨x, _, _, q, by omega, hq, by omega, rfl, rfl⟩) ?_)
    simp only [Dd.done, List.dropLast_concat, getLastD_concat, Doc.sub_eq hq, Doc.name, Doc.kids]
/-! ### _law_looked -/
def preLooked (as : List A) (r : R) : Prop := ∃ (m : M) (n : Nat) (b a new : Doc) (e : Dd), m.Ok n ∧ e.Ok b ∧ (∃ y, Doc.at e.q a = some y) ∧ b.ht ≤ 20 ∧ a.ht ≤ 25 ∧ new.ht ≤ 5 ∧ new.size ≤ 100 ∧ as = [.d m.d, .d b.d, .d a.d, .d e.d, .d new.d] ∧ r = .l ((lawDue m b a new e).map plD)
theorem sc__law_looked : FnScope ["_law_machine_here", "_law_before", "_law_after", "_law_deed_here", "_law_new", "_law_word_here", "_law_place", "_law_due", "_law_k", "_law_at_here"] ["_law_machine_here", "_law_before", "_law_after", "_law_deed_here", "_law_new"] (defScope s__law_looked) := ⟨rfl, rfl, rfl, by decide +kernel, rfl, by decide +kernel, by decide +kernel⟩
theorem ok_law_looked (F : FnP K "_law_looked" "_law_looked" s__law_looked f fd) (T : Txt mg) (c_l_state : Cal P w K mg base "_law_state" 40 ["_law_machine_here", "_law_doc_here"] (spD K (preState 40))) (c_l_at : Cal P w K mg base "_law_at" 1 ["_law_doc_here", "_law_place"] (spD K preAt))
    (c_l_below_first : Cal P w K mg base "_law_below_first" 20 ["_law_doc_here", "_law_place"] (spD K (preUp 20))) :
    FnOk P w K mg base CX0 41 f fd ["_law_machine_here", "_law_before", "_law_after", "_law_deed_here", "_law_new"] (spD K preLooked) := by
  refine fnD F sc__law_looked (n := 5) rfl (fun as r h => by obtain ⟨m, n, b, a, new, e, _, _, _, _, _, _, _, rfl, _⟩ := h; rfl) fun cdv A outer s H E hr => ⟨_,
    (pss_cons (ps_asg (pv 3) (pg_tup rfl (pgs_cons (pg_name (i := 5) sc__law_looked.nd rfl (Or.inl rfl)) (pgs_cons (pg_name (i := 6) sc__law_looked.nd rfl (Or.inl rfl)) pgs_nil))))
    (pss_cons (ps_set (i := 7) sc__law_looked.nd rfl (Or.inl rfl) (pe_lst pa_nil))
    (pss_cons (ps_if (pt_cmpR op_eq (pv 5) pe_str (nomark _))
    (pss_one (ps_set (i := 7) sc__law_looked.nd rfl (Or.inl rfl) (pe_cal c_l_below_first hr (by rfl) (pa_cons (pv 4) (pa_cons (pv 6) pa_nil)))))
    pss_nil)
    (pss_cons (ps_if (pt_cmpR op_ne (pv 5) pe_str (nomark _))
    (pss_one (ps_set (i := 6) sc__law_looked.nd rfl (Or.inl rfl) (pe_slice (sl_tupK K) (pv 6) po_none (po_some (pe_un un_neg pe_int)))))
    pss_nil)
    (pss_cons (ps_for PassesOwn.never rfl (pi_range1 rfl T.range (pa_cons (pe_op op_add (pe_callB (call_lenK K) (by rfl) T.len PySem.boot_len (pa_cons (pv 6) pa_nil)) pe_int) pa_nil)) (pg_name (i := 8) sc__law_looked.nd rfl (Or.inl rfl))
    (pss_cons (ps_set (i := 9) sc__law_looked.nd rfl (Or.inl rfl) (pe_slice (sl_tupK K) (pv 6) po_none (po_some (pe_op op_sub (pe_callB (call_lenK K) (by rfl) T.len PySem.boot_len (pa_cons (pv 6) pa_nil)) (pv 8)))))
    (pss_cons (ps_expr (pe_app K (pv 7) (pv 9)))
    (pss_one (ps_if (pt_cmpR op_eq (pe_cal c_l_state hr (by rfl) (pa_cons (pv 0) (pa_cons (pe_cal c_l_at hr (by rfl) (pa_cons (pv 1) (pa_cons (pv 9) pa_nil))) pa_nil))) (pe_cal c_l_state hr (by rfl) (pa_cons (pv 0) (pa_cons (pe_cal c_l_at hr (by rfl) (pa_cons (pv 2) (pa_cons (pv 9) pa_nil))) pa_nil))) (nomark _))
    (pss_one (ps_ret (pv 7)))
    pss_nil)))))
    (pss_one (ps_ret (pv 7)))))))), fun as r h => ?_⟩
  obtain ⟨m, n, b, a, new, e, hm, he, ⟨ya, hya⟩, hb, ha, hn, hns, rfl, rfl⟩ := h
  obtain ⟨yb, hyb⟩ := he.q_at
  have hql := Doc.at_ht hyb
  have hfl : (e.first new).length ≤ 100 := by
    cases e with
    | put p => rw [Dd.first, Doc.up_len]; exact hns
    | cut p => exact Nat.zero_le _
    | ren p => exact Nat.zero_le _
  refine sd_seq (sd_two (a := .str e.w) (b := plD e.p) ev_v ?_)
  refine sd_seq (sd_setN (evn_lst eds_nil (by decide)) ?_)
  refine sd_seq' (M := fun ss => ss = [.a (.d m.d), .a (.d b.d), .a (.d a.d), .a (.d e.d), .a (.d new.d), .a (.d (.str e.w)), .a (.d (plD e.p)), .own ((e.first new).map plD), .no, .no]) ?_ ?_
  · cases e with
    | put p =>
      obtain ⟨q, i, y, rfl, hq, _⟩ := he
      have := Doc.at_ht hq
      exact sd_if (b := true) (EvT.to (et_test (ev_op (x := .d (.str "put")) ev_v ev_str rop_eqS)) (by decide +kernel)) (fun _ => sd_setN (evn_call (ea_cons ev_v (ea_cons ev_v ea_nil)) ⟨new, q ++ [i], by omega, by simp; omega, by omega, rfl, rfl⟩) rfl) fun h => nomatch h
    | cut p => exact sd_if (b := false) (EvT.to (et_test (ev_op (x := .d (.str "cut")) ev_v ev_str rop_eqS)) (by decide +kernel)) (fun h => nomatch h) fun _ => sd_next rfl
    | ren p => exact sd_if (b := false) (EvT.to (et_test (ev_op (x := .d (.str "rename")) ev_v ev_str rop_eqS)) (by decide +kernel)) (fun h => nomatch h) fun _ => sd_next rfl
  rintro ss' rfl
  refine sd_seq' (M := fun ss => ss = [.a (.d m.d), .a (.d b.d), .a (.d a.d), .a (.d e.d), .a (.d new.d), .a (.d (.str e.w)), .a (.d (plD e.q)), .own ((e.first new).map plD), .no, .no]) ?_ ?_
  · cases e with
    | put p =>
      obtain ⟨q, i, y, rfl, hq, _⟩ := he
      refine sd_if (b := true) (EvT.to (et_test (ev_op (x := .d (.str "put")) ev_v ev_str rop_neS)) (by decide +kernel)) (fun _ => sd_set (ev_init (i := i) ev_v) ?_) fun h => nomatch h
      simp only [Dd.q, List.dropLast_concat] <;> rfl
    | cut p =>
      obtain ⟨q, i, y, rfl, hq, _⟩ := he
      refine sd_if (b := true) (EvT.to (et_test (ev_op (x := .d (.str "cut")) ev_v ev_str rop_neS)) (by decide +kernel)) (fun _ => sd_set (ev_init (i := i) ev_v) ?_) fun h => nomatch h
      simp only [Dd.q, List.dropLast_concat] <;> rfl
    | ren p => exact sd_if (b := false) (EvT.to (et_test (ev_op (x := .d (.str "rename")) ev_v ev_str rop_neS)) (by decide +kernel)) (fun h => nomatch h) fun _ => sd_next rfl
  rintro ss' rfl
  unfold lawDue
  generalize e.first new = fs at hfl
  generalize hw : D.str e.w = ew
  generalize e.d = ed
  generalize e.q = q at hya hyb hql
  refine sd_seq (sd_forR (n := q.length + 1) (fun i ss => ∃ (acc : List (List Nat)) (z1 z2 : Sl), acc ++ climbAt m b a q i = fs ++ climb m b a q q.length ∧ acc.length ≤ 200 + i ∧ ss = [.a (.d m.d), .a (.d b.d), .a (.d a.d), .a (.d ed), .a (.d new.d), .a (.d ew), .a (.d (plD q)), .own (acc.map plD), z1, z2])
    (eds_cons (ev_addN (ev_lenT (ks := q) ev_v) (ev_n 1)) eds_nil) (by omega) ⟨fs, .no, .no, by unfold climbAt; rw [if_pos (by omega), Nat.sub_zero], by omega, rfl⟩ ?_ ?_)
  · rintro i ss' hi ⟨acc, z1, z2, hacc, hal, rfl⟩
    rw [climbAt_step m b a q (by omega)] at hacc
    have hsl : q.take (q.length - i) = q.take (q.length - i) := rfl
    refine sd_seq (sd_set (d := plD (q.take (q.length - i))) (ev_slTo (xs := q) (e := nat) (k := q.length - i) ev_v (Ev.to (ev_op (ev_lenT (ks := q) (e := nat) ev_v) ev_v rop_i) ?_)) ?_)
    · show G.A.d (.int _) = G.A.d (.int _)
      rw [show ((q.length : Int) - (i : Int)) = ((q.length - i : Nat) : Int) by omega]
    obtain ⟨sb, hsb⟩ := Doc.at_take hyb (q.length - i)
    obtain ⟨sa, hsa⟩ := Doc.at_take hya (q.length - i)
    rw [Doc.sub_eq hsb, Doc.sub_eq hsa] at hacc
    have l1 := Doc.at_ht hsb
    have l2 := Doc.at_ht hsa
    refine sd_seq (sd_app rfl (d := plD (q.take (q.length - i))) ev_v (by simp; omega) ?_)
    refine sd_if (et_test (ev_op (ev_call (d := nat (m.state sb)) (ea_cons ev_v (ea_cons (ev_at ev_v ev_v hsb) ea_nil)) ⟨m, n, sb, hm, by omega, rfl, rfl⟩) (ev_call (d := nat (m.state sa)) (ea_cons ev_v (ea_cons (ev_at ev_v ev_v hsa) ea_nil)) ⟨m, n, sa, hm, by omega, rfl, rfl⟩) rop_eqI)) (fun hb => ?_) fun hb => ?_
    · have hb := of_decide_eq_true hb
      rw [if_pos (by omega)] at hacc
      refine sd_retO rfl ?_
      rw [← hacc, List.map_append]
      rfl
    · have hb := of_decide_eq_false hb
      rw [if_neg (by omega)] at hacc
      refine sd_next ⟨acc ++ [q.take (q.length - i)], _, _, by rw [← hacc, List.append_assoc] <;> rfl, by simp; omega, by rw [List.map_append] <;> rfl⟩
  · rintro ss' ⟨acc, z1, z2, hacc, hal, rfl⟩
    unfold climbAt at hacc
    rw [if_neg (by omega), List.append_nil] at hacc
    refine sd_retO rfl ?_
    rw [hacc]
/-! ### _law_began -/
def Began (m : M) (n : Nat) (t : Tr) (l : List Str) : Prop := m.Ok n ∧ m.forms.length ≤ 2 ∧ t.Ok ∧ (∀ x ∈ m.names, x ∈ l) ∧ (∀ q ∈ t, q.1 ∈ l) ∧ (l.length + 1) * (1 + n + n ^ n) ≤ 64 ∧ n ≤ 3 ∧ l.length ≤ 3 ∧ (∀ x ∈ l, Nm x) ∧ (∀ x ∈ m.forms, Nm x)
def preBegan (as : List A) : Prop := ∃ (xs : List Nat) (ws : List Str), xs.length = 40 ∧ ws.length = 8 ∧ ws.Nodup ∧ (∀ x ∈ ws, Nm x) ∧ as = [.l (xs.map nat), .l (ws.map .str)]
def postBegan (_ : List A) (r : R) : Prop := ∃ m n t l, Began m n t l ∧ r = .d (.tup [m.d, t.d])
theorem sc__law_began : FnScope ["_law_xs", "_law_words", "_law_many", "_law_names_here", "_law_turner_here"] ["_law_xs", "_law_words"] (defScope s__law_began) := ⟨rfl, rfl, rfl, by decide +kernel, rfl, by decide +kernel, by decide +kernel⟩
theorem ok_law_began (F : FnP K "_law_began" "_law_began" s__law_began f fd) (T : Txt mg) (c_l_machine : Cal P w K mg base "_law_machine" 1 ["_law_xs", "_law_many", "_law_forms_here", "_law_names_here"] (spD K preMach)) (c_l_turner : Cal P w K mg base "_law_turner" 2 ["_law_xs", "_law_at_here", "_law_tags"] (spD K preTr)) :
    FnOk P w K mg base CX0 3 f fd ["_law_xs", "_law_words"] (spX K preBegan postBegan) := by
  refine fnX F sc__law_began (n := 3) rfl (fun as h => by obtain ⟨x, c, _, _, _, _, rfl⟩ := h; rfl) fun cdv A outer s H E hr => ⟨_,
    (pss_cons (ps_set (i := 2) sc__law_began.nd rfl (Or.inl rfl) (pe_op op_add pe_int (pe_op op_mod (pe_ix (ix_listK K) (pv 0) pe_int (fun _ _ => rfl)) pe_int)))
    (pss_cons (ps_set (i := 3) sc__law_began.nd rfl (Or.inl rfl) (pe_callB cr_sortedS (by rfl) T.sorted (by decide +kernel) (pa_cons (pe_slice (sl_listK K) (pv 1) po_none (po_some (pe_op op_mod (pe_op op_fdiv (pe_ix (ix_listK K) (pv 0) pe_int (fun _ _ => rfl)) pe_int) pe_int))) pa_nil)))
    (pss_cons (ps_set (i := 4) sc__law_began.nd rfl (Or.inl rfl) (pe_cal c_l_turner hr (by rfl) (pa_cons (pv 0) (pa_cons pe_int (pa_cons (pe_slice (sl_listK K) (pv 1) po_none (po_some pe_int)) pa_nil)))))
    (pss_cons (ps_if (pt_cmpR op_eq (pe_op op_mod (pe_op op_fdiv (pe_ix (ix_listK K) (pv 0) pe_int (fun _ _ => rfl)) pe_int) pe_int) pe_int (nomark _))
    (pss_cons (ps_set (i := 2) sc__law_began.nd rfl (Or.inl rfl) pe_int)
    (pss_cons (ps_set (i := 3) sc__law_began.nd rfl (Or.inl rfl) (pe_slice (sl_listK K) (pv 1) po_none (po_some pe_int)))
    (pss_one (ps_set (i := 4) sc__law_began.nd rfl (Or.inl rfl) (pe_cal c_l_turner hr (by rfl) (pa_cons (pv 0) (pa_cons pe_int (pa_cons (pv 3) pa_nil))))))))
    pss_nil)
    (pss_one (ps_ret (pe_tup (pa_cons (pe_cal c_l_machine hr (by rfl) (pa_cons (pe_slice (sl_listK K) (pv 0) (po_some pe_int) po_none) (pa_cons (pv 2) (pa_cons (pe_slice (sl_listK K) (pv 1) (po_some pe_int) (po_some (pe_op op_add pe_int (pe_op op_mod (pe_op op_fdiv (pe_ix (ix_listK K) (pv 0) pe_int (fun _ _ => rfl)) pe_int) pe_int)))) (pa_cons (pv 3) pa_nil))))) (pa_cons (pv 4) pa_nil))))))))), fun as h => ?_⟩
  obtain ⟨xs, ws, hx, hw, nd, hnm, rfl⟩ := h
  refine sd_seq (sd_set (d := nat (1 + xs.getD 0 0 % 2)) (ev_addN (ev_n 1) (ev_modN (ev_nthL (k := 0) ev_v (ev_n 0) (by omega)) (ev_n 2) (by decide))) ?_)
  have h3 : xs.getD 0 0 / 2 % 3 ≤ 2 := by omega
  refine sd_seq (sd_sorted (l := ws.take (xs.getD 0 0 / 2 % 3)) (EvN.l (evn_slTo ev_v (ev_modN (ev_divN (ev_nthL (k := 0) ev_v (ev_n 0) (by omega)) (ev_n 2) (by decide) (by decide)) (ev_n 3) (by decide)))) (by rw [List.length_take]; omega) fun ys hp _ => ?_)
  have hyl : ys.length ≤ 2 := by rw [hp.length_eq, List.length_take]; omega
  have hyn : ys.Nodup := hp.nodup_iff.mpr (nd.sublist (List.take_sublist _ _))
  have hym : ∀ x ∈ ys, x ∈ ws.take 3 := fun x hx => (List.take_subset_take_left ws (by omega) : _ ⊆ ws.take 3) (hp.mem_iff.mp hx)
  have ht3 : ws.take 3 ≠ [] := fun e => by
    have := congrArg List.length e
    rw [List.length_take, hw] at this
    exact absurd this (by decide)
  have ht1 : ws.take 1 ≠ [] := fun e => by
    have := congrArg List.length e
    rw [List.length_take, hw] at this
    exact absurd this (by decide)
  refine sd_seq (sd_set (d := (lawTr xs (ws.take 3)).d) (ev_call (ea_cons ev_v (ea_cons (ev_n 1) (ea_cons (EvN.l (evn_slTo ev_v (ev_n 3))) ea_nil))) ⟨xs, ws.take 3, ht3, by rw [List.length_take]; omega, by omega, rfl, rfl⟩) ?_)
  -- the forms
  have hfl : (((ws.drop 5).take (1 + xs.getD 0 0 / 32 % 2))).length ≤ 2 := by rw [List.length_take]; omega
  have hfn : ∀ x ∈ (ws.drop 5).take (1 + xs.getD 0 0 / 32 % 2), Nm x := fun x hx => hnm x (List.mem_of_mem_drop (List.mem_of_mem_take hx))
  have hforms : ∀ {ss : List Sl}, Ev K (tVar 0) ss (.l (xs.map nat)) → Ev K (tVar 1) ss (.l (ws.map .str)) → Ev K (tSl (rSlL K) (tVar 1) (tPart (tC (.int 5))) (tPart (tOp (rI0 fun i j => .int (i + j)) (tC (.int 6)) (tOp (rI (fun _ j => 0 < j) fun i j => .int (i % j)) (tOp (rI CDiv fun i j => .int (i / j)) (tOp (rIxL K) (tVar 0) (tC (.int 0))) (tC (.int 32))) (tC (.int 2)))))) ss (.l (((ws.drop 5).take (1 + xs.getD 0 0 / 32 % 2)).map .str)) := fun h0 h1 =>
    (EvN.l (evn_slL h1 (eo_some (ev_n 5)) (eo_some (ev_addN (a := 6) (b := xs.getD 0 0 / 32 % 2) (ev_n 6) (ev_modN (ev_divN (ev_nthL (k := 0) h0 (ev_n 0) (by omega)) (ev_n 32) (by decide) (by decide)) (ev_n 2) (by decide)))))).to (by
      rw [cut_map, cut_nn ws 5 (6 + xs.getD 0 0 / 32 % 2) (by omega) (by omega), show 6 + xs.getD 0 0 / 32 % 2 - 5 = 1 + xs.getD 0 0 / 32 % 2 by omega])
  generalize (ws.drop 5).take (1 + xs.getD 0 0 / 32 % 2) = fs at hfl hfn hforms
  have hdl : 34 ≤ (xs.drop 6).length := by rw [List.length_drop]; omega
  refine sd_seq (sd_if (et_test (ev_op (ev_modN (ev_divN (ev_nthL (k := 0) ev_v (ev_n 0) (by omega)) (ev_n 8) (by decide) (by decide)) (ev_n 4) (by decide)) ev_int rop_eqI)) (fun hb => ?_) fun hb => ?_)
  · refine sd_seq (sd_set (ev_n 3) ?_)
    refine sd_seq (sd_setN (evn_slTo ev_v (ev_n 1)) ?_)
    have hl1 : (ws.take 1).length = 1 := by rw [List.length_take]; omega
    refine sd_set (d := (lawTr xs (ws.take 1)).d) (ev_call (ea_cons ev_v (ea_cons (ev_n 1) (ea_cons ev_v ea_nil))) ⟨xs, ws.take 1, ht1, by omega, by omega, rfl, rfl⟩) ?_
    refine sd_ret (ev_t2 (ev_call (d := (lawMach (xs.drop 6) 3 fs (ws.take 1)).d) (ea_cons (EvN.l (evn_slFrom ev_v (ev_n 6))) (ea_cons ev_v (ea_cons (hforms ev_v ev_v) (ea_cons ev_v ea_nil)))) ⟨xs.drop 6, 3, fs, ws.take 1, hdl, by decide, by decide, hfl, by omega, rfl, rfl⟩) ev_v) ?_
    have nd1 := nd.sublist (List.take_sublist 1 ws)
    refine ⟨_, 3, _, ws.take 1, ⟨lawMach_ok (by decide) (by decide) (by omega) (by omega) nd1, hfl, lawTr_ok ht1 (by omega) nd1 (fun x hx => (hnm x (List.mem_of_mem_take hx)).strOk), fun x hx => hx, fun q hq => lawTr_names hq, by rw [hl1]; decide, by decide, by omega, fun x hx => hnm x (List.mem_of_mem_take hx), hfn⟩, rfl⟩
  · have hl3 : (ws.take 3).length = 3 := by rw [List.length_take]; omega
    refine sd_next (sd_ret (ev_t2 (ev_call (d := (lawMach (xs.drop 6) (1 + xs.getD 0 0 % 2) fs ys).d) (ea_cons (EvN.l (evn_slFrom ev_v (ev_n 6))) (ea_cons ev_v (ea_cons (hforms ev_v ev_v) (ea_cons ev_v ea_nil)))) ⟨xs.drop 6, 1 + xs.getD 0 0 % 2, fs, ys, hdl, by omega, by omega, hfl, by omega, rfl, rfl⟩) ev_v) ?_)
    have nd3 := nd.sublist (List.take_sublist 3 ws)
    have hnn : 1 + xs.getD 0 0 % 2 = 1 ∨ 1 + xs.getD 0 0 % 2 = 2 := by omega
    refine ⟨_, 1 + xs.getD 0 0 % 2, _, ws.take 3, ⟨lawMach_ok (by omega) (by omega) (by omega) (by omega) hyn, hfl, lawTr_ok ht3 (by omega) nd3 (fun x hx => (hnm x (List.mem_of_mem_take hx)).strOk), hym, fun q hq => lawTr_names hq, ?_, by omega, by omega, fun x hx => hnm x (List.mem_of_mem_take hx), hfn⟩, rfl⟩
    rw [hl3]
    rcases hnn with e | e <;> rw [e] <;> decide
end
end G
/-! Dicts whose keys are nested tuples. -/
namespace G
open PySem PySem.Spec PyProof.Rows L2
open Evl (Ex)
abbrev NK := NestedKey
mutual
def D.nk : D → NK
  | .non => .none
  | .bl b => .num (if b = true then 1 else 0)
  | .int i => .num i
  | .str s => .text s
  | .tu _ l => .tup (D.nks l)
def D.nks : List D → List NK
  | [] => []
  | d :: l => d.nk :: D.nks l
end
section
variable {P : Program} {w : World} {H : Hp} {h : Heap}
theorem TupAt.isTup (ok : HOk P w H h) : ∀ {f : Bool} {a : Addr} {vs : List V}, TupAt H f a vs → ∃ its : List Value, Vals vs its ∧ IsTup h a its.toArray
  | false, a, vs, q => by
    obtain ⟨_, its, r, t⟩ := (show ObjOk P w H h a (.tup vs) from ok a _ q)
    exact ⟨its, r, t⟩
  | true, a, vs, ⟨o, q, _⟩ => by
    obtain ⟨_, _, its, r, t⟩ := (show ObjOk P w H h a (.frz o (.tup vs)) from ok a _ q)
    exact ⟨its, r, t⟩
mutual
theorem At.nested (ok : HOk P w H h) : ∀ (d : D) {v : V} {u : Value}, At H d v → RelV v u → NestedIs h d.nk u
  | .non, v, u, a, r => by
    rw [at_non.mp a] at r
    cases (show u = Value.none from r)
    rw [D.nk]; exact .none
  | .bl b, v, u, a, r => by
    rw [at_bl.mp a] at r
    cases (show u = Value.bool b from r)
    rw [D.nk]; exact .bool rfl
  | .int i, v, u, a, r => by
    rw [at_int.mp a] at r
    obtain ⟨t, e⟩ := (show ∃ t, u = Value.int i t from r)
    subst e
    rw [D.nk]; exact .int _ _
  | .str i, v, u, a, r => by
    rw [at_str.mp a] at r
    obtain ⟨t, e⟩ := (show ∃ t, u = Value.str i t from r)
    subst e
    rw [D.nk]; exact .text _ _
  | .tu f l, v, u, a, r => by
    obtain ⟨b, vs, rfl, ha, hl⟩ := at_tu.mp a
    cases (show u = Value.ref b from r)
    obtain ⟨its, rv, o, h1, h2, n, h3⟩ := ha.isTup ok
    rw [D.nk]
    exact .tup h1 h2 h3 (by simpa using AtL.nested ok l hl rv)
theorem AtL.nested (ok : HOk P w H h) : ∀ (l : List D) {vs : List V} {us : List Value}, AtL H l vs → Vals vs us → NestedAll h (D.nks l) us
  | [], vs, us, a, r => by
    rw [atL_nil.mp a] at r
    cases r
    rw [D.nks]; exact .nil
  | d :: l, vs, us, a, r => by
    obtain ⟨v, ws, rfl, h1, h2⟩ := atL_cons.mp a
    cases r with
    | cons r1 r2 =>
      rw [D.nks]
      exact .cons (At.nested ok d h1 r1) (AtL.nested ok l h2 r2)
end
/-- an entry as it is known, and as it stands -/
def EnR (H : Hp) (p : NK × V) (q : NK × Addr × Value) : Prop := p.1 = q.1 ∧ (∃ d : D, d.nk = p.1 ∧ p.1.depth ≤ 8 ∧ At H d (.ref q.2.1)) ∧ RelV p.2 q.2.2
/-- at a stands a dict with nested keys -/
def DN (P : Program) (w : World) (H : Hp) (a : Addr) (kvs : List (NK × V)) : Prop := ∃ (ob : Obj) (xs : List (NK × Addr × Value)) (es : Array DictEntry) (ep : Nat), H a = some (.ext fun h => h.get? a = some ob) ∧ (a == sysModules) = false ∧ ob.ExactDict ∧ ob.data = .dict es ep ∧
  es.toList = xs.map (entryOfKey (nestedKind P w)) ∧ (xs.map (·.1)).Nodup ∧ kvs.length ≤ sizeLine ∧ Paired (EnR H) kvs xs
theorem DN.mono {H' : Hp} {a : Addr} {kvs : List (NK × V)} (x : DN P w H a kvs) (e : H' a = H a) (t : TEx H H') : DN P w H' a kvs := by
  obtain ⟨ob, xs, es, ep, h1, h2, h3, h4, h5, h6, h7, h8⟩ := x
  exact ⟨ob, xs, es, ep, e.trans h1, h2, h3, h4, h5, h6, h7, Paired.mapP h8 fun p q ⟨e1, ⟨d, e2, e3, e4⟩, e5⟩ => ⟨e1, ⟨d, e2, e3, At.mono t d e4⟩, e5⟩⟩
theorem DN.ext {a : Addr} {kvs : List (NK × V)} (x : DN P w H a kvs) : ∃ φ, H a = some (.ext φ) := by
  obtain ⟨ob, xs, es, ep, h1, _⟩ := x
  exact ⟨_, h1⟩
theorem En.vals {kvs : List (NK × V)} {xs : List (NK × Addr × Value)} (r : Paired (EnR H) kvs xs) (k : NK) : RelO (valV kvs k) ((atKey xs k).map (·.2)) := by
  induction r with
  | nil => exact True.intro
  | @cons p q ps qs hq t ih =>
    obtain ⟨e1, _, e3⟩ := hq
    by_cases e : p.1 = k
    · rw [valV_pos e]
      have : atKey (q :: qs) k = some q.2 := by simp [atKey, List.find?_cons, ← e1, e]
      rw [this]
      exact e3
    · rw [valV_neg e]
      have : atKey (q :: qs) k = atKey qs k := by simp [atKey, List.find?_cons, ← e1, e]
      rw [this]
      exact ih
theorem DN.of (ok : HOk P w H h) {a : Addr} {kvs : List (NK × V)} (x : DN P w H a kvs) : (a == sysModules) = false ∧ ∃ xs, Paired (EnR H) kvs xs ∧ h.DictOfH (nestedKind P w) a xs := by
  obtain ⟨ob, xs, es, ep, h1, h2, h3, h4, h5, h6, h7, h8⟩ := x
  refine ⟨h2, xs, h8, ob, es, ep, (ok a _ h1).1, h3, h4, h5, fun x hx => ?_, h6⟩
  have all : ∀ {l : List (NK × V)} {m : List (NK × Addr × Value)}, Paired (EnR H) l m → ∀ x ∈ m, (nestedKind P w).is h x.1 x.2.1 := by
    intro l m q
    induction q with
    | nil => intro x hx; exact nomatch hx
    | @cons p q ps qs hq t ih =>
      intro x hx
      rcases List.mem_cons.mp hx with e | hx
      · subst e
        obtain ⟨e1, ⟨d, e2, e3, e4⟩, _⟩ := hq
        exact ⟨by rw [← e1, ← e2]; exact At.nested ok d e4 rfl, by rw [← e1]; exact e3⟩
      · exact ih x hx
  exact all h8 x hx
theorem En.put {kvs : List (NK × V)} {xs : List (NK × Addr × Value)} (r : Paired (EnR H) kvs xs) {d : D} {b : Addr} {v : V} {u : Value} (hd : At H d (.ref b)) (h8 : d.nk.depth ≤ 8) (ru : RelV v u) : Paired (EnR H) (putK kvs d.nk v) (storedH xs d.nk b u) := by
  have e : (kvs.any fun kv => decide (kv.1 = d.nk)) = (atKey xs d.nk).isSome := by
    rw [valV_any, (En.vals r d.nk).isSome_eq, Option.isSome_map]
  unfold putK storedH
  rw [e]
  by_cases q : (atKey xs d.nk).isSome = true
  · rw [if_pos q, if_pos q]
    clear e q
    induction r with
    | nil => exact .nil
    | @cons p q ps qs hq t ih =>
      rw [List.map_cons, List.map_cons]
      refine .cons ?_ ih
      obtain ⟨e1, e2, e3⟩ := hq
      unfold putAt
      by_cases ek : p.1 = d.nk
      · rw [if_pos ek, if_pos (e1.symm.trans ek)]
        exact ⟨by rw [e1], e2, ru⟩
      · rw [if_neg ek, if_neg (fun z => ek (e1.trans z))]
        exact ⟨e1, e2, e3⟩
  · rw [if_neg q, if_neg q]
    exact Paired.snoc r ⟨rfl, ⟨d, rfl, h8, hd⟩, ru⟩
end
/-- {} -/
def tNNew (P : Program) (w : World) : TE := fun _ H Q => ∀ p H2, H p = none → (∃ o, H2 = upd H p o) → DN P w H2 p [] → Q (.ref p) H2
/-- d[y] -/
def tNGet (P : Program) (w : World) (td ty : TE) : TE := fun σ H Q => td σ H fun x H1 => ty σ H1 fun y H2 => ∃ a kvs d b v, x = .ref a ∧ DN P w H2 a kvs ∧ y = .ref b ∧ At H2 d (.ref b) ∧ d.nk.depth ≤ 8 ∧ valV kvs d.nk = some v ∧ Q v H2
/-- y not in d -/
def tNNotIn (P : Program) (w : World) (ty td : TE) : TE := fun σ H Q => ty σ H fun y H1 => td σ H1 fun x H2 => ∃ a kvs d b, x = .ref a ∧ DN P w H2 a kvs ∧ y = .ref b ∧ At H2 d (.ref b) ∧ d.nk.depth ≤ 8 ∧ Q (.bl (!(valV kvs d.nk).isSome)) H2
/-- d[y] = v -/
def sNPut (P : Program) (w : World) (td ty tv : TE) : TS := fun D σ H => tv σ H fun v H1 => td σ H1 fun x H2 => ty σ H2 fun y H3 => ∃ a kvs d b, x = .ref a ∧ DN P w H3 a kvs ∧ y = .ref b ∧ At H3 d (.ref b) ∧ d.nk.depth ≤ 8 ∧ kvs.length < sizeLine ∧
  ∀ H4, (∃ φ, H4 = upd H3 a (.ext φ)) → DN P w H4 a (putK kvs d.nk v) → D.nx σ H4
section
variable {X : Cx} {o i value : Expr} {pos pos' : Pos} {td ty tv : TE} (P : Program) (w : World)
theorem pe_nnew (hP : X.prog = P := by rfl) (hw : X.w = w := by rfl) : PE X (.Dict [] [] pos) (tNNew P w) := ⟨fun pins s σ H Q I h => by
  subst hP hw
  have hg : (s.heap.push { cls := .type "dict", data := .dict #[] }).get? s.heap.objs.size = some { cls := .type "dict", data := .dict #[] } := Heap.get?_push_size _ rfl
  have hn := I.hok.fresh (Nat.le_refl s.heap.objs.size)
  have J := I.laid (a := s.heap.objs.size) (o := .ext fun h => h.get? s.heap.objs.size = some { cls := .type "dict", data := .dict #[] }) (h' := s.heap.push { cls := .type "dict", data := .dict #[] }) (t' := s.toks) (fun _ _ q => Heap.get?_push_of_some _ q) (Nat.le_refl _) ⟨hg, ⟨_, hg⟩, fun h1 h2 e k => k _ e⟩
  exact wpAny_Dict_empty ⟨.ref s.heap.objs.size, _, J, rfl, h _ _ hn ⟨_, rfl⟩ ⟨_, [], #[], 0, upd_same, beq_eq_false_iff_ne.mpr (Ne.symm (Nat.ne_of_lt I.big)), ⟨rfl, rfl, rfl⟩, rfl, rfl, List.nodup_nil, Nat.zero_le _, .nil⟩⟩⟩
theorem nk_room {A : Around} {k : Nat} (hr : Room k A) : (nestedKind P w).room A.in1 := by
  have := hr.units
  show A.in1.units + 8 < cLine
  rw [Around.in1_units]
  omega
theorem pe_nget {k : Nat} (hr : Room k X.A) (ho : PE X o td) (hi : PE X i ty) (hs : NoSl i) (hP : X.prog = P := by rfl) (hw : X.w = w := by rfl) : PE X (.Subscript o i pos) (tNGet P w td ty) := by
  subst hP hw
  refine ⟨fun pins s σ H Q I h => ?_⟩
  refine subD_of PySem.F.slot_dict_getitem.lookup hs (thn (ho.run pins s σ H _ I h) fun u s1 ⟨x, H1, I1, rx, q1⟩ => thn (hi.run pins s1 σ H1 _ I1 q1) fun iv s2 ⟨y, H2, I2, ry, a, kvs, d, b, v, ex, g, ey, hd, h8, hv, q2⟩ => ?_)
  subst ex ey
  obtain rfl : u = Value.ref a := rx
  obtain rfl : iv = Value.ref b := ry
  obtain ⟨hds, xs, r, dd⟩ := g.of I2.hok
  refine ⟨dd.typeIs, ?_⟩
  obtain ⟨w', hw', rw'⟩ := RelO.some_of (v := v) (o := (atKey xs d.nk).map (·.2)) (by rw [← hv]; exact En.vals r d.nk)
  obtain ⟨p, hp, hp2⟩ := Option.map_eq_some_iff.mp hw'
  refine wpAny_getItem_heap (nk_room _ _ hr) ⟨At.nested I2.hok d hd rfl, h8⟩ dd hp ?_
  rw [hp2]
  exact ⟨v, H2, I2.tok _, rw', q2⟩
theorem pc_nnotin {k : Nat} (hr : Room k X.A) (hi : PE X i ty) (ho : PE X o td) (hP : X.prog = P := by rfl) (hw : X.w = w := by rfl) : PC X .NotIn i o (tNNotIn P w ty td) := by
  subst hP hw
  refine ⟨fun pins s σ H Q I h => ?_⟩
  refine thn (hi.run pins s σ H _ I h) fun iv s1 ⟨y, H1, I1, ry, q1⟩ => thn (ho.run pins s1 σ H1 _ I1 q1) fun u s2 ⟨x, H2, I2, rx, a, kvs, d, b, ex, g, ey, hd, h8, q2⟩ => ?_
  subst ex ey
  obtain rfl : u = Value.ref a := rx
  obtain rfl : iv = Value.ref b := ry
  obtain ⟨hds, xs, r, dd⟩ := g.of I2.hok
  refine wpAny_notIn_heap (nk_room _ _ hr) ⟨At.nested I2.hok d hd rfl, h8⟩ hds dd ?_
  have q := (En.vals r d.nk).isSome_eq
  rw [Option.isSome_map] at q
  rw [← q]
  exact ⟨.bl _, H2, I2.tok _, rfl, q2⟩
theorem ps_nput {k : Nat} (hr : Room k X.A) (ho : PE X o td) (hi : PE X i ty) (hv : PE X value tv) (hs : swapsWith value (some (.Subscript o i pos')) pos.line X.env = pure false) (hP : X.prog = P := by rfl) (hw : X.w = w := by rfl) :
    PS X (.Assign [.Subscript o i pos'] value pos) (sNPut P w td ty tv) := by
  subst hP hw
  refine ⟨fun pins s σ H D I h => ?_⟩
  refine wpAny_Assign_Subscript (thn (hv.run pins s σ H _ I h) fun r s1 ⟨v, H1, I1, rv, q1⟩ => thn (ho.run pins s1 σ H1 _ I1 q1) fun u s2 ⟨x, H2, I2, rx, q2⟩ => thn (hi.run pins s2 σ H2 _ I2 q2) fun iv s3 ⟨y, H3, I3, ry, a, kvs, d, b, ex, g, ey, hd, h8, hl, q3⟩ => ?_) hs
  subst ex ey
  obtain rfl : u = Value.ref a := rx
  obtain rfl : iv = Value.ref b := ry
  obtain ⟨hds, xs, rr, dd⟩ := g.of I3.hok
  obtain ⟨φ, hφ⟩ := g.ext
  have hz : xs.length ≤ sizeLine := by rw [← Paired.length rr]; omega
  refine wpAny_setItem_heap (hsz := hz) (nk_room _ _ hr) ⟨At.nested I3.hok d hd rfl, h8⟩ dd fun h' dd' hs => ?_
  obtain ⟨q, es, ep, hq, h2, h3, h4, _, h5⟩ := dd'
  have J := d_write (ob := .ext fun h => h.get? a = some q) (t' := s3.toks + (nestedKind X.prog X.w).draws d.nk) I3 (by rw [hφ]; exact True.intro) hs ⟨q, hq⟩ ⟨hq, ⟨q, hq⟩, fun _ _ e k => k _ e⟩
  refine ⟨σ, _, J, q3 _ ⟨_, rfl⟩ ⟨q, _, es, ep, upd_same, hds, h2, h3, h4, h5, ?_, ?_⟩⟩
  · have := length_putK kvs d.nk v; omega
  · have t : TEx H3 (upd H3 a (.ext fun h => h.get? a = some q)) := TEx.upd fun u e => by rw [hφ] at e; cases e; rfl
    exact Paired.mapP (En.put rr hd h8 rv) fun p q ⟨e1, ⟨d, e2, e3, e4⟩, e5⟩ => ⟨e1, ⟨d, e2, e3, At.mono t d e4⟩, e5⟩
end
end G
/-! Objects: what the slots know of them, expressions that read them, statements that change them. -/
namespace G
open PySem L2
open Evl (Ex)
/-- what the slots know -/
def Kn (B : Hp) (ss : List Sl) : Prop := ∀ (i : Nat) (k : HA) (u : V), ss[i]? = some (Sl.a (A.o k u)) → k.φ B
section
variable {K : PySem.W.Frag} {B F F0 H H' : Hp} {ss : List Sl} {σ : St} {te ti tl tv ta : TE} {x y : A} {d : D} {N Bk Ct : SN} {Rt : R → Prop} {xs : List D}
theorem Ok.kn (h : Ok K B F H ss σ) : Kn B ss := fun i k u hi => by
  obtain ⟨o, _, q⟩ := h.at_ i _ hi
  exact q.2
theorem Ok.setO {i : Nat} {k : HA} {v : V} (h : Ok K B F H ss σ) (hv : k.φ B) : Ok K B F H (ss.set i (.a (.o k v))) (σ.set i (some v)) := h.set ⟨rfl, hv⟩ fun e => nomatch e
/-! ### reading -/
theorem ev_o {i : Nat} {k : HA} {u : V} (h : ss[i]? = some (.a (.o k u)) := by rfl) : Ev K (tVar i) ss (.w u) := fun B F H σ Q ok q => by
  obtain ⟨v, ho, ha⟩ := ok.get h rfl
  exact ⟨v, ho, q v H (Ex.refl H) ha.1⟩
theorem ev_fld {a C : Addr} {f : Str} (h : Ev K te ss (.w (.ref a))) (c : Cls K C) (n : NoAttr K C f) (hk : ∀ B, Kn B ss → ∃ dx fs v, B a = some (.ins C dx fs) ∧ fs.lookup f = some v ∧ AAt K B x v) : Ev K (tFld K te f) ss x := fun B F H σ Q ok q =>
  h B F H σ _ ok fun v H2 e2 r => by
    cases r
    obtain ⟨dx, fs, v, h1, h2, h3⟩ := hk B ok.kn
    have e := (ok.bf.trans ok.ex).trans e2
    exact ⟨a, C, dx, fs, v, rfl, e _ _ h1, c, n, h2, q v H2 e2 (h3.ex e)⟩
theorem ev_ixO {l : Addr} {z : Int} (h : Ev K te ss (.w (.ref l))) (h2 : Ev K ti ss (.d (.int z))) (hk : ∀ B, Kn B ss → ∃ vs v, B l = some (.lst vs) ∧ atI vs z = some v ∧ AAt K B x v) : Ev K (tOp (rIxL K) te ti) ss x := fun B F H σ Q ok q =>
  h B F H σ _ ok fun v H2 e2 r => h2 B F H2 σ _ (ok.mono e2) fun u H3 e3 r3 => by
    cases r
    obtain ⟨vs, v, h1, h2, h3⟩ := hk B ok.kn
    have e := ((ok.bf.trans ok.ex).trans e2).trans e3
    exact ⟨l, vs, z, v, rfl, un_int r3, SqL.of (e _ _ h1), h2, q v H3 (e2.trans e3) (h3.ex e)⟩
theorem ev_lenO {l : Addr} {n : Nat} (h : Ev K te ss (.w (.ref l))) (hk : ∀ B, Kn B ss → ∃ vs, B l = some (.lst vs) ∧ vs.length = n) : Ev K (tCB (Evl.rLenS K) (tCons te tNil)) ss (.d (nat n)) := fun B F H σ Q ok q =>
  h B F H σ _ ok fun v H2 e2 r => by
    cases r
    obtain ⟨vs, h1, h2⟩ := hk B ok.kn
    have e := (ok.bf.trans ok.ex).trans e2
    exact ⟨l, vs, rfl, .inl (SqL.of (e _ _ h1)), q _ H2 e2 (ad_int' h2)⟩
/-- a raw value of which more is known -/
theorem Ev.kn {v : V} (h : Ev K te ss (.w v)) (hk : ∀ B, Kn B ss → AAt K B x v) : Ev K te ss x := fun B F H σ Q ok q =>
  h B F H σ _ ok fun u H2 e2 r => by
    cases r
    exact q _ H2 e2 ((hk B ok.kn).ex ((ok.bf.trans ok.ex).trans e2))
/-- a comprehension over a list of objects -/
theorem evn_lcO {j : Nat} {l : Addr} {vs : List V} (κ : Nat → HA) (f : Nat → D) (h : Ev K tl ss (.w (.ref l))) (hk : ∀ B, Kn B ss → B l = some (.lst vs)) (hκ : ∀ i v, vs[i]? = some v → ∀ B, Kn B ss → (κ i).φ B) (hz : vs.length ≤ 100000)
    (he : ∀ i v, vs[i]? = some v → Ev K te (ss.set j (.a (.o (κ i) v))) (.d (f i))) : EvN K (tLc (iList K tl) (gName j) tYes te [j]) ss ((List.range vs.length).map f) := fun B F H σ Q ok q =>
  h B F H σ _ ok fun v H1 e1 r => by
    cases r
    have ha := ((ok.bf.trans ok.ex).trans e1) _ _ (hk B ok.kn)
    refine ⟨l, rfl, ⟨vs, SqL.of ha⟩, fun Dl hD => ?_⟩
    refine lc_list (xs := vs) (fun i H' => Acc H1 H' Dl ((List.range i).map f)) (Acc.nil hD) (fun i H' _ p => SqL.of (p.2.1 _ _ ha)) (fun i v H' hi a' => ?_) fun H' a' => ?_
    · have hil : i < vs.length := (List.getElem?_eq_some_iff.mp hi).1
      have e1' : (wipe σ [j]).set j (some v) = σ.set j (some v) := by
        show (σ.set j none).set j (some v) = _
        rw [List.set_set]
      show wipe ((wipe σ [j]).set j (some v)) [j] = wipe σ [j] ∧ tYes ((wipe σ [j]).set j (some v)) H' _
      rw [e1']
      refine ⟨by show (σ.set j (some v)).set j none = σ.set j none; rw [List.set_set], ?_⟩
      have ok2 : Ok K B F H' (ss.set j (.a (.o (κ i) v))) (σ.set j (some v)) := ((ok.mono e1).mono a'.2.1).setO (hκ i v hi B ok.kn)
      unfold tYes
      dsimp only
      rw [if_pos rfl]
      refine he i v hi B F H' _ _ ok2 fun y H4 e4 hy => ?_
      obtain ⟨acc, h1, h2, h3⟩ := a'.push (d := f i) e4 hy (by simp; omega)
      exact ⟨acc, h1, h2, by rw [List.range_succ, List.map_append]; exact h3⟩
    · obtain ⟨b1, b2, ws, b3, b4⟩ := a'
      exact q Dl ws H' (Evl.fresh_back e1 b1) (e1.trans b2) b3 b4
/-- for over a list of objects -/
theorem sd_forO {j : Nat} {l : Addr} {vs : List V} {tb : TS} (κ : Nat → HA) (Pv : Nat → SN) (h : Ev K tl ss (.w (.ref l))) (hk : ∀ B, Kn B ss → B l = some (.lst vs)) (hκ : ∀ i v, vs[i]? = some v → ∀ B, Kn B ss → (κ i).φ B) (h0 : Pv 0 ss)
    (hs : ∀ (i : Nat) v ss', vs[i]? = some v → Pv i ss' → Sd K tb (ss'.set j (.a (.o (κ i) v))) (Pv (i + 1)) Rt N (Pv (i + 1))) (hd : ∀ ss', Pv vs.length ss' → N ss') :
    Sd K (tFor (iList K tl) (gName j) tb) ss N Rt Bk Ct := fun B F H σ D ok e => by
  refine h B F H σ _ ok fun v H1 e1 r => ?_
  cases r
  have hB := hk B ok.kn
  have ha := ((ok.bf.trans ok.ex).trans e1) _ _ hB
  refine ⟨l, rfl, ⟨vs, SqL.of ha⟩, ?_⟩
  refine for_list (xs := vs) (fun i σ H => ∃ ss', Pv i ss' ∧ Ok K B F H ss' σ) ⟨ss, h0, ok.mono e1⟩ (fun i σ H _ ⟨_, _, o⟩ => SqL.of ((o.bf.trans o.ex) _ _ hB)) (fun i x σ' H' hi p => ?_) fun σ' H' p => ?_
  · obtain ⟨ss', hp, ok'⟩ := p
    exact hs i x ss' hi hp B F H' _ _ (ok'.setO (hκ i x hi B ok.kn)) (e.body (Ex.refl _) ok.bf fun ss3 H3 σ3 n3 ok3 => ⟨ss3, n3, ok3⟩)
  · obtain ⟨ss', hp, ok'⟩ := p
    exact e.nx _ _ _ (hd ss' hp) ok'

/-! ### changes -/
/-- all but fp stays -/
structure Fr (fp : Addr → Prop) (H H' : Hp) : Prop where
  k : ∀ a o, ¬ fp a → H a = some o → H' a = some o
  d : ∀ a, H' a = none → H a = none
  t : TEx H H'
theorem Fr.of_ex {fp : Addr → Prop} (e : Ex H H') : Fr fp H H' := ⟨fun a o _ h => e a o h, fun a h => Evl.fresh_back e h, .of e⟩
theorem Fr.refl {fp : Addr → Prop} (H : Hp) : Fr fp H H := .of_ex (Ex.refl H)
theorem Fr.trans {fp fp1 : Addr → Prop} {H1 H2 H3 : Hp} (a : Fr fp H1 H2) (b : Fr fp1 H2 H3) (h : ∀ p, fp1 p → fp p ∨ H1 p = none) : Fr fp H1 H3 := ⟨fun p o hn e => b.k p o (fun z => (h p z).elim hn fun q => by rw [e] at q; cases q) (a.k p o hn e), fun p e => a.d p (b.d p e), a.t.trans b.t⟩
theorem Fr.trans' {fp : Addr → Prop} {H1 H2 H3 : Hp} (a : Fr fp H1 H2) (b : Fr fp H2 H3) : Fr fp H1 H3 := a.trans b fun p h => .inl h
theorem HA.fr (k : HA) {fp : Addr → Prop} (f : Fr fp H H') (h : k.φ H) (hd : ∀ a, k.fp a → ¬ fp a) : k.φ H' := k.st _ _ h f.t fun a o q e => f.k a o (hd a q) e
/-- all but the own lists is frozen -/
theorem Ok.rebB (ok : Ok K F F H ss σ) : ∃ F', Ex F F' ∧ Ok K F' F' H ss σ ∧ TEx H F' ∧ ∀ p o, H p = some o → (∀ (i : Nat) t, ss[i]? = some t → t.rf = true → σ[i]? ≠ some (some (.ref p))) → F' p = some o := by
  obtain ⟨F', ex, ok1, tx, hp⟩ := ok.reb
  refine ⟨F', ex, ⟨Ex.refl _, ok1.ex, ok1.len, fun i s hi => ?_, ok1.sep⟩, tx, hp⟩
  obtain ⟨o, ho, q⟩ := ok1.at_ i s hi
  refine ⟨o, ho, ?_⟩
  cases s with
  | no => trivial
  | a x =>
    cases x with
    | d x => exact q
    | l xs => exact q
    | r xs => obtain ⟨a, vs, r, h1, h2⟩ := q; exact ⟨a, vs, r, Evl.ex_l ex h1, h2⟩
    | w u => exact q
    | o k u => exact ⟨q.1, k.ex ex q.2⟩
  | own xs => exact q
/-- what a slot is behind a change -/
inductive SR (F' : Hp) : Sl → Sl → Prop
  | no : SR F' .no .no
  | d (x : D) : SR F' (.a (.d x)) (.a (.d x))
  | w (v : V) : SR F' (.a (.w v)) (.a (.w v))
  | own (xs : List D) : SR F' (.own xs) (.own xs)
  | o {k k' : HA} {u : V} (h : k'.φ F') : SR F' (.a (.o k u)) (.a (.o k' u))
  | ow {k : HA} {u : V} : SR F' (.a (.o k u)) (.a (.w u))
  | wo {k : HA} {u : V} (h : k.φ F') : SR F' (.a (.w u)) (.a (.o k u))
  | lno {xs : List D} : SR F' (.a (.l xs)) .no
abbrev SRs (F' : Hp) (ss ss' : List Sl) : Prop := Paired (SR F') ss ss'
theorem Paired.get {α β : Type} {R : α → β → Prop} : ∀ {l : List α} {m : List β} {i : Nat} {y : β}, Paired R l m → m[i]? = some y → ∃ x, l[i]? = some x ∧ R x y
  | _, _, i, y, .nil, h => by simp at h
  | _, _, 0, y, .cons r t, h => by simp at h; subst h; exact ⟨_, rfl, r⟩
  | _, _, i + 1, y, .cons r t, h => by
    obtain ⟨x, h1, h2⟩ := Paired.get (i := i) t (by simpa using h)
    exact ⟨x, by simpa using h1, h2⟩
theorem Paired.len {α β : Type} {R : α → β → Prop} : ∀ {l : List α} {m : List β}, Paired R l m → l.length = m.length
  | _, _, .nil => rfl
  | _, _, .cons _ t => by rw [List.length_cons, List.length_cons, Paired.len t]
/-- the frozen part changes -/
theorem Ok.chF {F' H' : Hp} {ss' : List Sl} (ok : Ok K F F H ss σ) (ex : Ex F' H') (tx : TEx H H') (hr : SRs F' ss ss') (ho : ∀ (i : Nat) xs a, ss[i]? = some (.own xs) → σ[i]? = some (some (.ref a)) → H' a = H a ∧ F' a = none) : Ok K F' F' H' ss' σ := by
  have own : ∀ (i : Nat) xs, ss'[i]? = some (.own xs) → ss[i]? = some (.own xs) := fun i xs hi => by
    obtain ⟨s, h1, h2⟩ := Paired.get hr hi
    cases h2
    exact h1
  refine ⟨Ex.refl _, ex, (Paired.len hr).symm.trans ok.len, fun i s hi => ?_, fun i j xs s a hi hj hf h1 h2 => ?_⟩
  · obtain ⟨s0, h1, h2⟩ := Paired.get hr hi
    obtain ⟨o, hoo, q⟩ := ok.at_ i s0 h1
    refine ⟨o, hoo, ?_⟩
    cases h2 with
    | no => trivial
    | d x => obtain ⟨v, r, h⟩ := q; exact ⟨v, r, At.mono tx _ h⟩
    | w v => exact q
    | own xs =>
      obtain ⟨a, vs, r, h2, h3, h4⟩ := q
      subst r
      obtain ⟨e1, e2⟩ := ho i xs a h1 hoo
      exact ⟨a, vs, rfl, e2, by rw [e1]; exact h3, AtL.mono tx _ h4⟩
    | o h => exact ⟨q.1, h⟩
    | ow => exact q.1
    | wo h => exact ⟨q, h⟩
    | lno => trivial
  · obtain ⟨s0, g1, g2⟩ := Paired.get hr hj
    refine ok.sep i j xs s0 a (own i xs hi) g1 ?_ h1 h2
    cases g2 <;> first | rfl | cases hf
/-- one frozen object is changed -/
theorem Ok.mut {p : Addr} {o o' : HO} {ss' : List Sl} (ok : Ok K F F H ss σ) (hp : F p = some o) (ht : isT o = false) (hr : SRs (upd F p o') ss ss') : Ok K (upd F p o') (upd F p o') (upd H p o') ss' σ := by
  have hH := ok.ex _ _ hp
  refine ok.chF (fun b u e => ?_) (TEx.upd fun u e => by rw [hH] at e; cases e; exact ht) hr fun i xs a h1 h2 => ?_
  · by_cases hb : b = p
    · subst hb; rw [upd_same] at e ⊢; exact e
    · rw [upd_ne hb] at e ⊢; exact ok.ex b u e
  · obtain ⟨o2, ho2, a2, vs, r, hf, ha, _⟩ := ok.at_ i _ h1
    subst r
    rw [h2] at ho2
    cases ho2
    have ne : a ≠ p := by rintro rfl; rw [hf] at hp; cases hp
    exact ⟨upd_ne ne, by rw [upd_ne ne]; exact hf⟩
theorem Fr.mut {fp : Addr → Prop} {p : Addr} {o o' : HO} (f : Fr fp F0 F) (hp : F p = some o) (ht : isT o = false) (h : fp p ∨ F0 p = none) : Fr fp F0 (upd F p o') := by
  refine f.trans (fp1 := fun a => a = p) ⟨fun a u hn e => by rw [upd_ne hn]; exact e, fun a e => ?_, TEx.upd fun u e => by rw [hp] at e; cases e; exact ht⟩ fun a e => by subst e; exact h
  by_cases ha : a = p
  · subst ha; rw [upd_same] at e; cases e
  · rwa [upd_ne ha] at e
abbrev RM := V → HA → Prop
structure EoM (K : PySem.W.Frag) (fp : Addr → Prop) (F0 : Hp) (D : Ends) (N : SN) (R : RM) (Bk Ct : SN) : Prop where
  nx : ∀ ss F H σ, N ss → Fr fp F0 F → Ok K F F H ss σ → D.nx σ H
  rt : ∀ v k F H, R v k → k.φ F → (∀ a, k.fp a → fp a ∨ F0 a = none) → Fr fp F0 F → Ex F H → D.rt v H
  bk : ∀ ss F H σ, Bk ss → Fr fp F0 F → Ok K F F H ss σ → D.bk σ H
  ct : ∀ ss F H σ, Ct ss → Fr fp F0 F → Ok K F F H ss σ → D.ct σ H
def SdM (K : PySem.W.Frag) (fp : Addr → Prop) (F0 : Hp) (t : TS) (ss : List Sl) (N : SN) (R : RM) (Bk Ct : SN) : Prop := ∀ F H σ (D : Ends), Fr fp F0 F → Ok K F F H ss σ → EoM K fp F0 D N R Bk Ct → t D σ H
/-- what isn't frozen stays as it is, and isn't frozen -/
def Rest (F H F' H' : Hp) : Prop := ∀ a xs, F a = none → H a = some (.lst xs) → H' a = some (.lst xs) ∧ F' a = none
theorem Rest.ex {F H H' : Hp} (e : Ex H H') : Rest F H F H' := fun a xs h q => ⟨e a _ q, h⟩
/-- an expression that changes: P tells the slots behind it and its value -/
def EvM (K : PySem.W.Frag) (fp : Addr → Prop) (F0 : Hp) (te : TE) (ss : List Sl) (P : List Sl → V → HA → Prop) : Prop := ∀ F H σ (Q : VK), Fr fp F0 F → Ok K F F H ss σ →
  (∀ ss' v k F' H', P ss' v k → k.φ F' → (∀ a, k.fp a → fp a ∨ F0 a = none) → Fr fp F0 F' → Ok K F' F' H' ss' σ → TEx H H' → Rest F H F' H' → Q v H') → te σ H Q
variable {fp fp1 : Addr → Prop} {t t1 t2 tb : TS} {M : SN} {tt : TT} {Rm : RM} {P : List Sl → V → HA → Prop}
theorem sdm_seq (h : SdM K fp F0 t1 ss (fun ss' => SdM K fp F0 t2 ss' N Rm Bk Ct) Rm Bk Ct) : SdM K fp F0 (tSeq t1 t2) ss N Rm Bk Ct := fun F H σ D f ok e =>
  h F H σ _ f ok ⟨fun ss' F' H' σ' s f' ok' => s F' H' σ' D f' ok' e, e.rt, e.bk, e.ct⟩
theorem sdm_seq' (h : SdM K fp F0 t1 ss M Rm Bk Ct) (k : ∀ ss', M ss' → SdM K fp F0 t2 ss' N Rm Bk Ct) : SdM K fp F0 (tSeq t1 t2) ss N Rm Bk Ct := fun F H σ D f ok e =>
  h F H σ _ f ok ⟨fun ss' F' H' σ' s f' ok' => k ss' s F' H' σ' D f' ok' e, e.rt, e.bk, e.ct⟩
theorem sdm_next (h : N ss) : SdM K fp F0 tNext ss N Rm Bk Ct := fun F H σ D f ok e => e.nx _ _ _ _ h f ok
theorem sdm_cont (h : Ct ss) : SdM K fp F0 tCont ss N Rm Bk Ct := fun F H σ D f ok e => e.ct _ _ _ _ h f ok
theorem sdm_if {b : Bool} (h : EvT K tt ss b) (h1 : b = true → SdM K fp F0 t1 ss N Rm Bk Ct) (h2 : b = false → SdM K fp F0 t2 ss N Rm Bk Ct) : SdM K fp F0 (tIfS tt t1 t2) ss N Rm Bk Ct := fun F H σ D f ok e =>
  h F F H σ _ ok fun H2 e2 => by
    cases b with
    | true => rw [if_pos rfl]; exact h1 rfl F H2 σ D f (ok.mono e2) e
    | false => rw [if_neg Bool.false_ne_true]; exact h2 rfl F H2 σ D f (ok.mono e2) e
/-- a statement that changes nothing and doesn't return -/
theorem sdm_of (h : Sd K t ss N (fun _ => False) Bk Ct) : SdM K fp F0 t ss N Rm Bk Ct := fun F H σ D f ok e =>
  h F F H σ D ok ⟨fun ss' H' σ' n ok' => e.nx _ _ _ _ n f ok', fun r z => z.elim, fun ss' H' σ' n ok' => e.bk _ _ _ _ n f ok', fun ss' H' σ' n ok' => e.ct _ _ _ _ n f ok'⟩
theorem sdm_set {i : Nat} (h : Ev K te ss (.d d)) (k : N (ss.set i (.a (.d d)))) : SdM K fp F0 (tAsg te (gName i)) ss N Rm Bk Ct := sdm_of (sd_set h k)
theorem sdm_setN {i : Nat} (h : EvN K te ss xs) (k : N (ss.set i (.own xs))) : SdM K fp F0 (tAsg te (gName i)) ss N Rm Bk Ct := sdm_of (sd_setN h k)
theorem sdm_setW {i : Nat} {v : V} (h : Ev K te ss (.w v)) (k : N (ss.set i (.a (.w v)))) : SdM K fp F0 (tAsg te (gName i)) ss N Rm Bk Ct := sdm_of (sd_setW h k)
/-- an object that the slots know of -/
theorem sdm_setO {i : Nat} {v : V} {k : HA} (h : Ev K te ss (.w v)) (hk : ∀ B, Kn B ss → k.φ B) (n : N (ss.set i (.a (.o k v)))) : SdM K fp F0 (tAsg te (gName i)) ss N Rm Bk Ct := fun F H σ D f ok e =>
  h F F H σ _ ok fun u H2 e2 r => by
    cases r
    exact e.nx _ _ _ _ n f ((ok.mono e2).setO (hk F ok.kn))
def HA.nil : HA := ⟨fun _ => True, fun _ => False, fun _ _ _ _ _ => trivial⟩
def HA.val (x : D) (v : V) : HA := ⟨fun H => At H x v, fun _ => False, fun _ _ h t _ => At.mono t _ h⟩
def HA.and (k1 k2 : HA) : HA := ⟨fun H => k1.φ H ∧ k2.φ H, fun a => k1.fp a ∨ k2.fp a, fun H H' h t e => ⟨k1.st H H' h.1 t fun a o q => e a o (.inl q), k2.st H H' h.2 t fun a o q => e a o (.inr q)⟩⟩
def HA.lst (xs : List D) (v : V) : HA := ⟨fun H => ∃ a vs, v = .ref a ∧ H a = some (.lst vs) ∧ AtL H xs vs, fun a => v = .ref a, fun H H' ⟨a, vs, r, h1, h2⟩ t e => ⟨a, vs, r, e a _ r h1, AtL.mono t _ h2⟩⟩
/-- return data; what the slots know is told on -/
theorem sdm_ret {k : HA} (h : Ev K te ss (.d d)) (hk : ∀ B, Kn B ss → k.φ B) (hf : ∀ a, k.fp a → fp a ∨ F0 a = none) (n : ∀ v, Rm v ((HA.val d v).and k)) : SdM K fp F0 (tRet te) ss N Rm Bk Ct := fun F H σ D f ok e =>
  h F F H σ _ ok fun v H2 e2 r => e.rt v _ H2 H2 (n v) ⟨r, k.ex (ok.ex.trans e2) (hk F ok.kn)⟩ (fun a q => q.elim (fun z => z.elim) (hf a)) (f.trans' (.of_ex (ok.ex.trans e2))) (Ex.refl _)
/-- return a new list -/
theorem sdm_retN {k : HA} (h : EvN K te ss xs) (hk : ∀ B, Kn B ss → k.φ B) (hf : ∀ a, k.fp a → fp a ∨ F0 a = none) (n : ∀ v, Rm v ((HA.lst xs v).and k)) : SdM K fp F0 (tRet te) ss N Rm Bk Ct := fun F H σ D f ok e =>
  h F F H σ _ ok fun a vs H2 ha e2 h1 h2 => e.rt _ _ H2 H2 (n _) ⟨⟨a, vs, rfl, h1, h2⟩, k.ex (ok.ex.trans e2) (hk F ok.kn)⟩ (fun b q => q.elim (fun z => by cases z; exact .inr (f.d _ (Evl.fresh_back ok.ex ha))) (hf b)) (f.trans' (.of_ex (ok.ex.trans e2))) (Ex.refl _)
theorem sdm_retO {k : HA} {i : Nat} (h : ss[i]? = some (.own xs)) (hk : ∀ B, Kn B ss → k.φ B) (hf : ∀ a, k.fp a → fp a ∨ F0 a = none) (n : ∀ v, (∀ a, v = .ref a → ∃ B, k.φ B ∧ B a = none) → Rm v ((HA.lst xs v).and k)) : SdM K fp F0 (tRet (tVar i)) ss N Rm Bk Ct := fun F H σ D f ok e => by
  obtain ⟨o, ho, a, vs, r, hF, ha, hl⟩ := ok.at_ i _ h
  subst r
  exact ⟨_, ho, e.rt _ _ H H (n _ fun a' e' => by cases e'; exact ⟨F, hk F ok.kn, hF⟩) ⟨⟨a, vs, rfl, ha, hl⟩, k.ex ok.ex (hk F ok.kn)⟩ (fun b q => q.elim (fun z => by cases z; exact .inr (f.d _ hF)) (hf b)) (f.trans' (.of_ex ok.ex)) (Ex.refl _)⟩
theorem sdm_retM (h : EvM K fp F0 te ss P) (n : ∀ ss' v k, P ss' v k → ∃ k2, Rm v k2 ∧ (∀ B, Kn B ss' → k.φ B → k2.φ B) ∧ ((∀ a, k.fp a → fp a ∨ F0 a = none) → ∀ a, k2.fp a → fp a ∨ F0 a = none)) : SdM K fp F0 (tRet te) ss N Rm Bk Ct := fun F H σ D f ok e =>
  h F H σ _ f ok fun ss' v k F' H' hp hk hf f' ok' _ _ => by
    obtain ⟨k2, h1, h2, h3⟩ := n ss' v k hp
    exact e.rt v k2 F' H' h1 (h2 F' ok'.kn hk) (h3 hf) f' ok'.ex
/-- x = e, e an expression that changes -/
theorem sdm_setM {i : Nat} (h : EvM K fp F0 te ss P) (n : ∀ ss' v k, P ss' v k → (∀ a, k.fp a → fp a ∨ F0 a = none) → N (ss'.set i (.a (.o k v)))) : SdM K fp F0 (tAsg te (gName i)) ss N Rm Bk Ct := fun F H σ D f ok e =>
  h F H σ _ f ok fun ss' v k F' H' hp hk hf f' ok' _ _ => e.nx _ _ _ _ (n ss' v k hp hf) f' (ok'.setO hk)
theorem sdm_dropM (h : EvM K fp F0 te ss P) (n : ∀ ss' v k, P ss' v k → (∀ a, k.fp a → fp a ∨ F0 a = none) → N ss') : SdM K fp F0 (tDrop te) ss N Rm Bk Ct := fun F H σ D f ok e =>
  h F H σ _ f ok fun ss' v k F' H' hp hk hf f' ok' _ _ => e.nx _ _ _ _ (n ss' v k hp hf) f' ok'
/-- what is known of a slot's object -/
theorem SdM.kn (h : (∀ F, Kn F ss → Fr fp F0 F → SdM K fp F0 t ss N Rm Bk Ct)) : SdM K fp F0 t ss N Rm Bk Ct := fun F H σ D f ok e => h F ok.kn f F H σ D f ok e
/-! ### the attribute of an object is set -/
/-- the heap with all but the own lists, the value told there -/
theorem sdm_fld {a C : Addr} {f : Str} (hv : Ev K tv ss x) (hx : (∃ d, x = .d d) ∨ ∃ v, x = .w v) (ha : Ev K ta ss (.w (.ref a))) (c : Cls K C) (n : NoAttr K C f) (hk : ∀ B, Kn B ss → ∃ dx fs, B a = some (.ins C dx fs) ∧ fs.length < 1000) (hfp : fp a ∨ F0 a = none)
    (k : ∀ F dx fs y, Kn F ss → F a = some (.ins C dx fs) → AAt K F x y → ∃ ss', SRs (upd F a (.ins C dx (putF f y fs))) ss ss' ∧ N ss') : SdM K fp F0 (sFld K ta tv f) ss N Rm Bk Ct := fun F H σ D fr ok e =>
  hv F F H σ _ ok fun y H1 e1 r1 => ha F F H1 σ _ (ok.mono e1) fun v H2 e2 r2 => by
    cases r2
    obtain ⟨F', ex, ok', tx, _⟩ := ((ok.mono e1).mono e2).rebB
    obtain ⟨dx, fs, h1, h2⟩ := hk F' ok'.kn
    have hy : AAt K F' x y := by
      have r1 := r1.ex e2
      rcases hx with ⟨d, rfl⟩ | ⟨v, rfl⟩
      · exact At.mono tx _ r1
      · exact r1
    obtain ⟨ss', h3, h4⟩ := k F' dx fs y ok'.kn h1 hy
    exact ⟨a, C, dx, fs, rfl, ok'.ex _ _ h1, c, n, h2, e.nx _ _ _ _ h4 ((fr.trans' (.of_ex ex)).mut h1 rfl hfp) (ok'.mut h1 rfl h3)⟩
/-- a new list of which Pl tells -/
def EvNE (K : PySem.W.Frag) (te : TE) (ss : List Sl) (Pl : List D → Prop) : Prop := ∀ B F H σ (Q : VK), Ok K B F H ss σ → (∀ xs a vs H2, Pl xs → H a = none → Ex H H2 → H2 a = some (.lst vs) → AtL H2 xs vs → Q (.ref a) H2) → te σ H Q
theorem EvN.ne (h : EvN K te ss xs) : EvNE K te ss (· = xs) := fun B F H σ Q ok q => h B F H σ Q ok fun a vs H2 h1 h2 h3 h4 => q xs a vs H2 rfl h1 h2 h3 h4
theorem evne_callX {ta : TA} {as : List A} {pre : List A → Prop} {post : List A → R → Prop} {Pl : List D → Prop} {E : XK} (h : EvAs K ta ss as) (hp : pre as) (k : ∀ r, post as r → ∃ xs, r = .l xs ∧ Pl xs) : EvNE K (tCall (spX K pre post) [] E ta) ss Pl := fun B F H σ Q ok q =>
  h B F H σ _ ok fun vs H2 e2 r => ⟨as, by rw [List.append_nil]; exact r, hp, fun r hr => by
    obtain ⟨xs, rfl, hn⟩ := k r hr
    exact fun a vs H3 ha e3 h1 h2 => q xs a vs H3 hn (Evl.fresh_back e2 ha) (e2.trans e3) h1 h2⟩
/-- .. to a new list -/
theorem sdm_fldN {a C : Addr} {f : Str} {Pl : List D → Prop} (hv : EvNE K tv ss Pl) (ha : Ev K ta ss (.w (.ref a))) (c : Cls K C) (n : NoAttr K C f) (hk : ∀ B, Kn B ss → ∃ dx fs, B a = some (.ins C dx fs) ∧ fs.length < 1000) (hfp : fp a ∨ F0 a = none)
    (k : ∀ F dx fs l vs xs, Pl xs → Kn F ss → F a = some (.ins C dx fs) → F l = some (.lst vs) → AtL F xs vs → F0 l = none → (∃ B, Kn B ss ∧ B l = none) → ∃ ss', SRs (upd F a (.ins C dx (putF f (.ref l) fs))) ss ss' ∧ N ss') : SdM K fp F0 (sFld K ta tv f) ss N Rm Bk Ct := fun F H σ D fr ok e =>
  hv F F H σ _ ok fun xs l vs H1 hpl hl e1 r1 r1' => ha F F H1 σ _ (ok.mono e1) fun v H2 e2 r2 => by
    cases r2
    obtain ⟨F', ex, ok', tx, hp⟩ := ((ok.mono e1).mono e2).rebB
    obtain ⟨dx, fs, h1, h2⟩ := hk F' ok'.kn
    have hF : F l = none := Evl.fresh_back ok.ex hl
    have hl' : F' l = some (.lst vs) := hp _ _ (e2 _ _ r1) fun i t hi ht => ok.newNe hl hi ht
    obtain ⟨ss', h3, h4⟩ := k F' dx fs l vs xs hpl ok'.kn h1 hl' (AtL.mono tx _ (r1'.ex e2)) (fr.d _ hF) ⟨F, ok.kn, hF⟩
    exact ⟨a, C, dx, fs, rfl, ok'.ex _ _ h1, c, n, h2, e.nx _ _ _ _ h4 ((fr.trans' (.of_ex ex)).mut h1 rfl hfp) (ok'.mut h1 rfl h3)⟩
/-- .. to what an expression that changes makes -/
theorem sdm_fldM {a C : Addr} {f : Str} (hv : EvM K fp F0 tv ss P) (ha : ∀ ss' v k, P ss' v k → Ev K ta ss' (.w (.ref a))) (c : Cls K C) (n : NoAttr K C f) (hfp : fp a ∨ F0 a = none)
    (k : ∀ ss' v k, P ss' v k → (∀ b, k.fp b → fp b ∨ F0 b = none) → ∀ F, Kn F ss' → k.φ F → ∃ dx fs, F a = some (.ins C dx fs) ∧ fs.length < 1000 ∧ ∃ ss2, SRs (upd F a (.ins C dx (putF f v fs))) ss' ss2 ∧ N ss2) : SdM K fp F0 (sFld K ta tv f) ss N Rm Bk Ct := fun F H σ D fr ok e =>
  hv F H σ _ fr ok fun ss' v kk F1 H1 p hkk hkf fr1 ok1 tx rs => ha ss' v kk p F1 F1 H1 σ _ ok1 fun u H2 e2 r2 => by
    cases r2
    obtain ⟨F', ex, ok', tx, _⟩ := (ok1.mono e2).rebB
    obtain ⟨dx, fs, h1, h2, ss', h3, h4⟩ := k ss' v kk p hkf F' ok'.kn (kk.ex ex hkk)
    exact ⟨a, C, dx, fs, rfl, ok'.ex _ _ h1, c, n, h2, e.nx _ _ _ _ h4 ((fr1.trans' (.of_ex ex)).mut h1 rfl hfp) (ok'.mut h1 rfl h3)⟩
end
end G
/-! Promises of defs that change objects; their calls; loops; the methods of lists. -/
namespace G
open PySem L2
open Evl (Ex)
/-- a promise: fp is what may be changed, post tells the value and what is known behind -/
def spM (K : PySem.W.Frag) (pre : List A → (Addr → Prop) → RM → Prop) : Sp := fun vs H Q _ => ∃ as fp post, AAtL K H as vs ∧ pre as fp post ∧
  ∀ v k F H', post v k → k.φ F → (∀ a, k.fp a → fp a ∨ H a = none) → Fr fp H F → Ex F H' → Q v H'
/-- behind a body without a return -/
def endM (fp : Addr → Prop) (F0 : Hp) (post : RM) : SN := fun ss => ∃ k, post .non k ∧ (∀ B, Kn B ss → k.φ B) ∧ ∀ a, k.fp a → fp a ∨ F0 a = none
section
variable {P : Program} {w : World} {K : PySem.W.Frag} {mg : Str → Option Value} {base : Heap} {x qual : Str} {params : Arguments} {body : List Stmt} {scope : Scope} {f : Addr} {fd : FuncData}
theorem fnM {N ps : List Str} {k n : Nat} {pre : List A → (Addr → Prop) → RM → Prop} (F : FunD K x qual params body scope [] [] f fd) (S : FnScope N ps scope) (hn : ps.length + n = N.length) (hl : ∀ as fp post, pre as fp post → as.length = ps.length)
    (hb : ∀ (cdv : Value) (A : Around) (outer : List Env) (s : Shared) (H : Hp) (E : XK), Room k (A.deeper (PyProof.Rows.envOfC qual scope s.heap.objs.size f cdv)) →
      ∃ t, PSs (cxOf CX0 P w K mg base N qual scope f cdv A outer s H E).nox body t ∧ ∀ as fp post, pre as fp post → Kn H (starts as n) → SdM K fp H t (starts as n) (endM fp H post) post noSN noSN) : FnOk P w K mg base CX0 (k + 1) f fd ps (spM K pre) := by
  refine F.ok S (fun vs H Q E h => ?_) (fun cdv A outer s H vs Q E hr h => ?_)
  · obtain ⟨as, fp, post, ha, hp, _⟩ := h
    rw [ha.length, hl _ _ _ hp]
  · obtain ⟨as, fp, post, ha, hp, hq⟩ := h
    obtain ⟨t, h1, h2⟩ := hb cdv A outer s H E hr
    refine ⟨t, h1.nox, ?_⟩
    have ok := start_ok (n := n) ha (by rw [hl _ _ _ hp]; exact hn)
    exact h2 as fp post hp ok.kn H H _ _ (Fr.refl H) ok ⟨fun ss F' H' σ ⟨k, e1, e2, e3⟩ fr ok' => hq _ k F' H' e1 (e2 F' ok'.kn) e3 fr ok'.ex, fun v k F' H' e1 e2 e3 fr ex => hq v k F' H' e1 e2 e3 fr ex, fun _ _ _ _ z => z.elim, fun _ _ _ _ z => z.elim⟩
end
section
variable {K : PySem.W.Frag} {B F F0 H H' : Hp} {ss : List Sl} {σ : St} {te ti tl tv ta td to t1 : TE} {t : TA} {x y : A} {d : D} {N Bk Ct M : SN} {xs : List D} {fp fp1 : Addr → Prop} {tb : TS} {tt : TT} {Rm : RM} {P : List Sl → V → HA → Prop}
  {pre : List A → (Addr → Prop) → RM → Prop} {as : List A} {E : XK}
/-- what a call asks of the slots, and what it gives -/
def CallOk (fp : Addr → Prop) (F0 : Hp) (ss : List Sl) (pre : List A → (Addr → Prop) → RM → Prop) (as : List A) (P : List Sl → V → HA → Prop) : Prop := ∃ fp1 post, pre as fp1 post ∧ (∀ a, fp1 a → fp a ∨ F0 a = none) ∧ (∀ B, Kn B ss → ∀ a, fp1 a → B a ≠ none) ∧
  ∀ v k, post v k → ∀ F F', Kn F ss → Fr fp1 F F' → k.φ F' → (∀ a, k.fp a → fp1 a ∨ F a = none) → (∀ a, F a = none → F0 a = none) → ∃ ss', SRs F' ss ss' ∧ P ss' v k
theorem call_core {vs : List V} {Q : VK} (c : CallOk fp F0 ss pre as P) (fr : Fr fp F0 F) (ok : Ok K F F H ss σ) (ha : AAtL K H as vs)
    (q : ∀ ss' v k F' H', P ss' v k → k.φ F' → (∀ a, k.fp a → fp a ∨ F0 a = none) → Fr fp F0 F' → Ok K F' F' H' ss' σ → TEx H H' → Rest F H F' H' → Q v H') : spM K pre vs H Q E := by
  classical
  obtain ⟨fp1, post, hp, hfp, hal, n⟩ := c
  refine ⟨as, fp1, post, ha, hp, fun v k F1 H' hv hk hkf fr1 ex => ?_⟩
  let ours : Addr → Prop := fun a => F a = none ∧ ∃ xs, H a = some (.lst xs)
  -- what was frozen, or is new, is frozen behind the call
  let F' : Hp := fun a => if ours a then none else H' a
  have hF0 : ∀ a, ours a → F' a = none := fun a h => if_pos h
  have hF2 : ∀ a, ¬ ours a → F' a = H' a := fun a h => if_neg h
  have hF1 : Rest F H F' H' := fun a xs h e => ⟨ex a _ (fr1.k a _ (fun z => hal F ok.kn a z h) e), hF0 a ⟨h, xs, e⟩⟩
  have hFe : Ex F' H' := fun a o e => by
    by_cases h : ours a
    · rw [hF0 a h] at e; cases e
    · rwa [hF2 a h] at e
  have tHH' : TEx H H' := fr1.t.trans (.of ex)
  have notup : ∀ a u, isT u = true → H' a = some u → F' a = some u := fun a u t e => by
    rw [hF2 a fun ⟨z1, xs, z2⟩ => by
      have := (hF1 a xs z1 z2).1
      rw [e] at this
      cases this
      cases t]
    exact e
  have tHF' : TEx H F' := fun a u t e => notup a u t (tHH' a u t e)
  have inF : ∀ a o, F a = some o → ¬ ours a := fun a o e z => by rw [z.1] at e; cases e
  have tFF' : TEx F F' := fun a u t e => tHF' a u t (ok.ex a u e)
  have frF : Fr fp1 F F' := ⟨fun a o hn e => by rw [hF2 a (inF a o e)]; exact ex a o (fr1.k a o hn (ok.ex a o e)), fun a e => by
      by_cases h : ours a
      · exact h.1
      · rw [hF2 a h] at e
        exact Evl.fresh_back ok.ex (fr1.d a (Evl.fresh_back ex e)), tFF'⟩
  have hko : ∀ a, k.fp a → ¬ ours a := fun a hf z => by
    obtain ⟨z1, xs, z2⟩ := z
    rcases hkf a hf with q | q
    · exact hal F ok.kn a q z1
    · rw [q] at z2; cases z2
  have hk' : k.φ F' := k.st F1 F' hk (fun a u t e => notup a u t (ex a u e)) fun a o hf e => by rw [hF2 a (hko a hf)]; exact ex a o e
  have hkf' : ∀ a, k.fp a → fp1 a ∨ F a = none := fun a hf => (hkf a hf).imp id fun e => Evl.fresh_back ok.ex e
  obtain ⟨ss', h1, h2⟩ := n v k hv F F' ok.kn frF hk' hkf' fr.d
  refine q ss' v k F' H' h2 hk' (fun a hf => (hkf' a hf).elim (hfp a) fun e => .inr (fr.d a e)) (fr.trans frF hfp) (ok.chF hFe tHH' h1 fun i xs a g1 g2 => ?_) tHH' hF1
  obtain ⟨o2, ho2, a2, vs2, r, hf2, ha2, _⟩ := ok.at_ i _ g1
  subst r
  rw [g2] at ho2
  cases ho2
  have := hF1 a vs2 hf2 ha2
  exact ⟨by rw [this.1, ha2], this.2⟩
theorem Rest.step {H1 F' H2 : Hp} (e : Ex H H1) (r : Rest F H1 F' H2) : Rest F H F' H2 := fun a xs h q => r a xs h (e a _ q)
/-- f(..) -/
theorem evm_call {ta : TA} (h : EvAs K ta ss as) (c : CallOk fp F0 ss pre as P) : EvM K fp F0 (tCall (spM K pre) [] E ta) ss P := fun F H σ Q fr ok q =>
  h F F H σ _ ok fun vs H2 e2 r => call_core (E := E) c fr (ok.mono e2) (by rw [List.append_nil]; exact r) fun ss' v k F' H' p hk hf f' ok' tx rs => q ss' v k F' H' p hk hf f' ok' ((TEx.of e2).trans tx) (rs.step e2)
/-- o.m(..) -/
theorem evm_meth {C a : Addr} {m : Str} {k0 : HA} (ho : Ev K to ss (.w (.ref a))) (h : EvAs K t ss as) (hm : ∀ B, Kn B ss → ∃ dx fs, B a = some (.ins C dx fs) ∧ fs.lookup m = none) (hs : ∀ B, Kn B ss → k0.φ B) (c : CallOk fp F0 ss pre (.o k0 (.ref a) :: as) P) :
    EvM K fp F0 (tMeth C m (spM K pre) [] E to t) ss P := fun F H σ Q fr ok q =>
  ho F F H σ _ ok fun u H1 e1 r1 => by
    cases r1
    obtain ⟨dx, fs, h1, h2⟩ := hm F ok.kn
    refine ⟨a, dx, fs, rfl, (ok.ex.trans e1) _ _ h1, h2, ?_⟩
    exact h F F H1 σ _ (ok.mono e1) fun vs H2 e2 r => call_core (E := E) c fr ((ok.mono e1).mono e2) ⟨.ref a, vs ++ [], rfl, ⟨rfl, k0.ex ((ok.ex.trans e1).trans e2) (hs F ok.kn)⟩, by rw [List.append_nil]; exact r⟩ fun ss' v k F' H' p hk hf f' ok' tx rs => q ss' v k F' H' p hk hf f' ok' (((TEx.of e1).trans (.of e2)).trans tx) ((rs.step e2).step e1)
/-- o.m(e), e an expression that changes -/
theorem evm_methM {C a : Addr} {m : Str} {P1 : List Sl → V → HA → Prop} (ho : Ev K to ss (.w (.ref a))) (h : EvM K fp F0 te ss P1) (hm : ∀ B, Kn B ss → ∃ dx fs, B a = some (.ins C dx fs) ∧ fs.lookup m = none) (c : ∀ ss' v k, P1 ss' v k → ∃ d k0, (∀ B, Kn B ss' → k.φ B → At B d v ∧ k0.φ B) ∧ CallOk fp F0 ss' pre [.o k0 (.ref a), .d d] P) :
    EvM K fp F0 (tMeth C m (spM K pre) [] E to (tCons te tNil)) ss P := fun F H σ Q fr ok q =>
  ho F F H σ _ ok fun u H1 e1 r1 => by
    cases r1
    obtain ⟨dx, fs, h1, h2⟩ := hm F ok.kn
    refine ⟨a, dx, fs, rfl, (ok.ex.trans e1) _ _ h1, h2, ?_⟩
    refine h F H1 σ _ fr (ok.mono e1) fun ss' v k F' H' p hk hf f' ok' tx rs => ?_
    obtain ⟨d, k0, g1, g2⟩ := c ss' v k p
    obtain ⟨g3, g4⟩ := g1 F' ok'.kn hk
    exact call_core (E := E) g2 f' ok' ⟨.ref a, [v], rfl, ⟨rfl, k0.ex ok'.ex g4⟩, ⟨v, [], rfl, At.ex ok'.ex g3, rfl⟩⟩ fun ss2 v2 k2 F2 H2 p2 hk2 hf2 f2 ok2 tx2 rs2 => q ss2 v2 k2 F2 H2 p2 hk2 hf2 f2 ok2 (((TEx.of e1).trans tx).trans tx2) fun b xs e0 e3 => by
      obtain ⟨z1, z2⟩ := rs b xs e0 (e1 b _ e3)
      exact rs2 b xs z2 z1
/-- a new object of the class at C, without attributes -/
def HA.ins (C : Addr) (fs : List (Str × V)) (a : Addr) : HA := ⟨fun H => ∃ dx, H a = some (.ins C dx fs), fun b => b = a, fun H H' ⟨dx, h⟩ _ e => ⟨dx, e a _ rfl h⟩⟩
/-- C(..) -/
theorem evm_make {C : Addr} (h : EvAs K t ss as) (c : ∀ x, (∃ B, Kn B ss ∧ B x = none) → ∃ post, pre (.o (HA.ins C [] x) (.ref x) :: as) (fun a => a = x) post ∧ ∀ v k, post v k → v = .non ∧ P ss (.ref x) k) :
    EvM K fp F0 (tMake C (spM K pre) [] E t) ss P := fun F H σ Q fr ok q =>
  h F F H σ _ ok fun vs H1 e1 r x dx hx hdx hne => by
    classical
    obtain ⟨post, hp, n⟩ := c x ⟨F, ok.kn, Evl.fresh_back (ok.ex.trans e1) hx⟩
    have eN : Ex H1 (upd (upd H1 dx (.own x)) x (.ins C dx [])) := (Evl.Ex.new hdx).trans (Evl.Ex.new (by rw [upd_ne hne.symm]; exact hx))
    have hxN : (upd (upd H1 dx (.own x)) x (.ins C dx [])) x = some (.ins C dx []) := upd_same
    refine ⟨.o (HA.ins C [] x) (.ref x) :: as, fun a => a = x, post, ⟨.ref x, vs ++ [], rfl, ⟨rfl, dx, hxN⟩, by rw [List.append_nil]; exact r.ex eN⟩, hp, fun v k F1 H' hv hk hkf fr1 ex => ?_⟩
    obtain ⟨rfl, hP⟩ := n v k hv
    refine ⟨rfl, ?_⟩
    have ok1 := ok.mono e1
    let ours : Addr → Prop := fun a => F a = none ∧ ∃ xs, H1 a = some (.lst xs)
    let F' : Hp := fun a => if ours a then none else H' a
    have hF0 : ∀ a, ours a → F' a = none := fun a h => if_pos h
    have hF2 : ∀ a, ¬ ours a → F' a = H' a := fun a h => if_neg h
    have nx : ∀ a o, H1 a = some o → a ≠ x := fun a o e => ne_of_none e hx
    have frH : Ex H1 H' := fun a o e => ex a o (fr1.k a o (nx a o e) (eN a o e))
    have hF1 : Rest F H1 F' H' := fun a xs h e => ⟨frH a _ e, hF0 a ⟨h, xs, e⟩⟩
    have hFe : Ex F' H' := fun a o e => by
      by_cases h : ours a
      · rw [hF0 a h] at e; cases e
      · rwa [hF2 a h] at e
    have notup : ∀ a u, isT u = true → H' a = some u → F' a = some u := fun a u t e => by
      rw [hF2 a fun ⟨z1, xs, z2⟩ => by
        have := (hF1 a xs z1 z2).1
        rw [e] at this
        cases this
        cases t]
      exact e
    have inF : ∀ a o, F a = some o → ¬ ours a := fun a o e z => by rw [z.1] at e; cases e
    have exF : Ex F F' := fun a o e => by rw [hF2 a (inF a o e)]; exact frH a o (ok1.ex a o e)
    have hko : ∀ a, k.fp a → ¬ ours a := fun a hf z => by
      obtain ⟨z1, xs, z2⟩ := z
      rcases hkf a hf with q | q
      · exact nx a _ z2 q
      · rw [eN a _ z2] at q; cases q
    have hk' : k.φ F' := k.st F1 F' hk (fun a u t e => notup a u t (ex a u e)) fun a o hf e => by rw [hF2 a (hko a hf)]; exact ex a o e
    have hkf' : ∀ a, k.fp a → F a = none := fun a hf => by
      rcases hkf a hf with q | q
      · rw [q]; exact Evl.fresh_back (ok1.ex) hx
      · exact Evl.fresh_back (ok1.ex.trans eN) q
    have kn : Kn F' ss := fun i kk u hi => kk.ex exF (ok.kn i kk u hi)
    refine q ss (.ref x) k F' H' hP hk' (fun a hf => .inr (fr.d a (hkf' a hf))) (fr.trans' (.of_ex exF)) ?_ (.of (e1.trans frH)) (hF1.step e1)
    refine ⟨Ex.refl _, hFe, ok.len, fun i s hi => ?_, ok.sep⟩
    obtain ⟨o, ho, qs⟩ := (ok1.mono frH).at_ i s hi
    refine ⟨o, ho, ?_⟩
    cases s with
    | no => trivial
    | a x =>
      cases x with
      | d x => exact qs
      | l xs => exact qs
      | r xs => obtain ⟨a, vs, r, h1, h2⟩ := qs; exact ⟨a, vs, r, Evl.ex_l exF h1, h2⟩
      | w u => exact qs
      | o kk u => exact ⟨qs.1, kk.ex exF qs.2⟩
    | own xs =>
      obtain ⟨a, vs, r, h2, h3, h4⟩ := qs
      subst r
      obtain ⟨_, ho1, a1, vs1, r1, g2, g3, _⟩ := ok1.at_ i _ hi
      subst r1
      rw [ho] at ho1
      cases ho1
      exact ⟨a, vs, rfl, hF0 a ⟨h2, _, g3⟩, h3, h4⟩
theorem EoM.rebase {D : Ends} {Pn : SN} {F1 : Hp} {Q1 : L2.St → Hp → Prop} (e : EoM K fp F0 D N Rm Bk Ct) (fr : Fr fp F0 F1) (hfp : ∀ a, fp1 a → fp a ∨ F0 a = none) (h : ∀ ss F H σ, Pn ss → Fr fp1 F1 F → Ok K F F H ss σ → Q1 σ H) : EoM K fp1 F1 { D with nx := Q1, ct := Q1, bk := D.nx } Pn Rm N Pn :=
  ⟨h, fun v k F H h1 h2 h3 f ex => e.rt v k F H h1 h2 (fun a q => (h3 a q).elim (hfp a) fun z => .inr (fr.d a z)) (fr.trans f hfp) ex, fun ss F H σ n f ok => e.nx ss F H σ n (fr.trans f hfp) ok, h⟩
/-! ### loops -/
theorem sdm_forR {j : Nat} {n : Nat} {ta : TA} (Pv : Nat → SN) (h : EvDs K ta ss [.int (n : Int)]) (hz : n ≤ 100000) (h0 : Pv 0 ss) (hs : ∀ (i : Nat) ss', i < n → Pv i ss' → SdM K fp F0 tb (ss'.set j (.a (.d (nat i)))) (Pv (i + 1)) Rm N (Pv (i + 1))) (hd : ∀ ss', Pv n ss' → N ss') :
    SdM K fp F0 (tFor (iRng1 ta) (gName j) tb) ss N Rm Bk Ct := fun F H σ D fr ok e => by
  refine h F F H σ _ ok fun vs H1 e1 r => ?_
  obtain ⟨v, rfl, r1⟩ := aatL1 r
  refine ⟨n, by rw [un_int r1], by omega, by omega, ?_⟩
  refine for_range (lo := 0) (n := (n : Int).toNat) (fun i σ H => ∃ ss' F', Pv i ss' ∧ Fr fp F0 F' ∧ Ok K F' F' H ss' σ) ⟨ss, F, h0, fr, ok.mono e1⟩ (fun i σ' H' hi p => ?_) fun σ' H' p => ?_
  · have hi' : i < n := by simpa using hi
    obtain ⟨ss', F', hp, fr', ok'⟩ := p
    rw [Int.zero_add]
    exact hs i ss' hi' hp F' H' _ _ fr' (ok'.setD (at_int.mpr rfl)) (e.rebase (Fr.refl F0) (fun a q => .inl q) fun ss3 F3 H3 σ3 n3 f3 ok3 => ⟨ss3, F3, n3, f3, ok3⟩)
  · obtain ⟨ss', F', hp, fr', ok'⟩ := p
    exact e.nx _ _ _ _ (hd ss' (by simpa using hp)) fr' ok'
/-- for k in reversed(range(n)) -/
theorem sdm_forRev {j : Nat} {n : Nat} (Pv : Nat → SN) (h : Ev K te ss (.d (nat n))) (hz : n ≤ 100000) (h0 : Pv 0 ss) (hs : ∀ (i : Nat) ss', i < n → Pv i ss' → SdM K fp F0 tb (ss'.set j (.a (.d (nat (n - 1 - i))))) (Pv (i + 1)) Rm N (Pv (i + 1))) (hd : ∀ ss', Pv n ss' → N ss') :
    SdM K fp F0 (tFor (iRevR (tRg1 te)) (gName j) tb) ss N Rm Bk Ct := fun F H σ D fr ok e => by
  refine h F F H σ _ ok fun v H1 e1 r => ?_
  refine ⟨n, un_int r, by omega, by omega, by omega, by omega, ?_⟩
  have en : ((n : Int) - 0).toNat = n := by omega
  rw [en]
  refine for_rangeC (fun i σ H => ∃ ss' F', Pv i ss' ∧ Fr fp F0 F' ∧ Ok K F' F' H ss' σ) ⟨ss, F, h0, fr, ok.mono e1⟩ (fun i σ' H' hi p => ?_) fun σ' H' p => ?_
  · obtain ⟨ss', F', hp, fr', ok'⟩ := p
    have ei : (0 + (n : Int) - 1 + (i : Int) * -1) = ((n - 1 - i : Nat) : Int) := by omega
    rw [ei]
    exact hs i ss' hi hp F' H' _ _ fr' (ok'.setD (at_int.mpr rfl)) (e.rebase (Fr.refl F0) (fun a q => .inl q) fun ss3 F3 H3 σ3 n3 f3 ok3 => ⟨ss3, F3, n3, f3, ok3⟩)
  · obtain ⟨ss', F', hp, fr', ok'⟩ := p
    exact e.nx _ _ _ _ (hd ss' hp) fr' ok'
theorem sdm_while (Pv : Nat → SN) (m0 : Nat) (h0 : Pv m0 ss) (hs : ∀ m ss', Pv m ss' → ∃ b, EvT K tt ss' b ∧ (b = true → SdM K fp F0 tb ss' (fun ss2 => ∃ m', m' < m ∧ Pv m' ss2) Rm N (fun ss2 => ∃ m', m' < m ∧ Pv m' ss2)) ∧ (b = false → N ss')) :
    SdM K fp F0 (tWhile tt tb) ss N Rm Bk Ct := fun F H σ D fr ok e => by
  refine ⟨fun m σ H => ∃ ss' F', Pv m ss' ∧ Fr fp F0 F' ∧ Ok K F' F' H ss' σ, ⟨m0, ss, F, h0, fr, ok⟩, ?_⟩
  rintro m σ' H' ⟨ss', F', hp, fr', ok'⟩
  obtain ⟨b, hb, h1, h2⟩ := hs m ss' hp
  refine hb F' F' H' σ' _ ok' fun H2 e2 => ?_
  cases b with
  | true =>
    rw [if_pos rfl]
    refine ⟨fun σ2 H2 => ∃ m', m' < m ∧ ∃ ss2 F2, Pv m' ss2 ∧ Fr fp F0 F2 ∧ Ok K F2 F2 H2 ss2 σ2, fun σ2 H2 z => z, ?_⟩
    exact h1 rfl F' H2 σ' _ fr' (ok'.mono e2) (e.rebase (Fr.refl F0) (fun a q => .inl q) fun ss3 F3 H3 σ3 ⟨m', hm, n3⟩ f3 ok3 => ⟨m', hm, ss3, F3, n3, f3, ok3⟩)
  | false =>
    rw [if_neg Bool.false_ne_true]
    exact e.nx _ _ _ _ (h2 rfl) fr' (ok'.mono e2)
/-- for over data of a tuple; fp1: what the body changes -/
theorem sdm_forT {α : Type} {j : Nat} {fr0 : Bool} {ks : List α} {e : α → D} (Pv : Nat → SN) (hfp : ∀ a, fp1 a → fp a ∨ F0 a = none) (h : Ev K tl ss (.d (.tu fr0 (ks.map e)))) (h0 : Pv 0 ss)
    (hs : ∀ F1, (∀ a, F1 a = none → F0 a = none) → ∀ (i : Nat) k ss', ks[i]? = some k → Pv i ss' → SdM K fp1 F1 tb (ss'.set j (.a (.d (e k)))) (Pv (i + 1)) Rm N (Pv (i + 1))) (hd : ∀ ss', Pv ks.length ss' → N ss') :
    SdM K fp F0 (tFor (iTup K tl) (gName j) tb) ss N Rm Bk Ct := fun F H σ D fr ok en => by
  refine h F F H σ _ ok fun v H1 e1 r => ?_
  obtain ⟨a, vs, rfl, ha, hl⟩ := un_tu r
  obtain ⟨F1, ex, ok1, tx, _⟩ := (ok.mono e1).rebB
  have ha' := ha.mono tx
  have fr1 : Fr fp F0 F1 := fr.trans' (.of_ex ex)
  refine ⟨a, rfl, ⟨vs, ha.sq⟩, ?_⟩
  refine for_tup (xs := vs) (fun i σ H => ∃ ss' F', Pv i ss' ∧ Fr fp1 F1 F' ∧ Ok K F' F' H ss' σ) ⟨ss, F1, h0, Fr.refl F1, ok1⟩ (fun i σ H _ ⟨_, _, _, f, o⟩ => (ha'.mono (f.t.trans (TEx.of o.ex))).sq) (fun i x σ' H' hi p => ?_) fun σ' H' p => ?_
  · obtain ⟨ss', F', hp, f', ok'⟩ := p
    obtain ⟨d, hd', hx⟩ := hl.back hi
    rw [List.getElem?_map] at hd'
    cases hk : ks[i]? with
    | none => rw [hk] at hd'; cases hd'
    | some k =>
      rw [hk] at hd'
      cases hd'
      exact hs F1 fr1.d i k ss' hk hp F' H' _ _ f' (ok'.setD (At.mono (tx.trans (f'.t.trans (TEx.of ok'.ex))) _ hx)) (en.rebase fr1 hfp fun ss3 F3 H3 σ3 n3 f3 ok3 => ⟨ss3, F3, n3, f3, ok3⟩)
  · obtain ⟨ss', F', hp, f', ok'⟩ := p
    rw [hl.length, List.length_map] at hp
    exact en.nx _ _ _ _ (hd ss' hp) (fr1.trans f' hfp) ok'
/-- for over a new list of data; fp1: what the body changes, all of it there at the start -/
theorem sdm_forN {j : Nat} (Pv : Nat → SN) (hfp : ∀ a, fp1 a → fp a ∨ F0 a = none) (hal : ∀ B, Kn B ss → ∀ a, fp1 a → B a ≠ none) (h : EvN K tl ss xs) (h0 : Pv 0 ss)
    (hs : ∀ F1, (∀ a, F1 a = none → F0 a = none) → ∀ (i : Nat) x ss', xs[i]? = some x → Pv i ss' → SdM K fp1 F1 tb (ss'.set j (.a (.d x))) (Pv (i + 1)) Rm N (Pv (i + 1))) (hd : ∀ ss', Pv xs.length ss' → N ss') :
    SdM K fp F0 (tFor (iList K tl) (gName j) tb) ss N Rm Bk Ct := fun F H σ D fr ok en => by
  refine h F F H σ _ ok fun a vs H1 hn e1 ha hl => ?_
  have hno : ¬ fp1 a := fun z => hal F ok.kn a z (Evl.fresh_back ok.ex hn)
  obtain ⟨F1, ex, ok1, tx, hp⟩ := (ok.mono e1).rebB
  have ha' := hp _ _ ha fun i t hi ht => ok.newNe hn hi ht
  have fr1 : Fr fp F0 F1 := fr.trans' (.of_ex ex)
  refine ⟨a, rfl, ⟨vs, SqL.of ha⟩, ?_⟩
  refine for_list (xs := vs) (fun i σ H => ∃ ss' F', Pv i ss' ∧ Fr fp1 F1 F' ∧ Ok K F' F' H ss' σ) ⟨ss, F1, h0, Fr.refl F1, ok1⟩ (fun i σ H _ ⟨_, _, _, f, o⟩ => SqL.of (o.ex _ _ (f.k a _ hno ha'))) (fun i x σ' H' hi p => ?_) fun σ' H' p => ?_
  · obtain ⟨ss', F', hp', f', ok'⟩ := p
    obtain ⟨d, hd', hx⟩ := hl.back hi
    exact hs F1 fr1.d i d ss' hd' hp' F' H' _ _ f' (ok'.setD (At.mono (tx.trans (f'.t.trans (TEx.of ok'.ex))) _ hx)) (en.rebase fr1 hfp fun ss3 F3 H3 σ3 n3 f3 ok3 => ⟨ss3, F3, n3, f3, ok3⟩)
  · obtain ⟨ss', F', hp', f', ok'⟩ := p
    rw [hl.length] at hp'
    exact en.nx _ _ _ _ (hd ss' hp') (fr1.trans f' hfp) ok'
/-! ### methods of lists that stand frozen -/
theorem sdm_appO {l : Addr} (hv : Ev K to ss (.w (.ref l))) (h : Ev K te ss x) (hx : (∃ d, x = .d d) ∨ ∃ v, x = .w v) (hk : ∀ B, Kn B ss → ∃ vs, B l = some (.lst vs) ∧ vs.length < 100000) (hfp : fp l ∨ F0 l = none)
    (k : ∀ F vs y, Kn F ss → F l = some (.lst vs) → AAt K F x y → ∃ ss', SRs (upd F l (.lst (vs ++ [y]))) ss ss' ∧ N ss') : SdM K fp F0 (tDrop (tBM K "list" rAppend to (tCons te tNil))) ss N Rm Bk Ct := fun F H σ D fr ok e =>
  hv F F H σ _ ok fun v H1 e1 r1 => by
    cases r1
    obtain ⟨vs0, h0, _⟩ := hk F ok.kn
    refine ⟨.inl ⟨rfl, _, SqL.of (e1 _ _ (ok.ex _ _ h0))⟩, ?_⟩
    refine h F F H1 σ _ (ok.mono e1) fun y H2 e2 r2 => ?_
    obtain ⟨F', ex, ok', tx, _⟩ := ((ok.mono e1).mono e2).rebB
    obtain ⟨vs, h1, h2⟩ := hk F' ok'.kn
    have hy : AAt K F' x y := by
      rcases hx with ⟨d, rfl⟩ | ⟨v, rfl⟩
      · exact At.mono tx _ r2
      · exact r2
    obtain ⟨ss', h3, h4⟩ := k F' vs y ok'.kn h1 hy
    exact ⟨l, vs, y, rfl, rfl, ok'.ex _ _ h1, Evl.sz_lt h2, e.nx _ _ _ _ h4 ((fr.trans' (.of_ex ex)).mut h1 rfl hfp) (ok'.mut h1 rfl h3)⟩
def rInsert : V → List V → Hp → VK → Prop := fun x vs H Q => ∃ (l : Addr) (xs : List V) (i : Int) (y : V), x = .ref l ∧ vs = [.int i, y] ∧ H l = some (.lst xs) ∧ xs.length < sizeLine ∧ 0 ≤ i ∧ i < 2 ^ 63 ∧ Q .non (upd H l (.lst (xs.take i.toNat ++ [y] ++ xs.drop i.toNat)))
theorem mt_insert' {X : Cx} : MtR X "list.insert" rInsert := mt_insert
/-- below.insert(i, e), e an expression that changes -/
theorem sdm_insM {l : Addr} {i : Nat} (hv : Ev K to ss (.w (.ref l))) (hi : Ev K ti ss (.d (nat i))) (hil : i < 100000) (h : EvM K fp F0 te ss P) (hk : ∀ B, Kn B ss → ∃ vs, B l = some (.lst vs)) (hk2 : ∀ ss' v k, P ss' v k → ∀ B, Kn B ss' → ∃ vs, B l = some (.lst vs) ∧ vs.length < 100000) (hfp : fp l ∨ F0 l = none)
    (n : ∀ ss' v k, P ss' v k → (∀ a, k.fp a → fp a ∨ F0 a = none) → ∀ F vs, Kn F ss' → k.φ F → F l = some (.lst vs) → ∃ ss2, SRs (upd F l (.lst (vs.take i ++ [v] ++ vs.drop i))) ss' ss2 ∧ N ss2) : SdM K fp F0 (tDrop (tBM K "list" rInsert to (tCons ti (tCons te tNil)))) ss N Rm Bk Ct := fun F H σ D fr ok e =>
  hv F F H σ _ ok fun v H1 e1 r1 => by
    cases r1
    obtain ⟨vs0, h0⟩ := hk F ok.kn
    refine ⟨.inl ⟨rfl, _, SqL.of (e1 _ _ (ok.ex _ _ h0))⟩, ?_⟩
    refine hi F F H1 σ _ (ok.mono e1) fun y H2 e2 r2 => ?_
    refine h F H2 σ _ fr ((ok.mono e1).mono e2) fun ss' v k F' H' hp hkf hf f' ok' tx rs => ?_
    obtain ⟨vs, h1, h2⟩ := hk2 ss' v k hp F' ok'.kn
    obtain ⟨ss2, h3, h4⟩ := n ss' v k hp hf F' vs ok'.kn hkf h1
    refine ⟨l, vs, i, v, rfl, by rw [un_int r2], ok'.ex _ _ h1, Evl.sz_lt h2, by omega, by omega, ?_⟩
    rw [Int.toNat_natCast]
    exact e.nx _ _ _ _ h4 (f'.mut h1 rfl hfp) (ok'.mut h1 rfl h3)
/-- below.pop(i) -/
theorem sdm_popO {l : Addr} {i : Nat} (hv : Ev K to ss (.w (.ref l))) (hi : Ev K ti ss (.d (nat i))) (hk : ∀ B, Kn B ss → ∃ vs, B l = some (.lst vs) ∧ i < vs.length ∧ vs.length < 100000) (hfp : fp l ∨ F0 l = none)
    (k : ∀ F vs, Kn F ss → F l = some (.lst vs) → ∃ ss', SRs (upd F l (.lst (vs.eraseIdx i))) ss ss' ∧ N ss') : SdM K fp F0 (tDrop (tBM K "list" rPopAt to (tCons ti tNil))) ss N Rm Bk Ct := fun F H σ D fr ok e =>
  hv F F H σ _ ok fun v H1 e1 r1 => by
    cases r1
    obtain ⟨vs0, h0, _⟩ := hk F ok.kn
    refine ⟨.inl ⟨rfl, _, SqL.of (e1 _ _ (ok.ex _ _ h0))⟩, ?_⟩
    refine hi F F H1 σ _ (ok.mono e1) fun y H2 e2 r2 => ?_
    obtain ⟨F', ex, ok', tx, _⟩ := ((ok.mono e1).mono e2).rebB
    obtain ⟨vs, h1, h2, h3⟩ := hk F' ok'.kn
    obtain ⟨ss', h4, h5⟩ := k F' vs ok'.kn h1
    refine ⟨l, vs, i, i, vs[i], rfl, by rw [un_int r2], ok'.ex _ _ h1, by omega, by omega, ?_, List.getElem?_eq_getElem h2, e.nx _ _ _ _ h5 ((fr.trans' (.of_ex ex)).mut h1 rfl hfp) (ok'.mut h1 rfl h4)⟩
    unfold seqIndex?
    simp
    omega
end
end G
/-! Expressions that change, with data as values; dicts with nested keys; comprehensions that change. -/
namespace G
open PySem L2
open Evl (Ex)
def EvD (K : PySem.W.Frag) (fp : Addr → Prop) (F0 : Hp) (te : TE) (ss : List Sl) (P : List Sl → D → Prop) : Prop := ∀ F H σ (Q : VK), Fr fp F0 F → Ok K F F H ss σ →
  (∀ ss' d v F' H', P ss' d → At H' d v → Fr fp F0 F' → Ok K F' F' H' ss' σ → TEx H H' → Rest F H F' H' → Q v H') → te σ H Q
section
variable {Pr : Program} {w : World} {K : PySem.W.Frag} {B F F0 H H' : Hp} {ss : List Sl} {σ : St} {te ti tl tv ta td to t1 ty : TE} {t : TA} {x y : A} {d : D} {N Bk Ct M : SN} {xs : List D} {fp fp1 : Addr → Prop} {tb : TS} {tt : TT} {Rm : RM} {P : List Sl → D → Prop} {E : XK}
theorem evd_of (h : Ev K te ss (.d d)) (p : P ss d) : EvD K fp F0 te ss P := fun F H σ Q fr ok q => h F F H σ _ ok fun v H2 e r => q ss d v F H2 p r fr (ok.mono e) (.of e) (Rest.ex e)
theorem evd_m {P1 : List Sl → V → HA → Prop} (h : EvM K fp F0 te ss P1) (n : ∀ ss' v k, P1 ss' v k → ∃ d, P ss' d ∧ ∀ B, k.φ B → At B d v) : EvD K fp F0 te ss P := fun F H σ Q fr ok q => h F H σ _ fr ok fun ss' v k F' H' p hk hf f' ok' tx rs => by
  obtain ⟨d, h1, h2⟩ := n ss' v k p
  exact q ss' d v F' H' h1 (At.ex ok'.ex (h2 F' hk)) f' ok' tx rs
theorem EvD.imp {P' : List Sl → D → Prop} (h : EvD K fp F0 te ss P) (n : ∀ ss' d, P ss' d → P' ss' d) : EvD K fp F0 te ss P' := fun F H σ Q fr ok q => h F H σ Q fr ok fun ss' d v F' H' p => q ss' d v F' H' (n _ _ p)
/-- e[i] -/
theorem evd_ix {i : Int} (h : EvD K fp F0 te ss P) (hi : ∀ ss, Ev K ti ss (.d (.int i))) {P' : List Sl → D → Prop} (n : ∀ ss' d, P ss' d → ∃ f l d', d = .tu f l ∧ atI l i = some d' ∧ P' ss' d') : EvD K fp F0 (tOp (rIxT K) te ti) ss P' := fun F H σ Q fr ok q =>
  h F H σ _ fr ok fun ss' d v F' H' p hv f' ok' tx rs => by
    obtain ⟨f, l, d', rfl, hd, hp⟩ := n ss' d p
    exact hi ss' F' F' H' σ _ ok' fun u H2 e2 r2 => (rop_ixT (K := K) hd) H2 v u _ (At.ex e2 hv) r2 fun w H3 e3 r3 => q ss' d' w F' H3 hp r3 f' ((ok'.mono e2).mono e3) (tx.trans ((TEx.of e2).trans (.of e3))) fun b ys h0 h1 => by
      obtain ⟨z1, z2⟩ := rs b ys h0 h1
      exact ⟨e3 _ _ (e2 _ _ z1), z2⟩
/-- (a, e) -/
theorem evd_tup2 {d1 : D} (h1 : Ev K t1 ss (.d d1)) (h : EvD K fp F0 te ss P) {P' : List Sl → D → Prop} (n : ∀ ss' d, P ss' d → P' ss' (.tup [d1, d])) : EvD K fp F0 (tTup (tCons t1 (tCons te tNil))) ss P' := fun F H σ Q fr ok q =>
  h1 F F H σ _ ok fun v1 H1 e1 r1 => h F H1 σ _ fr (ok.mono e1) fun ss' d v F' H' p hv f' ok' tx rs => by
    refine ⟨Evl.sz_of (by show 2 ≤ 100000; decide), fun a ha => ?_⟩
    have e : Ex H' (upd H' a (.tup [v1, v])) := Evl.Ex.new ha
    have r1' : At H' d1 v1 := At.mono tx _ r1
    exact q ss' _ _ F' _ (n ss' d p) (at_tup.mpr ⟨a, _, rfl, upd_same, (AtL.ex e (atL_cons.mpr ⟨v1, _, rfl, r1', .one hv⟩))⟩) f' (ok'.mono e) (((TEx.of e1).trans tx).trans (.of e)) fun b ys g0 g1 => by
      obtain ⟨z1, z2⟩ := rs b ys g0 (e1 _ _ g1)
      exact ⟨e _ _ z1, z2⟩
/-- f(a, e), f of data -/
theorem evd_call2 {d1 : D} {pre : List A → R → Prop} (h1 : Ev K t1 ss (.d d1)) (h : EvD K fp F0 te ss P) {P' : List Sl → D → Prop} (n : ∀ ss' d, P ss' d → ∃ d', pre [.d d1, .d d] (.d d') ∧ P' ss' d') : EvD K fp F0 (tCall (spD K pre) [] E (tCons t1 (tCons te tNil))) ss P' := fun F H σ Q fr ok q =>
  h1 F F H σ _ ok fun v1 H1 e1 r1 => h F H1 σ _ fr (ok.mono e1) fun ss' d v F' H' p hv f' ok' tx rs => by
    obtain ⟨d', hp, hp'⟩ := n ss' d p
    have r1' : At H' d1 v1 := At.mono tx _ r1
    refine ⟨[.d d1, .d d], .d d', ⟨v1, _, rfl, r1', v, _, rfl, hv, rfl⟩, hp, fun u H2 e hu => ?_⟩
    exact q ss' d' u F' H2 hp' hu f' (ok'.mono e) (((TEx.of e1).trans tx).trans (.of e)) fun b ys g0 g1 => by
      obtain ⟨z1, z2⟩ := rs b ys g0 (e1 _ _ g1)
      exact ⟨e _ _ z1, z2⟩
theorem sdm_setD {i : Nat} (h : EvD K fp F0 te ss P) (n : ∀ ss' d, P ss' d → N (ss'.set i (.a (.d d)))) : SdM K fp F0 (tAsg te (gName i)) ss N Rm Bk Ct := fun F H σ D f ok e =>
  h F H σ _ f ok fun ss' d v F' H' hp hv f' ok' _ _ => e.nx _ _ _ _ (n ss' d hp) f' (ok'.setD hv)
theorem sdm_retD (h : EvD K fp F0 te ss P) (n : ∀ ss' d, P ss' d → ∃ k, (∀ v, Rm v ((HA.val d v).and k)) ∧ (∀ B, Kn B ss' → k.φ B) ∧ ∀ a, k.fp a → fp a ∨ F0 a = none) : SdM K fp F0 (tRet te) ss N Rm Bk Ct := fun F H σ D f ok e =>
  h F H σ _ f ok fun ss' d v F' H' hp hv f' ok' _ _ => by
    obtain ⟨k, h1, h2, h3⟩ := n ss' d hp
    exact e.rt v _ H' H' (h1 v) ⟨hv, k.ex ok'.ex (h2 F' ok'.kn)⟩ (fun a q => q.elim (fun z => z.elim) (h3 a)) (f'.trans' (.of_ex ok'.ex)) (Ex.refl _)
/-- a, b = e -/
theorem sdm_two {i j : Nat} (h : EvD K fp F0 te ss P) (n : ∀ ss' d, P ss' d → ∃ a b, d = .tup [a, b] ∧ N ((ss'.set i (.a (.d a))).set j (.a (.d b)))) : SdM K fp F0 (tAsg te (gTup K 2 (gCons (gName i) (gCons (gName j) gNil)))) ss N Rm Bk Ct := fun F H σ D f ok e =>
  h F H σ _ f ok fun ss' d v F' H' hp hv f' ok' _ _ => by
    obtain ⟨a, b, rfl, hn⟩ := n ss' d hp
    obtain ⟨p, vs, rfl, hp, hl⟩ := at_tup.mp hv
    obtain ⟨va, ws, rfl, h1, hl⟩ := atL_cons.mp hl
    obtain ⟨vb, ws, rfl, h2, hl⟩ := atL_cons.mp hl
    rw [atL_nil.mp hl] at hp
    exact ⟨p, [va, vb], rfl, SqT.of hp, rfl, va, [vb], rfl, vb, [], rfl, rfl, e.nx _ _ _ _ hn f' ((ok'.setD h1).setD h2)⟩
/-! ### dicts -/
theorem DN.ex {a : Addr} {kvs : List (NK × V)} (x : DN Pr w H a kvs) (e : Ex H H') : DN Pr w H' a kvs := by
  obtain ⟨φ, h⟩ := x.ext
  exact x.mono ((e _ _ h).trans h.symm) (.of e)
theorem un_ref {f : Bool} {l : List D} {v : V} (h : At H (.tu f l) v) : ∃ b, v = .ref b := by
  obtain ⟨a, vs, r, _⟩ := at_tu.mp h
  exact ⟨a, r⟩
theorem ev_nnotin {f : Bool} {l : List D} {a : Addr} {b : Bool} (hy : Ev K ty ss (.d (.tu f l))) (h8 : (D.tu f l).nk.depth ≤ 8) (hd : Ev K td ss (.w (.ref a))) (hk : ∀ B, Kn B ss → ∃ kvs, DN Pr w B a kvs ∧ (!(valV kvs (D.tu f l).nk).isSome) = b) : Ev K (tNNotIn Pr w ty td) ss (.d (.bl b)) := fun B F H σ Q ok q =>
  hy B F H σ _ ok fun v H1 e1 r1 => hd B F H1 σ _ (ok.mono e1) fun u H2 e2 r2 => by
    cases r2
    obtain ⟨p, rfl⟩ := un_ref r1
    obtain ⟨kvs, h1, h2⟩ := hk B ok.kn
    exact ⟨a, kvs, _, p, rfl, h1.ex (((ok.bf.trans ok.ex).trans e1).trans e2), rfl, At.ex e2 r1, h8, q _ H2 (e1.trans e2) (ad_bl' h2.symm)⟩
theorem ev_nget {f : Bool} {l : List D} {a : Addr} (hd : Ev K td ss (.w (.ref a))) (hy : Ev K ty ss (.d (.tu f l))) (h8 : (D.tu f l).nk.depth ≤ 8) (hk : ∀ B, Kn B ss → ∃ kvs v, DN Pr w B a kvs ∧ valV kvs (D.tu f l).nk = some v ∧ AAt K B x v) : Ev K (tNGet Pr w td ty) ss x := fun B F H σ Q ok q =>
  hd B F H σ _ ok fun u H1 e1 r1 => hy B F H1 σ _ (ok.mono e1) fun v H2 e2 r2 => by
    cases r1
    obtain ⟨p, rfl⟩ := un_ref r2
    obtain ⟨kvs, v, h1, h2, h3⟩ := hk B ok.kn
    have e := ((ok.bf.trans ok.ex).trans e1).trans e2
    exact ⟨a, kvs, _, p, v, rfl, h1.ex e, rfl, r2, h8, h2, q v H2 (e1.trans e2) (h3.ex e)⟩
/-- d[k] = e -/
theorem sdm_nput (hv : EvD K fp F0 tv ss P) (n : ∀ ss' d, P ss' d → ∃ a f l, Ev K td ss' (.w (.ref a)) ∧ Ev K ty ss' (.d (.tu f l)) ∧ (D.tu f l).nk.depth ≤ 8 ∧ (fp a ∨ F0 a = none) ∧
    ∀ F v, Kn F ss' → At F d v → ∃ kvs, DN Pr w F a kvs ∧ kvs.length < 100000 ∧ ∀ F2, (∃ φ, F2 = upd F a (.ext φ)) → TEx F F2 → DN Pr w F2 a (putK kvs (D.tu f l).nk v) → ∃ ss2, SRs F2 ss' ss2 ∧ N ss2) : SdM K fp F0 (sNPut Pr w td ty tv) ss N Rm Bk Ct := fun F H σ De fr ok e =>
  hv F H σ _ fr ok fun ss' d v F' H' hp hat f' ok' tx rs => by
    obtain ⟨a, f, l, h1, h2, h8, hfp, hn⟩ := n ss' d hp
    refine h1 F' F' H' σ _ ok' fun u H1 e1 r1 => ?_
    cases r1
    refine h2 F' F' H1 σ _ (ok'.mono e1) fun yv H2 e2 r2 => ?_
    obtain ⟨p, rfl⟩ := un_ref r2
    obtain ⟨F2, ex, ok2, tx2, _⟩ := ((ok'.mono e1).mono e2).rebB
    obtain ⟨kvs, g1, g2, hn⟩ := hn F2 v ok2.kn (At.mono tx2 _ (At.ex (e1.trans e2) hat))
    refine ⟨a, kvs, _, p, rfl, g1.ex ok2.ex, rfl, r2, h8, Evl.sz_lt g2, fun H4 ⟨φ, e4⟩ hD => ?_⟩
    obtain ⟨φ0, h0⟩ := g1.ext
    have tF : TEx F2 (upd F2 a (.ext φ)) := TEx.upd fun u z => by rw [h0] at z; cases z; rfl
    subst e4
    have hD2 : DN Pr w (upd F2 a (.ext φ)) a (putK kvs (D.tu f l).nk v) := hD.mono (by rw [upd_same, upd_same]) (fun b u t z => by
      have nb : b ≠ a := by rintro rfl; rw [upd_same] at z; cases z; cases t
      rw [upd_ne nb] at z ⊢
      exact tx2 b u t z)
    obtain ⟨ss2, g3, g4⟩ := hn _ ⟨φ, rfl⟩ tF hD2
    exact e.nx _ _ _ _ g4 ((f'.trans' (.of_ex ex)).mut h0 rfl hfp) (ok2.mut h0 rfl g3)
/-- {} -/
def HA.dn (Pr : Program) (w : World) (a : Addr) (φ : List (NK × V) → Hp → Prop) (st : ∀ kvs H H', φ kvs H → TEx H H' → φ kvs H') : HA := ⟨fun H => ∃ kvs, DN Pr w H a kvs ∧ φ kvs H, fun b => b = a, fun H H' ⟨kvs, h1, h2⟩ t e => by
  obtain ⟨ψ, h⟩ := h1.ext
  exact ⟨kvs, h1.mono ((e a _ rfl h).trans h.symm) t, st _ _ _ h2 t⟩⟩
theorem evm_nnew {P : List Sl → V → HA → Prop} (c : ∀ a, ∃ k : HA, (∀ H, DN Pr w H a [] → k.φ H) ∧ (∀ b, k.fp b → b = a) ∧ (F0 a = none → (∃ B, Kn B ss ∧ B a = none) → P ss (.ref a) k)) : EvM K fp F0 (tNNew Pr w) ss P := fun F H σ Q fr ok q p H2 hp ⟨o, e⟩ hD => by
  obtain ⟨k, h1, h2, h3⟩ := c p
  have eN : Ex H H2 := e ▸ Evl.Ex.new hp
  have hF : F p = none := Evl.fresh_back ok.ex hp
  obtain ⟨ψ, hψ⟩ := hD.ext
  have exF : Ex F (upd F p (.ext ψ)) := Evl.Ex.new hF
  have ex2 : Ex (upd F p (.ext ψ)) H2 := fun b u z => by
    by_cases hb : b = p
    · subst hb; rw [upd_same] at z; cases z; exact hψ
    · rw [upd_ne hb] at z; exact eN _ _ (ok.ex _ _ z)
  -- all that is ours stays ours; the rest is frozen
  obtain ⟨F1, ex1, ok1, tx1, hp1⟩ := (ok.mono eN).rebB
  have hF1 : F1 p = some (.ext ψ) := hp1 _ _ hψ fun i t hi ht z => by
    obtain ⟨o', ho', sa⟩ := (ok.mono eN).at_ i t hi
    rw [z] at ho'
    cases ho'
    cases t with
    | no => cases ht
    | own xs => obtain ⟨b, vs, r, _, g, _⟩ := sa; cases r; rw [hψ] at g; cases g
    | a x =>
      cases x with
      | l xs => obtain ⟨b, vs, r, g, _⟩ := sa; cases r; rw [hψ] at g; cases g
      | d x => cases ht
      | r x => cases ht
      | w x => cases ht
      | o x y => cases ht
  have hD1 : DN Pr w F1 p [] := hD.mono (hF1.trans hψ.symm) tx1
  have hD2 : DN Pr w (upd F p (.ext ψ)) p [] := by
    obtain ⟨ob, xs, es, ep, g1, g2, g3, g4, g5, g6, g7, g8⟩ := hD
    cases g8
    rw [hψ] at g1
    cases g1
    exact ⟨ob, [], es, ep, upd_same, g2, g3, g4, g5, g6, g7, .nil⟩
  refine q ss (.ref p) k (upd F p (.ext ψ)) H2 (h3 (fr.d _ hF) ⟨F, ok.kn, hF⟩) (h1 _ hD2) (fun a ha => .inr (by rw [h2 a ha]; exact fr.d _ hF)) (fr.trans' (.of_ex exF)) ?_ (.of eN) fun b ys z1 z2 => ⟨eN _ _ z2, ?_⟩
  · refine ⟨Ex.refl _, ex2, ok.len, fun i s hi => ?_, ok.sep⟩
    obtain ⟨o', ho', qs⟩ := (ok.mono eN).at_ i s hi
    refine ⟨o', ho', ?_⟩
    cases s with
    | no => trivial
    | a x =>
      cases x with
      | d x => exact qs
      | l xs => exact qs
      | r xs => obtain ⟨a, vs, r, h1, h2⟩ := qs; exact ⟨a, vs, r, Evl.ex_l exF h1, h2⟩
      | w u => exact qs
      | o kk u => exact ⟨qs.1, kk.ex exF qs.2⟩
    | own xs =>
      obtain ⟨a, vs, r, g2, g3, g4⟩ := qs
      refine ⟨a, vs, r, ?_, g3, g4⟩
      rw [upd_ne]
      · exact g2
      · rintro rfl; rw [hψ] at g3; cases g3
  · rw [upd_ne]
    · exact z1
    · rintro rfl; rw [hp] at z2; cases z2
/-! ### a comprehension whose items change -/
def noOwn (ss : List Sl) : Prop := ∀ s ∈ ss, s.rf = false
theorem noOwn.get {i : Nat} {s : Sl} (h : noOwn ss) (hi : ss[i]? = some s) : s.rf = false := h s (List.mem_of_getElem? hi)
theorem noOwn.set {i : Nat} {s : Sl} (h : noOwn ss) (hs : s.rf = false) : noOwn (ss.set i s) := fun t ht => by
  rcases List.mem_or_eq_of_mem_set ht with h1 | h1
  · exact h t h1
  · rw [h1]; exact hs
/-- more is frozen -/
theorem Ok.more {F2 : Hp} (ok : Ok K F F H ss σ) (hn : noOwn ss) (e1 : Ex F F2) (e2 : Ex F2 H) : Ok K F2 F2 H ss σ := by
  refine ⟨Ex.refl _, e2, ok.len, fun i s hi => ?_, ok.sep⟩
  obtain ⟨o, ho, q⟩ := ok.at_ i s hi
  refine ⟨o, ho, ?_⟩
  have hr := hn.get hi
  cases s with
  | no => trivial
  | a x =>
    cases x with
    | d x => exact q
    | l xs => exact q
    | r xs => obtain ⟨a, vs, r, h1, h2⟩ := q; exact ⟨a, vs, r, Evl.ex_l e1 h1, h2⟩
    | w u => exact q
    | o k u => exact ⟨q.1, k.ex e1 q.2⟩
  | own xs => cases hr
theorem Ok.wipe {j : Nat} (ok : Ok K F F H ss σ) (hn : noOwn ss) : Ok K F F H (ss.set j .no) (σ.set j none) := by
  refine ⟨ok.bf, ok.ex, by simp [ok.len], fun i s hi => ?_, fun i k xs s a hi => nomatch ((noOwn.set hn rfl).get hi)⟩
  by_cases e : i = j
  · subst e
    have hl : i < ss.length := by have := (List.getElem?_eq_some_iff.mp hi).1; simpa using this
    rw [List.getElem?_set_self hl] at hi
    cases hi
    exact ⟨none, by rw [List.getElem?_set_self (by rw [← ok.len]; exact hl)], trivial⟩
  · rw [List.getElem?_set_ne (Ne.symm e)] at hi
    obtain ⟨o, ho, q⟩ := ok.at_ i s hi
    exact ⟨o, by rw [List.getElem?_set_ne (Ne.symm e)]; exact ho, q⟩
theorem Ok.unwipe {j : Nat} (ok : Ok K F F H ss (σ.set j none)) (hn : noOwn ss) (hj : ss[j]? = some .no) : Ok K F F H ss σ := by
  refine ⟨ok.bf, ok.ex, by have := ok.len; simpa using this, fun i s hi => ?_, fun i k xs s a hi => nomatch hn.get hi⟩
  by_cases e : i = j
  · subst e
    rw [hj] at hi
    cases hi
    have hl : i < σ.length := by have h1 := (List.getElem?_eq_some_iff.mp hj).1; have h2 := ok.len; simp at h2; omega
    exact ⟨σ[i], List.getElem?_eq_getElem hl, trivial⟩
  · obtain ⟨o, ho, q⟩ := ok.at_ i s hi
    rw [List.getElem?_set_ne (Ne.symm e)] at ho
    exact ⟨o, ho, q⟩
/-- [e for x in l], e changes what is known: Pv tells the slots (x's is empty) and what is made -/
theorem evm_lcS {j : Nat} {l : Addr} {ds : List D} (Pv : Nat → List Sl → List D → Prop) (hfp : ∀ a, fp1 a → fp a ∨ F0 a = none) (hl : Ev K tl ss (.w (.ref l))) (hk : ∀ B, Kn B ss → ∃ vs, B l = some (.lst vs) ∧ AtL B ds vs) (hst : ∀ F F' vs i ss' acc, Kn F ss → F l = some (.lst vs) → Pv i ss' acc → Fr fp1 F F' → Kn F' ss' → F' l = some (.lst vs)) (hz : ds.length ≤ 100000)
    (h0 : Pv 0 ss []) (hj : ∀ i ss' acc, Pv i ss' acc → noOwn ss' ∧ ss'[j]? = some .no ∧ acc.length = i)
    (hs : ∀ F1, (∀ a, F1 a = none → F0 a = none) → ∀ (i : Nat) x ss' acc, ds[i]? = some x → Pv i ss' acc → EvD K fp1 F1 te (ss'.set j (.a (.d x))) fun ss2 d => noOwn ss2 ∧ Pv (i + 1) (ss2.set j .no) (acc ++ [d])) :
    EvM K fp F0 (tLc (iList K tl) (gName j) tYes te [j]) ss fun ss' v k => ∃ acc, Pv ds.length ss' acc ∧ k = HA.lst acc v := fun F H σ Q fr ok q =>
  hl F F H σ _ ok fun v H1 e1 r => by
    cases r
    obtain ⟨vs, hl1, hl2⟩ := hk F ok.kn
    have hl1' := (ok.ex.trans e1) _ _ hl1
    have okA := ok.mono e1
    refine ⟨l, rfl, ⟨vs, SqL.of hl1'⟩, fun Dl hD => ?_⟩
    have hDF : F Dl = none := Evl.fresh_back okA.ex hD
    have hlen := hl2.length
    -- the list that is made isn't frozen
    let St : Nat → Hp → Prop := fun i H' => ∃ ss' F' acc ws, Pv i ss' acc ∧ Fr fp1 F F' ∧ Ok K F' F' H' ss' (σ.set j none) ∧ F' Dl = none ∧ H' Dl = some (.lst ws) ∧ AtL H' acc ws ∧ TEx H1 H' ∧ ∀ b ys, F b = none → H1 b = some (.lst ys) → H' b = some (.lst ys) ∧ F' b = none
    obtain ⟨hno0, hj0, _⟩ := hj 0 ss [] h0
    have eD : Ex H1 (upd H1 Dl (.lst [])) := Evl.Ex.new hD
    have okW : Ok K F F (upd H1 Dl (.lst [])) ss (σ.set j none) := by
      have := (okA.mono eD).wipe (j := j) hno0
      have es : ss.set j .no = ss := by
        apply List.ext_getElem?
        intro i
        by_cases e : i = j
        · subst e
          rw [List.getElem?_set_self (List.getElem?_eq_some_iff.mp hj0).1, hj0]
        · rw [List.getElem?_set_ne (Ne.symm e)]
      rwa [es] at this
    refine lc_list (xs := vs) St ⟨ss, F, [], [], h0, Fr.refl F, okW, hDF, upd_same, atL_nil.mpr rfl, .of eD, fun b ys z1 z2 => ⟨eD _ _ z2, z1⟩⟩ (fun i H' _ ⟨ss', F', acc, ws, p1, p2, p3, _⟩ => SqL.of (p3.ex _ _ (hst F F' vs i ss' acc ok.kn hl1 p1 p2 p3.kn))) (fun i v H' hi p => ?_) fun H' p => ?_
    · obtain ⟨ss', F', acc, ws, p1, p2, p3, p4, p5, p6, p7, p8⟩ := p
      obtain ⟨x, hx, hv⟩ := hl2.back hi
      obtain ⟨_, hj', hacc⟩ := hj i ss' acc p1
      have hil : i < vs.length := (List.getElem?_eq_some_iff.mp hi).1
      have e1' : (L2.wipe σ [j]).set j (some v) = σ.set j (some v) := by
        show (σ.set j none).set j (some v) = _
        rw [List.set_set]
      show L2.wipe ((L2.wipe σ [j]).set j (some v)) [j] = L2.wipe σ [j] ∧ tYes ((L2.wipe σ [j]).set j (some v)) H' _
      rw [e1']
      refine ⟨by show (σ.set j (some v)).set j none = σ.set j none; rw [List.set_set], ?_⟩
      unfold tYes
      dsimp only
      rw [if_pos rfl]
      have tF : TEx F H' := p2.t.trans (.of p3.ex)
      have ok2 : Ok K F' F' H' (ss'.set j (.a (.d x))) (σ.set j (some v)) := by
        have := p3.setD (i := j) (At.mono tF _ hv)
        rwa [List.set_set] at this
      refine hs F fr.d i x ss' acc hx p1 F' H' _ _ p2 ok2 fun ss2 d u F2 H2 ⟨hn2, pp⟩ hu f2 ok3 tx rs => ?_
      obtain ⟨z1, z2⟩ := rs Dl ws p4 p5
      refine ⟨ws, z1, Evl.sz_lt (by rw [p6.length, hacc]; omega), ?_⟩
      have te2 : TEx H2 (upd H2 Dl (.lst (ws ++ [u]))) := TEx.upd fun zs q => by rw [z1] at q; cases q; rfl
      have okw := ok3.wipe (j := j) hn2
      rw [List.set_set] at okw
      refine ⟨ss2.set j .no, F2, acc ++ [d], ws ++ [u], pp, f2, ?_, z2, upd_same, AtL.mono te2 _ ((AtL.mono tx _ p6).append (.one hu)), (p7.trans tx).trans te2, fun b ys g1 g2 => ?_⟩
      · refine ⟨okw.bf, fun b o g => ?_, okw.len, fun i s g => ?_, okw.sep⟩
        · rw [upd_ne (by rintro rfl; rw [z2] at g; cases g)]
          exact okw.ex b o g
        · obtain ⟨o, ho, qs⟩ := okw.at_ i s g
          refine ⟨o, ho, ?_⟩
          cases s with
          | no => trivial
          | a x =>
            cases x with
            | d x => obtain ⟨v, r, g⟩ := qs; exact ⟨v, r, At.mono te2 _ g⟩
            | l xs => exact nomatch ((noOwn.set (i := j) (s := .no) hn2 rfl).get g)
            | r xs => obtain ⟨a, us, r, g1, g2⟩ := qs; exact ⟨a, us, r, g1, AtL.mono te2 _ g2⟩
            | w u => exact qs
            | o kk u => exact qs
          | own xs => exact nomatch ((noOwn.set (i := j) (s := .no) hn2 rfl).get g)
      · obtain ⟨y1, y2⟩ := p8 b ys g1 g2
        obtain ⟨y3, y4⟩ := rs b ys y2 y1
        have : b ≠ Dl := by rintro rfl; rw [hD] at g2; cases g2
        exact ⟨by rw [upd_ne this]; exact y3, y4⟩
    · obtain ⟨ss', F', acc, ws, p1, p2, p3, p4, p5, p6, p7, p8⟩ := p
      rw [hlen] at p1
      obtain ⟨hn', hj', _⟩ := hj _ ss' acc p1
      classical
      let F2 : Hp := fun b => if F' b = none ∧ b ≠ Dl ∧ (∃ ys, H' b = some (.lst ys)) then none else H' b
      have f2n : ∀ b, ¬ (F' b = none ∧ b ≠ Dl ∧ ∃ ys, H' b = some (.lst ys)) → F2 b = H' b := fun b z => if_neg z
      have f2y : ∀ b, (F' b = none ∧ b ≠ Dl ∧ ∃ ys, H' b = some (.lst ys)) → F2 b = none := fun b z => if_pos z
      have eF : Ex F' F2 := fun b u z => by rw [f2n b (fun y => by rw [y.1] at z; cases z)]; exact p3.ex b u z
      have e2 : Ex F2 H' := fun b u z => by
        by_cases hb : F' b = none ∧ b ≠ Dl ∧ ∃ ys, H' b = some (.lst ys)
        · rw [f2y b hb] at z; cases z
        · rwa [f2n b hb] at z
      have tf : TEx H' F2 := fun b u t z => by
        rw [f2n b fun ⟨_, _, ys, y⟩ => by rw [z] at y; cases y; cases t]
        exact z
      have okE := (p3.unwipe hn' hj').more hn' eF e2
      have hDF0 : F0 Dl = none := fr.d _ hDF
      refine q ss' (.ref Dl) (HA.lst acc (.ref Dl)) F2 H' ⟨acc, p1, rfl⟩ ⟨Dl, ws, rfl, by rw [f2n _ (fun y => y.2.1 rfl)]; exact p5, AtL.mono tf _ p6⟩ (fun a z => by cases z; exact .inr hDF0) ((fr.trans p2 hfp).trans' (.of_ex eF)) okE ((TEx.of e1).trans p7) fun b ys z1 z2 => ?_
      obtain ⟨y1, y2⟩ := p8 b ys z1 (e1 _ _ z2)
      exact ⟨y1, f2y b ⟨y2, (by rintro rfl; rw [e1 _ _ z2] at hD; cases hD), ys, y1⟩⟩
theorem evm_lc {j : Nat} {l : Addr} {ds : List D} (Pv : Nat → List Sl → List D → Prop) (hfp : ∀ a, fp1 a → fp a ∨ F0 a = none) (hl : Ev K tl ss (.w (.ref l))) (hk : ∀ B, Kn B ss → ∃ vs, B l = some (.lst vs) ∧ AtL B ds vs) (hno : ¬ fp1 l) (hz : ds.length ≤ 100000)
    (h0 : Pv 0 ss []) (hj : ∀ i ss' acc, Pv i ss' acc → noOwn ss' ∧ ss'[j]? = some .no ∧ acc.length = i)
    (hs : ∀ F1, (∀ a, F1 a = none → F0 a = none) → ∀ (i : Nat) x ss' acc, ds[i]? = some x → Pv i ss' acc → EvD K fp1 F1 te (ss'.set j (.a (.d x))) fun ss2 d => noOwn ss2 ∧ Pv (i + 1) (ss2.set j .no) (acc ++ [d])) :
    EvM K fp F0 (tLc (iList K tl) (gName j) tYes te [j]) ss fun ss' v k => ∃ acc, Pv ds.length ss' acc ∧ k = HA.lst acc v := evm_lcS Pv hfp hl hk (fun F F' vs i ss' acc _ h _ f _ => f.k _ _ hno h) hz h0 hj hs
/-- tuple(e), e a new list of data -/
theorem evd_tupL {P1 : List Sl → V → HA → Prop} {P : List Sl → D → Prop} (h : EvM K fp F0 te ss P1) (n : ∀ ss' v k, P1 ss' v k → ∃ acc, P ss' (.tup acc) ∧ ∀ B, k.φ B → (HA.lst acc v).φ B) : EvD K fp F0 (tCB (rTupS K) (tCons te tNil)) ss P := fun F H σ Q fr ok q =>
  h F H σ _ fr ok fun ss' v k F' H' p hk hf f' ok' tx rs => by
    obtain ⟨acc, hp, hl⟩ := n ss' v k p
    obtain ⟨a, vs, rfl, h1, h2⟩ := hl F' hk
    refine ⟨a, vs, rfl, .inl ⟨SqL.of (ok'.ex _ _ h1), fun b hb => ?_⟩⟩
    have e : Ex H' (upd H' b (.tup vs)) := Evl.Ex.new hb
    exact q ss' _ _ F' _ hp (at_tup.mpr ⟨b, vs, rfl, upd_same, (AtL.ex e (AtL.ex ok'.ex h2))⟩) f' (ok'.mono e) (tx.trans (.of e)) fun c ys g0 g1 => by
      obtain ⟨z1, z2⟩ := rs c ys g0 g1
      exact ⟨e _ _ z1, z2⟩
end
end G
/-! Rules of calls of methods, classes, a class's own __init__; with the module's part by name. -/
namespace G
open PySem L2
open Evl (Ex)
def MCal (P : Program) (w : World) (K : PySem.W.Frag) (mg : Str → Option Value) (base : Heap) (C : Addr) (m : Str) (k : Nat) (ps : List Str) (sp : Sp) : Prop :=
  ∃ f fd, Meth K C m f ∧ Binds K fd ps [] ∧ FnOk P w K mg base CX0 k f fd ps sp
def Mkc (P : Program) (w : World) (K : PySem.W.Frag) (mg : Str → Option Value) (base : Heap) (x : Str) (C : Addr) (k : Nat) (ps : List Str) (sp : Sp) : Prop :=
  ∃ f fd, mg x = some (.ref C) ∧ Mk K C f ∧ Binds K fd ps [] ∧ FnOk P w K mg base CX0 k f fd ps sp
/-- C.m, a plain def of the class, as a value -/
structure ClsM (K : PySem.W.Frag) (C f : Addr) (mc : Value) (m : Str) : Prop where
  rd : PySem.W.readsIn K C mc = true
  ga : PySem.W.specialIn K (.ref C) "__getattribute__" = some (some (.builtin "type.__getattribute__"))
  at_ : PySem.W.findCls K (.ref C) mc m = some (.val (.ref f))
  kp : PySem.W.keepIn K (.ref f) = true
def CCal (P : Program) (w : World) (K : PySem.W.Frag) (mg : Str → Option Value) (base : Heap) (x : Str) (m : Str) (k : Nat) (ps : List Str) (sp : Sp) : Prop :=
  ∃ C f fd mc, mg x = some (.ref C) ∧ ClsM K C f mc m ∧ Binds K fd ps [] ∧ FnOk P w K mg base CX0 k f fd ps sp
section
variable {X : Cx} {C : Addr} {k j : Nat} {ps : List Str} {sp : Sp} {m x : Str} {p pos apos : Pos} {e o : Expr} {es : List Expr} {ta : TE} {t : TA}
theorem pe_mcal {pl : Sem Bool} (c : Cls X.K C) (g : MCal X.prog X.w X.K X.mg X.base C m k ps sp) (hr : Room j X.A) (he : PE X o ta) (ha : PA X (e :: es) t) (hk : k ≤ j := by first | decide | omega)
    (hst : starEach (e :: es) X.env = (false, eval e X.env) :: starEach es X.env := by rfl) (hpl : (backTo pos (starEach es X.env)).any (·.1) = false := by rfl)
    (ht : eval (.Call (.Attribute o m apos) (e :: es) [] pos) X.env = (do
      let ov ← eval o X.env
      standAt apos.atName
      let (f, first) ← holding [ov] (getMethod ov m pl)
      callWith pos f first (backTo pos (starEach (e :: es) X.env)) (backToKw pos (keywordEach [] X.env))) := by rfl) :
    PE X (.Call (.Attribute o m apos) (e :: es) [] pos) (tMeth C m sp [] E0 ta t) := by
  obtain ⟨f, fd, h1, h2, h3⟩ := g
  exact pe_meth he c h1 h3 (hr.mono hk) h2 .nil pass0 ha hst hpl ht
theorem pe_mcal0 {pl : Sem Bool} (c : Cls X.K C) (g : MCal X.prog X.w X.K X.mg X.base C m k ps sp) (hr : Room j X.A) (he : PE X o ta) (hk : k ≤ j := by first | decide | omega)
    (ht : eval (.Call (.Attribute o m apos) [] [] pos) X.env = (do
      let ov ← eval o X.env
      standAt apos.atName
      let (f, first) ← holding [ov] (getMethod ov m pl)
      callWith pos f first (backTo pos (starEach [] X.env)) (backToKw pos (keywordEach [] X.env))) := by rfl) :
    PE X (.Call (.Attribute o m apos) [] [] pos) (tMeth C m sp [] E0 ta tNil) := by
  obtain ⟨f, fd, h1, h2, h3⟩ := g
  exact pe_meth0 he c h1 h3 (hr.mono hk) h2 .nil pass0 ht
theorem pe_mkc (g : Mkc X.prog X.w X.K X.mg X.base x C k ps sp) (hr : Room j X.A) (hg : Gl X x) (ha : PA X (e :: es) t) (hk : k + 1 ≤ j := by first | decide | omega) (hdb : (x == ("__debug__" : Str)) = false := by decide) (he : starEach (e :: es) X.env = (false, eval e X.env) :: starEach es X.env := by rfl) (hpl : (backTo pos (starEach es X.env)).any (·.1) = false := by rfl) :
    PE X (.Call (.Name x p) (e :: es) [] pos) (tMake C sp [] E0 t) := by
  obtain ⟨f, fd, h1, h2, h3, h4⟩ := g
  exact pe_make h2 h4 (hr.mono hk) hg h1 h3 .nil pass0 ha hdb he hpl
theorem cp_handed {a : Addr} : PySem.W.handedIn (.ref a) = true := handed_of (v := V.ref a) (show RelV (V.ref a) (Value.ref a) from rfl)
theorem pe_clsm {pl : Sem Bool} (g : CCal X.prog X.w X.K X.mg X.base x m k ps sp) (hr : Room j X.A) (hg : Gl X x) (ha : PA X (e :: es) t) (hk : k ≤ j := by first | decide | omega) (hdb : (x == ("__debug__" : Str)) = false := by decide)
    (hst : starEach (e :: es) X.env = (false, eval e X.env) :: starEach es X.env := by rfl) (hpl : (backTo pos (starEach es X.env)).any (·.1) = false := by rfl)
    (ht : eval (.Call (.Attribute (.Name x p) m apos) (e :: es) [] pos) X.env = (do
      let ov ← eval (.Name x p) X.env
      standAt apos.atName
      let (f, first) ← holding [ov] (getMethod ov m pl)
      callWith pos f first (backTo pos (starEach (e :: es) X.env)) (backToKw pos (keywordEach [] X.env))) := by rfl) :
    PE X (.Call (.Attribute (.Name x p) m apos) (e :: es) [] pos) (tCall sp [] E0 t) := by
  obtain ⟨C, f, fd, mc, h1, h2, h3, h4⟩ := g
  have he : PE X (.Name x p) (tC (.ref C)) := pe_glob hg h1 rfl hdb
  refine ⟨fun pins s σ H Q I h => ?_⟩
  refine PySem.W.methodCall_KW (pl := pl) (thn (he.run pins s σ H (fun v H1 => v = .ref C ∧ H1 = H) I ⟨rfl, rfl⟩) fun u s1 ⟨v, H1, I1, rx, ex, eH⟩ => ?_) ht
  subst ex eH
  obtain rfl : u = Value.ref C := rx
  refine PySem.W.method_cls I1.kIn h2.ga (PySem.W.cls_value I1.kIn h2.rd h2.at_ cp_handed ?_)
  refine PySem.W.callWith_K (first := []) (h₀ := X.base) I.ok.mod.kin h2.kp (thn (ha.run pos pins _ σ _ _ (I1.tok _) h) fun us s2 ⟨vs, H2, I2, r, q2⟩ => ⟨I2.kIn, ?_⟩) hst hpl
  exact run_fn h4 (hr.mono hk) h3 .nil pass0 I2 r q2
end
section
variable {X : Cx} (K : PySem.W.Frag)
theorem ps_fldK {o value : Expr} {f : Str} {pos pos' : Pos} {ta tv : TE} (ha : PE X o ta) (hv : PE X value tv) (hs : swapsWith value (some (.Attribute o f pos')) pos.line X.env = pure false) (h : X.K = K := by rfl) : PS X (.Assign [.Attribute o f pos'] value pos) (sFld K ta tv f) := h ▸ ps_fld ha hv hs
theorem pe_ins {o e e2 : Expr} {to te t2 : TE} {apos cpos : Pos} (ho : PE X o to) (he : PE X e te) (he2 : PE X e2 t2) (h : X.K = K := by rfl) (hbase : attributeBase o "insert" X.env (eval o X.env) = eval o X.env := by rfl)
    (hfew : ((backTo cpos (starEach [e, e2] X.env)).all (fun x => !x.1) && (backToKw cpos (keywordEach [] X.env)).all (fun x => x.1.isSome)
      && decide ([e, e2].length + ([] : List Keyword).length + (if ([] : List Keyword).isEmpty then 0 else 1) < 30)) = true := by rfl)
    (hline : (apos.endLine == cpos.line) = true := by rfl) (hs2 : starEach [e2] X.env = (false, eval e2 X.env) :: starEach [] X.env := by rfl) (hs : starEach [e, e2] X.env = (false, eval e X.env) :: starEach [e2] X.env := by rfl) (hplain : (backTo cpos (starEach [e2] X.env)).any (·.1) = false := by rfl) :
    PE X (.Call (.Attribute o "insert" apos) [e, e2] [] cpos) (tBM K "list" rInsert to (tCons te (tCons t2 tNil))) := h ▸ pe_bm PySem.F.plainAttrs_list PySem.F.slot_list_insert PySem.F.type_list_insert mt_insert' ho (pa_cons he (pa_cons he2 pa_nil hs2) hs) hbase hfew hline hs hplain
theorem pe_popK {o e : Expr} {to te : TE} {apos cpos : Pos} (ho : PE X o to) (he : PE X e te) (h : X.K = K := by rfl) (hbase : attributeBase o "pop" X.env (eval o X.env) = eval o X.env := by rfl)
    (hfew : ((backTo cpos (starEach [e] X.env)).all (fun x => !x.1) && (backToKw cpos (keywordEach [] X.env)).all (fun x => x.1.isSome)
      && decide ([e].length + ([] : List Keyword).length + (if ([] : List Keyword).isEmpty then 0 else 1) < 30)) = true := by rfl)
    (hline : (apos.endLine == cpos.line) = true := by rfl) (hs : starEach [e] X.env = (false, eval e X.env) :: starEach [] X.env := by rfl) (hplain : (backTo cpos (starEach [] X.env)).any (·.1) = false := by rfl) :
    PE X (.Call (.Attribute o "pop" apos) [e] [] cpos) (tBM K "list" rPopAt to (tCons te tNil)) := h ▸ pe_bm PySem.F.plainAttrs_list PySem.F.slot_list_pop PySem.F.type_list_pop mt_popAt ho (pa_cons he pa_nil hs) hbase hfew hline hs hplain
theorem call_isiK' (h : X.K = K := by rfl) : CallR X (.builtin "isinstance") (rIsi K) := h ▸ call_isi
end
/-! ### isinstance -/
section
variable {K : PySem.W.Frag} {ss : List Sl} {te ti : TE} {xs : List D}
theorem ev_clsC {T : String} : Ev K (tC (.ty T)) ss (.w (.ty T)) := fun B F H σ Q ok q => q _ H (Ex.refl H) rfl
end
end G
/-! The states of a grower. -/
namespace G
open PySem L2
theorem Way.ext' {a b : Way} (h1 : a.f = b.f) (h2 : a.last = b.last) : a = b := by cases a; cases b; cases h1; cases h2; rfl
structure Gst where
  k : Nat
  w : Way
def Gst.d (s : Gst) : D := .tup [nat s.k, s.w.d]
theorem nk_nats (l : List Nat) : D.nks (l.map nat) = l.map fun (n : Nat) => NestedKey.num (n : Int) := by
  induction l with
  | nil => rfl
  | cons a l ih => rw [List.map_cons, D.nks, D.nk, ih, List.map_cons]
theorem nks_app : ∀ a b : List D, D.nks (a ++ b) = D.nks a ++ D.nks b
  | [], b => rfl
  | x :: a, b => by rw [List.cons_append, D.nks, D.nks, nks_app a b, List.cons_append]
theorem Gst.nk_eq (s : Gst) : s.d.nk = .tup [.num (s.k : Int), .tup ((s.w.f.map fun (n : Nat) => NestedKey.num (n : Int)) ++ [.num s.w.last])] := by
  unfold Gst.d Way.d
  rw [D.nk, D.nks, D.nks, D.nks, D.nk, D.nk, nks_app, nk_nats, D.nks, D.nks, D.nk]
theorem num_inj {a b : Int} (h : NestedKey.num a = NestedKey.num b) : a = b := by injection h
theorem Gst.nk_inj {a b : Gst} (h : a.d.nk = b.d.nk) : a = b := by
  rw [Gst.nk_eq, Gst.nk_eq] at h
  injection h with h
  injection h with h1 h2
  injection h2 with h2 _
  injection h2 with h2
  injection h1 with h1
  have h3 := List.append_inj' h2 rfl
  have e1 : a.w.f = b.w.f := by
    have := h3.1
    have inj : ∀ l m : List Nat, (l.map fun (n : Nat) => NestedKey.num (n : Int)) = (m.map fun (n : Nat) => NestedKey.num (n : Int)) → l = m := by
      intro l
      induction l with
      | nil => intro m e; cases m with | nil => rfl | cons _ _ => simp at e
      | cons x l ih =>
        intro m e
        cases m with
        | nil => simp at e
        | cons y m =>
          rw [List.map_cons, List.map_cons] at e
          injection e with e1 e2
          injection e1 with e1
          rw [ih m e2, Int.ofNat.inj e1]
    exact inj _ _ this
  have e2 : a.w.last = b.w.last := by
    have := h3.2
    injection this with this _
    injection this
  cases a
  cases b
  simp only at e1 e2 h1
  rw [Way.ext' e1 e2, Int.ofNat.inj h1]
theorem depthAll_nums {α : Type} (g : α → Int) : ∀ l : List α, NestedKey.depthAll (l.map fun n => .num (g n)) = 0
  | [] => by rw [List.map_nil, NestedKey.depthAll]
  | n :: l => by rw [List.map_cons, NestedKey.depthAll, NestedKey.depth, depthAll_nums g l]; rfl
theorem depthAll_app : ∀ a b : List NestedKey, NestedKey.depthAll (a ++ b) = max (NestedKey.depthAll a) (NestedKey.depthAll b)
  | [], b => by rw [List.nil_append, NestedKey.depthAll]; omega
  | x :: a, b => by rw [List.cons_append, NestedKey.depthAll, NestedKey.depthAll, depthAll_app a b]; omega
theorem Gst.nk_depth (s : Gst) : s.d.nk.depth ≤ 8 := by
  rw [Gst.nk_eq, NestedKey.depth, NestedKey.depthAll, NestedKey.depthAll, NestedKey.depthAll, NestedKey.depth, NestedKey.depth, depthAll_app, depthAll_nums, NestedKey.depthAll, NestedKey.depthAll, NestedKey.depth]
  decide
/-! ### what a state's way is turned into -/
section
variable (m : M) (t : Tr) (L : List Str)
def Gst.name (s : Gst) : Str := if s.k < L.length then L.getD s.k "" else ""
def tw (s : Gst) : Way := match t.look (s.name L) with
  | none => Way.one m (s.w.f.getD (m.start (s.name L)) 0)
  | some is => Item.wf m s.w (Way.none m) is
def gstep (a b : Gst) : Gst := ⟨a.k, a.w.behind (tw m t L b)⟩
def gmark (s : Gst) : Nat := if (tw m t L s).last < 0 then 0 else m.marks.getD (tw m t L s).last.toNat 0
end
/-- the ways that may be met -/
def WU (m : M) (n : Nat) (w : Way) : Prop := w = Way.none m ∨ (∃ q, q < n ∧ w = Way.one m q) ∨ (w.f.length = n ∧ (∀ s ∈ w.f, s < n) ∧ w.last = -2)
section
variable {m : M} {n : Nat} {t : Tr} {L : List Str}
theorem WU.ok (hm : m.Ok n) {w : Way} (h : WU m n w) : w.Ok n := by
  rcases h with rfl | ⟨q, hq, rfl⟩ | ⟨h1, h2, _⟩
  · exact Way.none_ok hm
  · exact Way.one_ok hm hq
  · exact ⟨h1, h2⟩
theorem map_getD_range : ∀ (f : List Nat) (n : Nat), (∀ s ∈ f, s < n) → (f.map fun s => (List.range n).getD s 0) = f
  | [], n, _ => rfl
  | a :: f, n, h => by
    have ha := h a List.mem_cons_self
    rw [List.map_cons, map_getD_range f n fun s hs => h s (List.mem_cons_of_mem _ hs)]
    congr 1
    rw [List.getD_eq_getElem?_getD, List.getElem?_range ha]
    rfl
theorem range_map_getD {f : List Nat} : ((List.range f.length).map fun s => f.getD s 0) = f := by
  apply List.ext_getElem?
  intro i
  by_cases h : i < f.length
  · rw [List.getElem?_map, List.getElem?_range h, List.getElem?_eq_getElem h, Option.map_some, List.getD_eq_getElem?_getD, List.getElem?_eq_getElem h]
    rfl
  · rw [List.getElem?_eq_none (by simpa using h), List.getElem?_eq_none (by simpa using h)]
theorem behind_none (hm : m.Ok n) {w : Way} (h : w.Ok n) : w.behind (Way.none m) = w := by
  refine Way.ext' ?_ ?_
  · show (w.f.map fun s => (List.range m.steps.length).getD s 0) = w.f
    rw [hm.sp]
    exact map_getD_range _ _ h.bd
  · show (if (-1 : Int) = -1 then w.last else if w.last = -1 then (-1 : Int) else -2) = w.last
    rw [if_pos rfl]
theorem none_behind (hm : m.Ok n) {w : Way} (h : w.Ok n) : (Way.none m).behind w = w := by
  refine Way.ext' ?_ ?_
  · show ((List.range m.steps.length).map fun s => w.f.getD s 0) = w.f
    rw [hm.sp, ← h.len]
    exact range_map_getD
  · show (if w.last = -1 then (-1 : Int) else if (-1 : Int) = -1 then w.last else -2) = w.last
    by_cases e : w.last = -1
    · rw [if_pos e, e]
    · rw [if_neg e, if_pos rfl]
theorem WU.last {w : Way} (h : WU m n w) : w = Way.none m ∨ w.last ≠ -1 := by
  rcases h with rfl | ⟨q, hq, rfl⟩ | ⟨_, _, e⟩
  · exact .inl rfl
  · exact .inr (by show (q : Int) ≠ -1; omega)
  · exact .inr (by rw [e]; decide)
theorem WU.behind (hm : m.Ok n) {a b : Way} (ha : WU m n a) (hb : WU m n b) : WU m n (a.behind b) := by
  rcases ha.last with rfl | ea
  · rw [none_behind hm (hb.ok hm)]; exact hb
  · rcases hb.last with rfl | eb
    · rw [behind_none hm (ha.ok hm)]; exact ha
    · have ho := Way.behind_ok (ha.ok hm) (hb.ok hm)
      refine .inr (.inr ⟨ho.len, ho.bd, ?_⟩)
      show (if b.last = -1 then a.last else if a.last = -1 then b.last else -2) = -2
      rw [if_neg eb, if_neg ea]
theorem WU.wf (hm : m.Ok n) {w : Way} (hw : WU m n w) : ∀ (ks : List Item) {acc : Way}, WU m n acc → WU m n (Item.wf m w acc ks)
  | [], acc, h => by rw [Item.wf]; exact h
  | k :: ks, acc, h => by
    rw [Item.wf]
    refine WU.wf hm hw ks (WU.behind hm h ?_)
    cases k.isHole with
    | true => exact hw
    | false => exact .inr (.inl ⟨_, Item.wst_lt hm (hw.ok hm) k, rfl⟩)
theorem tw_wu (hm : m.Ok n) {s : Gst} (hw : WU m n s.w) : WU m n (tw m t L s) := by
  unfold tw
  split
  · exact .inr (.inl ⟨_, Way.getD_lt (hw.ok hm) (hm.start_lt _), rfl⟩)
  · exact WU.wf hm hw _ (.inl rfl)
theorem tw_last (hm : m.Ok n) {w : Way} (hw : WU m n w) (h : ¬ w.last < 0) : ∃ q, q < n ∧ w.last = (q : Int) := by
  rcases hw with rfl | ⟨q, hq, rfl⟩ | ⟨_, _, e⟩
  · exact absurd (show (-1 : Int) < 0 by decide) h
  · exact ⟨q, hq, rfl⟩
  · rw [e] at h; exact absurd (by decide) h
/-- the states that may be met -/
def SU (m : M) (n : Nat) (L : List Str) (s : Gst) : Prop := s.k ≤ L.length ∧ WU m n s.w
theorem SU.step (hm : m.Ok n) {a b : Gst} (ha : SU m n L a) (hb : SU m n L b) : SU m n L (gstep m t L a b) := ⟨ha.1, WU.behind hm ha.2 (tw_wu hm hb.2)⟩
def funs (n : Nat) : Nat → List (List Nat)
  | 0 => [[]]
  | k + 1 => (List.range n).flatMap fun a => (funs n k).map (a :: ·)
theorem funs_mem (n : Nat) : ∀ (f : List Nat), (∀ s ∈ f, s < n) → f ∈ funs n f.length
  | [], _ => by rw [List.length_nil, funs]; exact List.mem_singleton.mpr rfl
  | a :: f, h => by
    rw [List.length_cons, funs, List.mem_flatMap]
    exact ⟨a, List.mem_range.mpr (h a List.mem_cons_self), List.mem_map.mpr ⟨f, funs_mem n f fun s hs => h s (List.mem_cons_of_mem _ hs), rfl⟩⟩
theorem sum_const {α : Type} (c : Nat) : ∀ l : List α, (l.map fun _ => c).sum = l.length * c
  | [] => by simp
  | a :: l => by rw [List.map_cons, List.sum_cons, sum_const c l, List.length_cons, Nat.succ_mul, Nat.add_comm]
theorem funs_len (n : Nat) : ∀ k, (funs n k).length = n ^ k
  | 0 => rfl
  | k + 1 => by
    rw [funs, List.length_flatMap]
    have : ((List.range n).map fun a => ((funs n k).map (a :: ·)).length) = (List.range n).map fun _ => n ^ k := List.map_congr_left fun a _ => by rw [List.length_map, funs_len n k]
    rw [this, sum_const, List.length_range, Nat.pow_succ, Nat.mul_comm]
def univ (m : M) (n : Nat) (L : List Str) : List Gst := (List.range (L.length + 1)).flatMap fun k => ((Way.none m :: (List.range n).map (Way.one m)) ++ (funs n n).map fun f => (⟨f, -2⟩ : Way)).map fun w => (⟨k, w⟩ : Gst)
theorem univ_mem {s : Gst} (h : SU m n L s) : s ∈ univ m n L := by
  obtain ⟨k, w⟩ := s
  obtain ⟨h1, h2⟩ := h
  unfold univ
  rw [List.mem_flatMap]
  refine ⟨k, List.mem_range.mpr (Nat.lt_succ_of_le h1), List.mem_map.mpr ⟨w, ?_, rfl⟩⟩
  rw [List.mem_append, List.mem_cons]
  rcases h2 with e | ⟨q, hq, e⟩ | ⟨e1, e2, e3⟩
  · exact .inl (.inl e)
  · exact .inl (.inr (List.mem_map.mpr ⟨q, List.mem_range.mpr hq, e.symm⟩))
  · refine .inr (List.mem_map.mpr ⟨w.f, ?_, ?_⟩)
    · have := funs_mem n w.f e2
      rwa [e1] at this
    · exact Way.ext' rfl e3.symm
theorem univ_len : (univ m n L).length = (L.length + 1) * (1 + n + n ^ n) := by
  unfold univ
  rw [List.length_flatMap]
  have : ((List.range (L.length + 1)).map fun k => (((Way.none m :: (List.range n).map (Way.one m)) ++ (funs n n).map fun f => (⟨f, -2⟩ : Way)).map fun w => (⟨k, w⟩ : Gst)).length) = (List.range (L.length + 1)).map fun _ => 1 + n + n ^ n := List.map_congr_left fun k _ => by
    rw [List.length_map, List.length_append, List.length_cons, List.length_map, List.length_map, List.length_range, funs_len]
    omega
  rw [this, sum_const, List.length_range]
theorem SU.count (hb : (L.length + 1) * (1 + n + n ^ n) ≤ 64) {S : List Gst} (h1 : S.Nodup) (h2 : ∀ s ∈ S, SU m n L s) : S.length ≤ 64 := by
  have := nd_len h1 (m := univ m n L) fun s hs => univ_mem (h2 s hs)
  rw [univ_len] at this
  omega
end
end G
/-! What is known of a grower. -/
namespace G
open PySem L2
open Evl (Ex)
structure GrA where
  C : Addr
  g : Addr
  d1 : Addr
  l1 : Addr
  l2 : Addr
  d2 : Addr
def fsG (a : GrA) (vg vm : V) : List (Str × V) := [("numbers", .ref a.d1), ("states", .ref a.l1), ("graft", vg), ("machine", vm), ("names", .ref a.l2), ("ways", .ref a.d2)]
def fpG (a : GrA) : Addr → Prop := fun b => b = a.g ∨ b = a.d1 ∨ b = a.l1 ∨ b = a.l2 ∨ b = a.d2
structure GrF (Pr : Program) (w : World) (a : GrA) (m : M) (t : Tr) (L : List Str) (n : Nat) (N S W : List Gst) (H : Hp) (dx : Addr) (vg vm : V) (kv1 : List (NK × V)) (vs : List V) (kv2 : List (NK × V)) : Prop where
  d12 : a.d1 ≠ a.d2
  l12 : a.l1 ≠ a.l2
  g : H a.g = some (.ins a.C dx (fsG a vg vm))
  gr : At H t.d vg
  ma : At H m.d vm
  n1 : DN Pr w H a.d1 kv1
  nl : kv1.length = N.length
  nv : ∀ (i : Nat) s, N[i]? = some s → valV kv1 s.d.nk = some (.int i)
  nn : ∀ s, s ∉ N → valV kv1 s.d.nk = none
  s1 : H a.l1 = some (.lst vs)
  sl : AtL H (S.map Gst.d) vs
  na : H a.l2 = some (.lst (L.map V.str))
  w1 : DN Pr w H a.d2 kv2
  wl : kv2.length = W.length
  wd : W.Nodup
  wu : ∀ s ∈ W, SU m n L s
  wv : ∀ s ∈ W, ∃ v, valV kv2 s.d.nk = some v ∧ At H (tw m t L s).d v
  wn : ∀ s, s ∉ W → valV kv2 s.d.nk = none
section
variable {Pr : Program} {w : World} {a : GrA} {m : M} {t : Tr} {L : List Str} {n : Nat} {N S W : List Gst} {H H' : Hp} {dx : Addr} {vg vm : V} {kv1 kv2 : List (NK × V)} {vs : List V}
theorem GrF.mono (x : GrF Pr w a m t L n N S W H dx vg vm kv1 vs kv2) (tx : TEx H H') (e : ∀ b o, fpG a b → H b = some o → H' b = some o) : GrF Pr w a m t L n N S W H' dx vg vm kv1 vs kv2 := by
  obtain ⟨φ1, e1⟩ := x.n1.ext
  obtain ⟨φ2, e2⟩ := x.w1.ext
  exact { x with
    g := e _ _ (.inl rfl) x.g
    gr := At.mono tx _ x.gr
    ma := At.mono tx _ x.ma
    n1 := x.n1.mono ((e _ _ (.inr (.inl rfl)) e1).trans e1.symm) tx
    s1 := e _ _ (.inr (.inr (.inl rfl))) x.s1
    sl := AtL.mono tx _ x.sl
    na := e _ _ (.inr (.inr (.inr (.inl rfl)))) x.na
    w1 := x.w1.mono ((e _ _ (.inr (.inr (.inr (.inr rfl)))) e2).trans e2.symm) tx
    wv := fun s hs => let ⟨v, h1, h2⟩ := x.wv s hs; ⟨v, h1, At.mono tx _ h2⟩ }
end
def HA.grow (Pr : Program) (w : World) (a : GrA) (m : M) (t : Tr) (L : List Str) (n : Nat) (N S : List Gst) : HA := ⟨fun H => ∃ W dx vg vm kv1 vs kv2, GrF Pr w a m t L n N S W H dx vg vm kv1 vs kv2, fpG a,
  fun H H' ⟨W, dx, vg, vm, kv1, vs, kv2, x⟩ tx e => ⟨W, dx, vg, vm, kv1, vs, kv2, x.mono tx e⟩⟩
/-- all of a grower's things are there -/
theorem HA.grow_al {Pr : Program} {w : World} {a : GrA} {m : M} {t : Tr} {L : List Str} {n : Nat} {N S : List Gst} {H : Hp} (h : (HA.grow Pr w a m t L n N S).φ H) : ∀ b, fpG a b → H b ≠ none := by
  obtain ⟨W, dx, vg, vm, kv1, vs, kv2, x⟩ := h
  obtain ⟨φ1, e1⟩ := x.n1.ext
  obtain ⟨φ2, e2⟩ := x.w1.ext
  rintro b (rfl | rfl | rfl | rfl | rfl)
  · rw [x.g]; intro z; cases z
  · rw [e1]; intro z; cases z
  · rw [x.s1]; intro z; cases z
  · rw [x.na]; intro z; cases z
  · rw [e2]; intro z; cases z
structure ClsG (K : PySem.W.Frag) (C : Addr) : Prop where
  c : Cls K C
  n1 : NoAttr K C "numbers"
  n2 : NoAttr K C "states"
  n3 : NoAttr K C "graft"
  n4 : NoAttr K C "machine"
  n5 : NoAttr K C "names"
  n6 : NoAttr K C "ways"
section
variable {Pr : Program} {w : World} {K : PySem.W.Frag} {a : GrA} {m : M} {t : Tr} {L : List Str} {n : Nat} {N S : List Gst} {ss : List Sl} {te ti : TE} {i : Nat}
/-- the grower stands in slot i -/
abbrev GrS (Pr : Program) (w : World) (a : GrA) (m : M) (t : Tr) (L : List Str) (n : Nat) (N S : List Gst) : Sl := .a (.o (HA.grow Pr w a m t L n N S) (.ref a.g))
def HA.growW (Pr : Program) (w : World) (a : GrA) (m : M) (t : Tr) (L : List Str) (n : Nat) (N S W : List Gst) : HA := ⟨fun H => ∃ dx vg vm kv1 vs kv2, GrF Pr w a m t L n N S W H dx vg vm kv1 vs kv2, fpG a,
  fun H H' ⟨dx, vg, vm, kv1, vs, kv2, x⟩ tx e => ⟨dx, vg, vm, kv1, vs, kv2, x.mono tx e⟩⟩
/-- the same, the list of the states' own items fixed (or not) -/
def HA.growO (Pr : Program) (w : World) (a : GrA) (m : M) (t : Tr) (L : List Str) (n : Nat) (N S : List Gst) (o : Option (List V)) : HA := ⟨fun H => ∃ W dx vg vm kv1 vs kv2, GrF Pr w a m t L n N S W H dx vg vm kv1 vs kv2 ∧ ∀ v0, o = some v0 → vs = v0, fpG a,
  fun H H' ⟨W, dx, vg, vm, kv1, vs, kv2, x, y⟩ tx e => ⟨W, dx, vg, vm, kv1, vs, kv2, x.mono tx e, y⟩⟩
def HA.growWV (Pr : Program) (w : World) (a : GrA) (m : M) (t : Tr) (L : List Str) (n : Nat) (N S W : List Gst) (vs : List V) : HA := ⟨fun H => ∃ dx vg vm kv1 kv2, GrF Pr w a m t L n N S W H dx vg vm kv1 vs kv2, fpG a,
  fun H H' ⟨dx, vg, vm, kv1, kv2, x⟩ tx e => ⟨dx, vg, vm, kv1, kv2, x.mono tx e⟩⟩
abbrev GrSO (Pr : Program) (w : World) (a : GrA) (m : M) (t : Tr) (L : List Str) (n : Nat) (N S : List Gst) (o : Option (List V)) : Sl := .a (.o (HA.growO Pr w a m t L n N S o) (.ref a.g))
abbrev GrSWV (Pr : Program) (w : World) (a : GrA) (m : M) (t : Tr) (L : List Str) (n : Nat) (N S W : List Gst) (vs : List V) : Sl := .a (.o (HA.growWV Pr w a m t L n N S W vs) (.ref a.g))
abbrev GrSW (Pr : Program) (w : World) (a : GrA) (m : M) (t : Tr) (L : List Str) (n : Nat) (N S W : List Gst) : Sl := .a (.o (HA.growW Pr w a m t L n N S W) (.ref a.g))
def GrL (k : HA) (Pr : Program) (w : World) (a : GrA) (m : M) (t : Tr) (L : List Str) (n : Nat) (N S : List Gst) : Prop := ∀ B, k.φ B → (HA.grow Pr w a m t L n N S).φ B
theorem grL_grow : GrL (HA.grow Pr w a m t L n N S) Pr w a m t L n N S := fun _ h => h
theorem grL_growW {W : List Gst} : GrL (HA.growW Pr w a m t L n N S W) Pr w a m t L n N S := fun _ ⟨dx, vg, vm, kv1, vs, kv2, x⟩ => ⟨W, dx, vg, vm, kv1, vs, kv2, x⟩
theorem grL_growO {o : Option (List V)} : GrL (HA.growO Pr w a m t L n N S o) Pr w a m t L n N S := fun _ ⟨W, dx, vg, vm, kv1, vs, kv2, x, _⟩ => ⟨W, dx, vg, vm, kv1, vs, kv2, x⟩
theorem grL_growWV {W : List Gst} {vs : List V} : GrL (HA.growWV Pr w a m t L n N S W vs) Pr w a m t L n N S := fun _ ⟨dx, vg, vm, kv1, kv2, x⟩ => ⟨W, dx, vg, vm, kv1, vs, kv2, x⟩
theorem growO_of {B : Hp} (h : (HA.grow Pr w a m t L n N S).φ B) : (HA.growO Pr w a m t L n N S none).φ B := by
  obtain ⟨W, dx, vg, vm, kv1, vs, kv2, x⟩ := h
  exact ⟨W, dx, vg, vm, kv1, vs, kv2, x, fun v0 z => nomatch z⟩
variable {k : HA}
theorem ev_numbers (c : ClsG K a.C) (h : ss[i]? = some (.a (.o k (.ref a.g))) := by rfl) (hl : GrL k Pr w a m t L n N S := by first | exact grL_grow | exact grL_growW | exact grL_growO | exact grL_growWV) : Ev K (tFld K (tVar i) "numbers") ss (.w (.ref a.d1)) := ev_fld (ev_o h) c.c c.n1 fun B kn => by
  obtain ⟨W, dx, vg, vm, kv1, vs, kv2, x⟩ := hl B (kn i _ _ h)
  exact ⟨dx, _, _, x.g, rfl, rfl⟩
theorem ev_states (c : ClsG K a.C) (h : ss[i]? = some (.a (.o k (.ref a.g))) := by rfl) (hl : GrL k Pr w a m t L n N S := by first | exact grL_grow | exact grL_growW | exact grL_growO | exact grL_growWV) : Ev K (tFld K (tVar i) "states") ss (.w (.ref a.l1)) := ev_fld (ev_o h) c.c c.n2 fun B kn => by
  obtain ⟨W, dx, vg, vm, kv1, vs, kv2, x⟩ := hl B (kn i _ _ h)
  exact ⟨dx, _, _, x.g, rfl, rfl⟩
theorem ev_graft (c : ClsG K a.C) (h : ss[i]? = some (.a (.o k (.ref a.g))) := by rfl) (hl : GrL k Pr w a m t L n N S := by first | exact grL_grow | exact grL_growW | exact grL_growO | exact grL_growWV) : Ev K (tFld K (tVar i) "graft") ss (.d t.d) := ev_fld (ev_o h) c.c c.n3 fun B kn => by
  obtain ⟨W, dx, vg, vm, kv1, vs, kv2, x⟩ := hl B (kn i _ _ h)
  exact ⟨dx, _, _, x.g, rfl, x.gr⟩
theorem ev_machine (c : ClsG K a.C) (h : ss[i]? = some (.a (.o k (.ref a.g))) := by rfl) (hl : GrL k Pr w a m t L n N S := by first | exact grL_grow | exact grL_growW | exact grL_growO | exact grL_growWV) : Ev K (tFld K (tVar i) "machine") ss (.d m.d) := ev_fld (ev_o h) c.c c.n4 fun B kn => by
  obtain ⟨W, dx, vg, vm, kv1, vs, kv2, x⟩ := hl B (kn i _ _ h)
  exact ⟨dx, _, _, x.g, rfl, x.ma⟩
theorem ev_names (c : ClsG K a.C) (h : ss[i]? = some (.a (.o k (.ref a.g))) := by rfl) (hl : GrL k Pr w a m t L n N S := by first | exact grL_grow | exact grL_growW | exact grL_growO | exact grL_growWV) : Ev K (tFld K (tVar i) "names") ss (.l (L.map .str)) := ev_fld (ev_o h) c.c c.n5 fun B kn => by
  obtain ⟨W, dx, vg, vm, kv1, vs, kv2, x⟩ := hl B (kn i _ _ h)
  exact ⟨dx, _, _, x.g, rfl, _, _, rfl, x.na, atL_strs.mpr rfl⟩
theorem ev_ways (c : ClsG K a.C) (h : ss[i]? = some (.a (.o k (.ref a.g))) := by rfl) (hl : GrL k Pr w a m t L n N S := by first | exact grL_grow | exact grL_growW | exact grL_growO | exact grL_growWV) : Ev K (tFld K (tVar i) "ways") ss (.w (.ref a.d2)) := ev_fld (ev_o h) c.c c.n6 fun B kn => by
  obtain ⟨W, dx, vg, vm, kv1, vs, kv2, x⟩ := hl B (kn i _ _ h)
  exact ⟨dx, _, _, x.g, rfl, rfl⟩
theorem ev_nstates (c : ClsG K a.C) (h : ss[i]? = some (.a (.o k (.ref a.g))) := by rfl) (hl : GrL k Pr w a m t L n N S := by first | exact grL_grow | exact grL_growW | exact grL_growO | exact grL_growWV) : Ev K (tCB (Evl.rLenS K) (tCons (tFld K (tVar i) "states") tNil)) ss (.d (nat S.length)) := ev_lenO (ev_states c h hl) fun B kn => by
  obtain ⟨W, dx, vg, vm, kv1, vs, kv2, x⟩ := hl B (kn i _ _ h)
  exact ⟨vs, x.s1, by rw [x.sl.length, List.length_map]⟩
theorem ev_state {p : Nat} {s : Gst} (c : ClsG K a.C) (h2 : Ev K ti ss (.d (nat p))) (hs : S[p]? = some s) (h : ss[i]? = some (.a (.o k (.ref a.g))) := by rfl) (hl : GrL k Pr w a m t L n N S := by first | exact grL_grow | exact grL_growW | exact grL_growO | exact grL_growWV) : Ev K (tOp (rIxL K) (tFld K (tVar i) "states") ti) ss (.d s.d) := ev_ixO (ev_states c h hl) h2 fun B kn => by
  obtain ⟨W, dx, vg, vm, kv1, vs, kv2, x⟩ := hl B (kn i _ _ h)
  obtain ⟨v, h3, h4⟩ := x.sl.get (i := p) (d := s.d) (by rw [List.getElem?_map, hs]; rfl)
  exact ⟨vs, v, x.s1, atI_nat h3, h4⟩
end
/-- what a slot knows is told apart -/
theorem sdm_spec {K : PySem.W.Frag} {fp : Addr → Prop} {F0 : Hp} {ss : List Sl} {t : TS} {N Bk Ct : SN} {Rm : RM} {i : Nat} {k : HA} {u : V} {Pk : HA → Prop} (h : ss[i]? = some (.a (.o k u))) (hc : ∀ B, k.φ B → ∃ k', Pk k' ∧ k'.φ B) (hs : ∀ k', Pk k' → SdM K fp F0 t (ss.set i (.a (.o k' u))) N Rm Bk Ct) : SdM K fp F0 t ss N Rm Bk Ct := fun F H σ D f ok e => by
  obtain ⟨k', h1, h2⟩ := hc F (ok.kn i k u h)
  obtain ⟨o, ho, q⟩ := ok.at_ i _ h
  have e1 : σ.set i (some u) = σ := by
    rw [q.1] at ho
    apply List.ext_getElem?
    intro j
    by_cases hj : j = i
    · subst hj
      rw [List.getElem?_set_self (List.getElem?_eq_some_iff.mp ho).1, ho]
    · rw [List.getElem?_set_ne (Ne.symm hj)]
  have ok2 := ok.setO (i := i) (v := u) h2
  rw [e1] at ok2
  exact hs k' h1 F H σ D f ok2 e
end G
namespace G
open PySem L2
open Evl (Ex)
section
variable {Pr : Program} {w : World} {a : GrA} {m : M} {t : Tr} {L : List Str} {n : Nat} {N S W : List Gst} {F F2 : Hp} {dx : Addr} {vg vm : V} {kv1 kv2 : List (NK × V)} {vs : List V} {s : Gst} {φ : Heap → Prop} {v y : V}
theorem GrF.put1 (x : GrF Pr w a m t L n N S W F dx vg vm kv1 vs kv2) (e : F2 = upd F a.d1 (.ext φ)) (tx : TEx F F2) (hD : DN Pr w F2 a.d1 (putK kv1 s.d.nk (.int N.length))) (hs : s ∉ N) : GrF Pr w a m t L n (N ++ [s]) S W F2 dx vg vm (putK kv1 s.d.nk (.int N.length)) vs kv2 := by
  subst e
  obtain ⟨φ1, e1⟩ := x.n1.ext
  obtain ⟨φ2, e2⟩ := x.w1.ext
  exact { x with
    g := by rw [upd_ne (ne_of x.g e1 (by intro z; cases z))]; exact x.g
    gr := At.mono tx _ x.gr
    ma := At.mono tx _ x.ma
    n1 := hD
    nl := by rw [putK_new _ (x.nn s hs), List.length_append, List.length_append, x.nl]; rfl
    nv := fun i s' hi => by
      rw [valV_put]
      by_cases q : s'.d.nk = s.d.nk
      · rw [if_pos q]
        obtain rfl := Gst.nk_inj q
        rcases Nat.lt_or_ge i N.length with h | h
        · rw [List.getElem?_append_left h] at hi
          exact absurd (List.mem_of_getElem? hi) hs
        · rw [List.getElem?_append_right h] at hi
          have : i - N.length = 0 := by
            have := (List.getElem?_eq_some_iff.mp hi).1
            simp at this
            exact this
          rw [show i = N.length by omega]
      · rw [if_neg q]
        rcases Nat.lt_or_ge i N.length with h | h
        · rw [List.getElem?_append_left h] at hi
          exact x.nv i s' hi
        · rw [List.getElem?_append_right h] at hi
          have h1 := List.mem_of_getElem? hi
          rw [List.mem_singleton.mp h1] at q
          exact absurd rfl q
    nn := fun s' h => by
      rw [valV_put, if_neg fun q => h (by rw [Gst.nk_inj q]; simp)]
      exact x.nn s' fun z => h (List.mem_append_left _ z)
    s1 := by rw [upd_ne (ne_of x.s1 e1 (by intro z; cases z))]; exact x.s1
    sl := AtL.mono tx _ x.sl
    na := by rw [upd_ne (ne_of x.na e1 (by intro z; cases z))]; exact x.na
    w1 := x.w1.mono (upd_ne x.d12.symm) tx
    wv := fun s hs => let ⟨v, h1, h2⟩ := x.wv s hs; ⟨v, h1, At.mono tx _ h2⟩ }
theorem GrF.put2 (x : GrF Pr w a m t L n N S W F dx vg vm kv1 vs kv2) (e : F2 = upd F a.d2 (.ext φ)) (tx : TEx F F2) (hD : DN Pr w F2 a.d2 (putK kv2 s.d.nk v)) (hs : s ∉ W) (hu : SU m n L s) (hv : At F (tw m t L s).d v) : GrF Pr w a m t L n N S (s :: W) F2 dx vg vm kv1 vs (putK kv2 s.d.nk v) := by
  subst e
  obtain ⟨φ1, e1⟩ := x.n1.ext
  obtain ⟨φ2, e2⟩ := x.w1.ext
  exact { x with
    g := by rw [upd_ne (ne_of x.g e2 (by intro z; cases z))]; exact x.g
    gr := At.mono tx _ x.gr
    ma := At.mono tx _ x.ma
    n1 := x.n1.mono (upd_ne x.d12) tx
    s1 := by rw [upd_ne (ne_of x.s1 e2 (by intro z; cases z))]; exact x.s1
    sl := AtL.mono tx _ x.sl
    na := by rw [upd_ne (ne_of x.na e2 (by intro z; cases z))]; exact x.na
    w1 := hD
    wl := by rw [putK_new _ (x.wn s hs), List.length_append, List.length_cons, x.wl]; rfl
    wd := List.nodup_cons.mpr ⟨hs, x.wd⟩
    wu := fun s' h => by
      rcases List.mem_cons.mp h with rfl | h
      · exact hu
      · exact x.wu s' h
    wv := fun s' h => by
      rw [valV_put]
      by_cases q : s'.d.nk = s.d.nk
      · rw [if_pos q]
        obtain rfl := Gst.nk_inj q
        exact ⟨v, rfl, At.mono tx _ hv⟩
      · rw [if_neg q]
        rcases List.mem_cons.mp h with rfl | h
        · exact absurd rfl q
        · obtain ⟨v, h1, h2⟩ := x.wv s' h
          exact ⟨v, h1, At.mono tx _ h2⟩
    wn := fun s' h => by
      rw [valV_put, if_neg fun q => h (by rw [Gst.nk_inj q]; simp)]
      exact x.wn s' fun z => h (List.mem_cons_of_mem _ z) }
theorem GrF.app (x : GrF Pr w a m t L n N S W F dx vg vm kv1 vs kv2) (hy : At F s.d y) : GrF Pr w a m t L n N (S ++ [s]) W (upd F a.l1 (.lst (vs ++ [y]))) dx vg vm kv1 (vs ++ [y]) kv2 := by
  obtain ⟨φ1, e1⟩ := x.n1.ext
  obtain ⟨φ2, e2⟩ := x.w1.ext
  have tx : TEx F (upd F a.l1 (.lst (vs ++ [y]))) := TEx.upd fun u e => by rw [x.s1] at e; cases e; rfl
  exact { x with
    g := by rw [upd_ne (ne_of x.g x.s1 (by intro z; cases z))]; exact x.g
    gr := At.mono tx _ x.gr
    ma := At.mono tx _ x.ma
    n1 := x.n1.mono (upd_ne (ne_of e1 x.s1 (by intro z; cases z))) tx
    s1 := upd_same
    sl := by rw [List.map_append]; exact AtL.mono tx _ (x.sl.append (.one hy))
    na := by rw [upd_ne x.l12.symm]; exact x.na
    w1 := x.w1.mono (upd_ne (ne_of e2 x.s1 (by intro z; cases z))) tx
    wv := fun s hs => let ⟨v, h1, h2⟩ := x.wv s hs; ⟨v, h1, At.mono tx _ h2⟩ }
end
def GCx (m : M) (n : Nat) (t : Tr) (L : List Str) : Prop := m.Ok n ∧ t.Ok ∧ (L.length + 1) * (1 + n + n ^ n) ≤ 64
def GS (m : M) (n : Nat) (L : List Str) (S : List Gst) : Prop := S.Nodup ∧ ∀ s ∈ S, SU m n L s
theorem GS.snoc {m : M} {n : Nat} {L : List Str} {S : List Gst} {s : Gst} (h : GS m n L S) (hs : s ∉ S) (hu : SU m n L s) : GS m n L (S ++ [s]) := by
  refine ⟨?_, fun x hx => ?_⟩
  · rw [List.nodup_append]
    exact ⟨h.1, by simp, fun a ha b hb e => by rw [List.mem_singleton.mp hb] at e; exact hs (e ▸ ha)⟩
  · rcases List.mem_append.mp hx with hx | hx
    · exact h.2 x hx
    · rw [List.mem_singleton.mp hx]; exact hu
theorem GS.len {m : M} {n : Nat} {t : Tr} {L : List Str} {S : List Gst} (c : GCx m n t L) (h : GS m n L S) : S.length ≤ 64 := SU.count c.2.2 h.1 h.2
section
variable {P : Program} {w : World} {K : PySem.W.Frag} {mg : Str → Option Value} {base : Heap} {f C : Addr} {fd : FuncData}
/-! ### Grower.number -/
def preNumber (P : Program) (w : World) (C : Addr) (as : List A) (fp : Addr → Prop) (post : RM) : Prop := ∃ (a : GrA) (m : M) (t : Tr) (L : List Str) (n : Nat) (S : List Gst) (s : Gst), a.C = C ∧ GCx m n t L ∧ GS m n L S ∧ SU m n L s ∧
  as = [.o (HA.grow P w a m t L n S S) (.ref a.g), .d s.d] ∧ fp = fpG a ∧ post = fun v k => ∃ (S' : List Gst) (i : Nat), S <+: S' ∧ GS m n L S' ∧ S'[i]? = some s ∧ k = (HA.val (nat i) v).and (HA.grow P w a m t L n S' S')
theorem sc_Grower_number : FnScope ["self", "state"] ["self", "state"] (defScope s_Grower_number) := ⟨rfl, rfl, rfl, by decide +kernel, rfl, by decide +kernel, by decide +kernel⟩
theorem ok_number (F : FnP K "number" "Grower.number" s_Grower_number f fd) (T : Txt mg) (cG : ClsG K C) : FnOk P w K mg base CX0 1 f fd ["self", "state"] (spM K (preNumber P w C)) := by
  refine fnM F sc_Grower_number (n := 0) rfl (fun as fp post h => by obtain ⟨_, _, _, _, _, _, _, _, _, _, _, rfl, _⟩ := h; rfl) fun cdv A outer s0 H E hr => ⟨_,
    (pss_cons (ps_if (pt_cmp (pc_nnotin P w hr (pv 1) (pe_fldK K (pv 0))))
    (pss_cons (ps_if (pt_cmpR op_eq (pe_callB (call_lenK K) (by rfl) T.len PySem.boot_len (pa_cons (pe_fldK K (pv 0)) pa_nil)) (pe_gI T.STATES (by rfl)) (nomark _))
    (pss_one ps_never)
    pss_nil)
    (pss_cons (ps_nput P w hr (pe_fldK K (pv 0)) (pv 1) (pe_callB (call_lenK K) (by rfl) T.len PySem.boot_len (pa_cons (pe_fldK K (pv 0)) pa_nil)) rfl)
    (pss_one (ps_expr (pe_app K (pe_fldK K (pv 0)) (pv 1))))))
    pss_nil)
    (pss_one (ps_ret (pe_nget P w hr (pe_fldK K (pv 0)) (pv 1) (fun _ _ => rfl))))), fun as fp post h kn => ?_⟩
  obtain ⟨a, m, t, L, n, S, s, rfl, hc, hS, hu, rfl, rfl, rfl⟩ := h
  have h8 := s.nk_depth
  refine sdm_seq' (M := fun ss => ∃ (S' : List Gst) (i : Nat), S <+: S' ∧ GS m n L S' ∧ S'[i]? = some s ∧ ss = [GrS P w a m t L n S' S', .a (.d s.d)]) ?_ ?_
  · by_cases hs : s ∈ S
    · obtain ⟨i, hi⟩ := List.mem_iff_getElem?.mp hs
      refine sdm_if (b := false) (et_B (ev_nnotin (f := false) (l := [nat s.k, s.w.d]) ev_v h8 (ev_numbers cG) fun B kn => ?_)) (fun h => nomatch h) fun _ => sdm_next ⟨S, i, List.prefix_rfl, hS, hi, rfl⟩
      obtain ⟨W, dx, vg, vm, kv1, vs, kv2, x⟩ := kn 0 _ _ rfl
      exact ⟨kv1, x.n1, by rw [show (D.tu false [nat s.k, s.w.d]) = s.d from rfl, x.nv i s hi]; rfl⟩
    · refine sdm_if (b := true) (et_B (ev_nnotin (f := false) (l := [nat s.k, s.w.d]) ev_v h8 (ev_numbers cG) fun B kn => ?_)) (fun _ => ?_) fun h => nomatch h
      · obtain ⟨W, dx, vg, vm, kv1, vs, kv2, x⟩ := kn 0 _ _ rfl
        exact ⟨kv1, x.n1, by rw [show (D.tu false [nat s.k, s.w.d]) = s.d from rfl, x.nn s hs]; rfl⟩
      · have hS2 := hS.snoc hs hu
        have hcnt := hS2.len hc
        rw [List.length_append] at hcnt
        have hcnt : S.length < 64 := hcnt
        refine sdm_seq (sdm_if (b := false) (EvT.to (et_test (ev_op (ev_nstates cG) ev_int rop_eqI)) (decide_eq_false (by omega))) (fun h => nomatch h) fun _ => sdm_next ?_)
        refine sdm_seq (sdm_nput (P := fun ss' d => ss' = [GrS P w a m t L n S S, .a (.d s.d)] ∧ d = nat S.length) (evd_of (ev_nstates cG) ⟨rfl, rfl⟩) fun ss' d ⟨e1, e2⟩ => ?_)
        subst e1 e2
        refine ⟨a.d1, false, [nat s.k, s.w.d], ev_numbers cG, ev_v, h8, .inl (.inr (.inl rfl)), fun F v kn hv => ?_⟩
        obtain ⟨W, dx, vg, vm, kv1, vs, kv2, x⟩ := kn 0 _ _ rfl
        obtain rfl := at_int.mp hv
        refine ⟨kv1, x.n1, by rw [x.nl]; omega, fun F2 ⟨φ, e⟩ tx hD => ⟨[GrS P w a m t L n (S ++ [s]) S, .a (.d s.d)], .cons (.o ⟨W, dx, vg, vm, _, vs, kv2, x.put1 e tx hD hs⟩) (.cons (.d _) .nil), ?_⟩⟩
        refine sdm_appO (ev_states cG) (x := .d s.d) ev_v (.inl ⟨_, rfl⟩) (fun B kn => ?_) (.inl (.inr (.inr (.inl rfl)))) fun F vs y kn hF hy => ?_
        · obtain ⟨W, dx, vg, vm, kv1, vs, kv2, x⟩ := kn 0 _ _ rfl
          exact ⟨vs, x.s1, by rw [x.sl.length, List.length_map]; omega⟩
        · obtain ⟨W, dx, vg, vm, kv1, vs', kv2, x⟩ := kn 0 _ _ rfl
          have := x.s1
          rw [hF] at this
          cases this
          exact ⟨[GrS P w a m t L n (S ++ [s]) (S ++ [s]), .a (.d s.d)], .cons (.o ⟨W, dx, vg, vm, kv1, _, kv2, x.app hy⟩) (.cons (.d _) .nil), S ++ [s], S.length, List.prefix_append _ _, hS2, by simp, rfl⟩
  · rintro ss' ⟨S', i, hp, hS', hi, rfl⟩
    refine sdm_ret (k := HA.grow P w a m t L n S' S') (ev_nget (f := false) (l := [nat s.k, s.w.d]) (ev_numbers cG) ev_v h8 fun B kn => ?_) (fun B kn => kn 0 _ _ rfl) (fun b hb => .inl hb) fun v => ⟨S', i, hp, hS', hi, rfl⟩
    obtain ⟨W, dx, vg, vm, kv1, vs, kv2, x⟩ := kn 0 _ _ rfl
    exact ⟨kv1, _, x.n1, x.nv i s hi, ad_int⟩
/-! ### BackGrower.turned_way -/
def preTw (P : Program) (w : World) (C : Addr) (as : List A) (fp : Addr → Prop) (post : RM) : Prop := ∃ (a : GrA) (m : M) (t : Tr) (L : List Str) (n : Nat) (S : List Gst) (s : Gst) (o : Option (List V)), a.C = C ∧ GCx m n t L ∧ SU m n L s ∧
  as = [.o (HA.growO P w a m t L n S S o) (.ref a.g), .d s.d] ∧ fp = fpG a ∧ post = fun v k => k = (HA.val (tw m t L s).d v).and (HA.growO P w a m t L n S S o)
theorem ev_isN1 {ss : List Sl} {te : TE} (h : Ev K te ss (.d .non)) : Ev K (tOp rIsN te (tC .non)) ss (.d (.bl true)) := fun B F H σ Q ok q =>
  h B F H σ _ ok fun v H2 e2 r => ⟨rfl, q _ H2 e2 (ad_bl' (by rw [un_non r]; rfl))⟩
theorem ev_isN0 {ss : List Sl} {te : TE} {f : Bool} {l : List D} (h : Ev K te ss (.d (.tu f l))) : Ev K (tOp rIsN te (tC .non)) ss (.d (.bl false)) := fun B F H σ Q ok q =>
  h B F H σ _ ok fun v H2 e2 r => ⟨rfl, q _ H2 e2 (ad_bl' (by obtain ⟨b, rfl⟩ := un_ref r; rfl))⟩
theorem way_at {a : Way} {n q : Nat} (h : a.Ok n) (hq : q < n) : atI (a.f.map nat ++ [D.int a.last]) (q : Int) = some (nat (a.f.getD q 0)) := by
  have hl : q < a.f.length := by rw [h.len]; exact hq
  refine atI_nat ?_
  rw [List.getElem?_append_left (by simpa using hl), List.getElem?_map, List.getElem?_eq_getElem hl, List.getD_eq_getElem?_getD, List.getElem?_eq_getElem hl]
  rfl
theorem sc_BackGrower_turned_way : FnScope ["self", "state", "number", "way", "name", "items"] ["self", "state"] (defScope s_BackGrower_turned_way) := ⟨rfl, rfl, rfl, by decide +kernel, rfl, by decide +kernel, by decide +kernel⟩
theorem ok_turned_way (F : FnP K "turned_way" "BackGrower.turned_way" s_BackGrower_turned_way f fd) (T : Txt mg) (cG : ClsG K C) (c_items_for : Cal P w K mg base "items_for" 1 ["turner", "name"] (spD K preItems)) (c_way_of_one : Cal P w K mg base "way_of_one" 1 ["machine", "state"] (spD K preOne))
    (c_start_of : Cal P w K mg base "start_of" 1 ["machine", "name"] (spD K preStart)) (c_way_filled : Cal P w K mg base "way_filled" 7 ["machine", "items", "way"] (spD K (preFilled 2))) :
    FnOk P w K mg base CX0 8 f fd ["self", "state"] (spM K (preTw P w C)) := by
  refine fnM F sc_BackGrower_turned_way (n := 4) rfl (fun as fp post h => by obtain ⟨_, _, _, _, _, _, _, _, _, _, _, rfl, _⟩ := h; rfl) fun cdv A outer s0 H E hr => ⟨_,
    (pss_cons (ps_if (pt_cmp (pc_nnotin P w hr (pv 1) (pe_fldK K (pv 0))))
    (pss_cons (ps_asg (pv 1) (pg_tup rfl (pgs_cons (pg_name (i := 2) sc_BackGrower_turned_way.nd rfl (Or.inl rfl)) (pgs_cons (pg_name (i := 3) sc_BackGrower_turned_way.nd rfl (Or.inl rfl)) pgs_nil))))
    (pss_cons (ps_set (i := 4) sc_BackGrower_turned_way.nd rfl (Or.inl rfl) pe_str)
    (pss_cons (ps_if (pt_cmpR op_lt (pv 2) (pe_callB (call_lenK K) (by rfl) T.len PySem.boot_len (pa_cons (pe_fldK K (pv 0)) pa_nil)) (nomark _))
    (pss_one (ps_set (i := 4) sc_BackGrower_turned_way.nd rfl (Or.inl rfl) (pe_ix (ix_listK K) (pe_fldK K (pv 0)) (pv 2) (fun _ _ => rfl))))
    pss_nil)
    (pss_cons (ps_set (i := 5) sc_BackGrower_turned_way.nd rfl (Or.inl rfl) (pe_cal c_items_for hr (by rfl) (pa_cons (pe_fldK K (pv 0)) (pa_cons (pv 4) pa_nil))))
    (pss_one (ps_if (pt_cmpR op_isN1 (pv 5) pe_non (nomark _))
    (pss_one (ps_nput P w hr (pe_fldK K (pv 0)) (pv 1) (pe_cal c_way_of_one hr (by rfl) (pa_cons (pe_fldK K (pv 0)) (pa_cons (pe_ix (ix_tupK K) (pv 3) (pe_cal c_start_of hr (by rfl) (pa_cons (pe_fldK K (pv 0)) (pa_cons (pv 4) pa_nil))) (fun _ _ => rfl)) pa_nil))) rfl))
    (pss_one (ps_nput P w hr (pe_fldK K (pv 0)) (pv 1) (pe_cal c_way_filled hr (by rfl) (pa_cons (pe_fldK K (pv 0)) (pa_cons (pv 5) (pa_cons (pv 3) pa_nil)))) rfl))))))))
    pss_nil)
    (pss_one (ps_ret (pe_nget P w hr (pe_fldK K (pv 0)) (pv 1) (fun _ _ => rfl))))), fun as fp post h kn => ?_⟩
  obtain ⟨a, m, t, L, n, S, s, o, rfl, hc, hu, rfl, rfl, rfl⟩ := h
  have h8 := s.nk_depth
  have hm := hc.1
  have hwo := hu.2.ok hm
  refine sdm_spec (i := 0) (Pk := fun k' => ∃ W vs, (∀ v0, o = some v0 → vs = v0) ∧ k' = HA.growWV P w a m t L n S S W vs) rfl (fun B ⟨W, dx, vg, vm, kv1, vs, kv2, x, y⟩ => ⟨_, ⟨W, vs, y, rfl⟩, dx, vg, vm, kv1, kv2, x⟩) ?_
  rintro _ ⟨W, vs, hvo, rfl⟩
  refine sdm_seq' (M := fun ss => ∃ (W : List Gst) (z2 z3 z4 z5 : Sl), s ∈ W ∧ ss = [GrSWV P w a m t L n S S W vs, .a (.d s.d), z2, z3, z4, z5]) ?_ ?_
  · by_cases hs : s ∈ W
    · refine sdm_if (b := false) (et_B (ev_nnotin (f := false) (l := [nat s.k, s.w.d]) ev_v h8 (ev_ways cG) fun B kn => ?_)) (fun h => nomatch h) fun _ => sdm_next ⟨W, _, _, _, _, hs, rfl⟩
      obtain ⟨dx, vg, vm, kv1, kv2, x⟩ := kn 0 _ _ rfl
      obtain ⟨v, hv, _⟩ := x.wv s hs
      exact ⟨kv2, x.w1, by rw [show (D.tu false [nat s.k, s.w.d]) = s.d from rfl, hv]; rfl⟩
    · refine sdm_if (b := true) (et_B (ev_nnotin (f := false) (l := [nat s.k, s.w.d]) ev_v h8 (ev_ways cG) fun B kn => ?_)) (fun _ => ?_) fun h => nomatch h
      · obtain ⟨dx, vg, vm, kv1, kv2, x⟩ := kn 0 _ _ rfl
        exact ⟨kv2, x.w1, by rw [show (D.tu false [nat s.k, s.w.d]) = s.d from rfl, x.wn s hs]; rfl⟩
      · refine sdm_seq (sdm_of (sd_two (a := nat s.k) (b := s.w.d) ev_v ?_))
        refine sdm_seq (sdm_set (d := .str "") ev_str ?_)
        refine sdm_seq' (M := fun ss => ss = [GrSWV P w a m t L n S S W vs, .a (.d s.d), .a (.d (nat s.k)), .a (.d s.w.d), .a (.d (.str (s.name L))), .no]) ?_ ?_
        · refine sdm_if (b := decide (s.k < L.length)) (EvT.to (et_test (ev_op (y := .d (nat L.length)) ev_v (ev_lenL (ks := L) (ev_names cG)) rop_ib)) (by simp)) (fun hb => ?_) fun hb => ?_
          · have hb := of_decide_eq_true hb
            refine sdm_set (ev_nthS (xs := L) (ev_names cG) ev_v hb) ?_
            unfold Gst.name
            rw [if_pos hb] <;> rfl
          · have hb := of_decide_eq_false hb
            refine sdm_next ?_
            unfold Gst.name
            rw [if_neg hb] <;> rfl
        · rintro ss' rfl
          refine sdm_seq (sdm_set (d := optD (t.look (s.name L))) (ev_call (ea_cons (ev_graft cG) (ea_cons ev_v ea_nil)) ⟨t, s.name L, rfl, rfl⟩) ?_)
          have fin : ∀ (z5 : Sl), z5.rf = false → (∀ k u, z5 ≠ .a (.o k u)) → (∀ xs, z5 ≠ .a (.r xs)) → ∀ {tv : TE}, Ev K tv [GrSWV P w a m t L n S S W vs, .a (.d s.d), .a (.d (nat s.k)), .a (.d s.w.d), .a (.d (.str (s.name L))), z5] (.d (tw m t L s).d) →
              ∀ {Rm : RM} {Bk Ct : SN}, SdM K (fpG a) H (sNPut P w (tFld K (tVar 0) "ways") (tVar 1) tv) [GrSWV P w a m t L n S S W vs, .a (.d s.d), .a (.d (nat s.k)), .a (.d s.w.d), .a (.d (.str (s.name L))), z5] (fun ss => ∃ (W : List Gst) (z2 z3 z4 z5 : Sl), s ∈ W ∧ ss = [GrSWV P w a m t L n S S W vs, .a (.d s.d), z2, z3, z4, z5]) Rm Bk Ct := fun z5 hz hz1 hz2 tv hv Rm Bk Ct => by
            refine sdm_nput (P := fun ss' d => ss' = [GrSWV P w a m t L n S S W vs, .a (.d s.d), .a (.d (nat s.k)), .a (.d s.w.d), .a (.d (.str (s.name L))), z5] ∧ d = (tw m t L s).d) (evd_of hv ⟨rfl, rfl⟩) fun ss' d ⟨e1, e2⟩ => ?_
            subst e1 e2
            refine ⟨a.d2, false, [nat s.k, s.w.d], ev_ways cG, ev_v, h8, .inl (.inr (.inr (.inr (.inr rfl)))), fun F v kn hv => ?_⟩
            obtain ⟨dx, vg, vm, kv1, kv2, x⟩ := kn 0 _ _ rfl
            have hcnt := GS.len hc ⟨x.wd, x.wu⟩
            refine ⟨kv2, x.w1, by rw [x.wl]; omega, fun F2 ⟨φ, e⟩ tx hD => ⟨[GrSWV P w a m t L n S S (s :: W) vs, .a (.d s.d), .a (.d (nat s.k)), .a (.d s.w.d), .a (.d (.str (s.name L))), z5], .cons (.o ⟨dx, vg, vm, kv1, _, x.put2 e tx hD hs hu hv⟩) (.cons (.d _) (.cons (.d _) (.cons (.d _) (.cons (.d _) (.cons ?_ .nil))))), s :: W, _, _, _, _, List.mem_cons_self, rfl⟩⟩
            cases z5 with
            | no => exact .no
            | own xs => cases hz
            | a y =>
              cases y with
              | d x => exact .d x
              | w x => exact .w x
              | l xs => cases hz
              | r xs => exact absurd rfl (hz2 xs)
              | o k u => exact absurd rfl (hz1 k u)
          cases hlk : t.look (s.name L) with
          | none =>
            refine sdm_if (b := true) (et_test (ev_isN1 ev_v)) (fun _ => ?_) fun h => nomatch h
            refine fin _ rfl (by intro k u z; cases z) (by intro xs z; cases z) (ev_call (ea_cons (ev_machine cG) (ea_cons (ev_ix (f := false) (xs := s.w.f.map nat ++ [.int s.w.last]) ev_v (ev_call (d := nat (m.start (s.name L))) (ea_cons (ev_machine cG) (ea_cons ev_v ea_nil)) ⟨m, n, s.name L, hm, rfl, rfl⟩) (way_at hwo (hm.start_lt _))) ea_nil)) ⟨m, n, _, hm, Way.getD_lt hwo (hm.start_lt _), rfl, ?_⟩)
            unfold tw
            rw [hlk]
          | some is =>
            obtain ⟨h1, h2, h3⟩ := (hc.2.1.ok _ (Tr.look_mem hlk)).2
            have h2 : Item.hts is ≤ 2 := h2
            refine sdm_if (b := false) (et_test (ev_isN0 (f := false) ev_v)) (fun h => nomatch h) fun _ => ?_
            refine fin _ rfl (by intro k u z; cases z) (by intro xs z; cases z) (ev_call (ea_cons (ev_machine cG) (ea_cons ev_v (ea_cons ev_v ea_nil))) ⟨m, n, is, s.w, hm, hwo, h1, h2, by omega, ?_, ?_⟩)
            · simp only [optD, Item.ds_map]
            · unfold tw
              rw [hlk]
  · rintro ss' ⟨W, z2, z3, z4, z5, hs, rfl⟩
    refine sdm_ret (k := HA.growO P w a m t L n S S o) (ev_nget (f := false) (l := [nat s.k, s.w.d]) (ev_ways cG) ev_v h8 fun B kn => ?_) (fun B kn => by obtain ⟨dx, vg, vm, kv1, kv2, x⟩ := kn 0 _ _ rfl; exact ⟨W, dx, vg, vm, kv1, vs, kv2, x, hvo⟩) (fun b hb => .inl hb) fun v => rfl
    obtain ⟨dx, vg, vm, kv1, kv2, x⟩ := kn 0 _ _ rfl
    obtain ⟨v, h1, h2⟩ := x.wv s hs
    exact ⟨kv2, v, x.w1, h1, h2⟩
/-! ### BackGrower.step -/
def preStep (P : Program) (w : World) (C : Addr) (as : List A) (fp : Addr → Prop) (post : RM) : Prop := ∃ (a : GrA) (m : M) (t : Tr) (L : List Str) (n : Nat) (S : List Gst) (s s2 : Gst) (o : Option (List V)), a.C = C ∧ GCx m n t L ∧ SU m n L s ∧ SU m n L s2 ∧
  as = [.o (HA.growO P w a m t L n S S o) (.ref a.g), .d s.d, .d s2.d] ∧ fp = fpG a ∧ post = fun v k => k = (HA.val (gstep m t L s s2).d v).and (HA.growO P w a m t L n S S o)
/-- a call of turned_way from slot i -/
theorem evd_tw {C : Addr} {a : GrA} {m : M} {t : Tr} {L : List Str} {n : Nat} {S : List Gst} {s : Gst} {o : Option (List V)} {ss : List Sl} {i : Nat} {ti : TE} {F0 : Hp} {fp : Addr → Prop} (hC : a.C = C) (hc : GCx m n t L) (hu : SU m n L s) (h : ss[i]? = some (GrSO P w a m t L n S S o)) (h2 : Ev K ti ss (.d s.d)) (hfp : ∀ b, fpG a b → fp b ∨ F0 b = none)
    (hr : ∀ F', (HA.growO P w a m t L n S S o).φ F' → SRs F' ss ss) : EvD K fp F0 (tMeth C "turned_way" (spM K (preTw P w C)) [] E0 (tVar i) (tCons ti tNil)) ss fun ss' d => ss' = ss ∧ d = (tw m t L s).d := by
  refine evd_m (P1 := fun ss' v k => ss' = ss ∧ k = (HA.val (tw m t L s).d v).and (HA.growO P w a m t L n S S o)) (evm_meth (k0 := HA.growO P w a m t L n S S o) (ev_o h) (ea_cons h2 ea_nil) (fun B kn => ?_) (fun B kn => kn i _ _ h) ⟨fpG a, _, ⟨a, m, t, L, n, S, s, o, hC, hc, hu, rfl, rfl, rfl⟩, hfp, fun B kn => HA.grow_al (grL_growO B (kn i _ _ h)), fun v k e F F' kn fr hk hkf hd => ?_⟩) fun ss' v k ⟨e1, e2⟩ => ⟨_, ⟨e1, rfl⟩, fun B hk => by subst e2; exact hk.1⟩
  · obtain ⟨W, dx, vg, vm, kv1, vs, kv2, x, _⟩ := kn i _ _ h
    exact ⟨dx, _, by rw [← hC]; exact x.g, rfl⟩
  · subst e
    exact ⟨ss, hr F' hk.2, rfl, rfl⟩
theorem sc_BackGrower_step : FnScope ["self", "one", "other"] ["self", "one", "other"] (defScope s_BackGrower_step) := ⟨rfl, rfl, rfl, by decide +kernel, rfl, by decide +kernel, by decide +kernel⟩
theorem ok_step (F : FnP K "step" "BackGrower.step" s_BackGrower_step f fd) (T : Txt mg) (cG : ClsG K C) (m_turned_way : MCal P w K mg base C "turned_way" 8 ["self", "state"] (spM K (preTw P w C))) (c_way_behind : Cal P w K mg base "way_behind" 1 ["way", "other"] (spD K preBehind)) :
    FnOk P w K mg base CX0 9 f fd ["self", "one", "other"] (spM K (preStep P w C)) := by
  refine fnM F sc_BackGrower_step (n := 0) rfl (fun as fp post h => by obtain ⟨_, _, _, _, _, _, _, _, _, _, _, _, _, rfl, _⟩ := h; rfl) fun cdv A outer s0 H E hr => ⟨_,
    (pss_one (ps_ret (pe_tup (pa_cons (pe_ix (ix_tupK K) (pv 1) pe_int (fun _ _ => rfl)) (pa_cons (pe_cal c_way_behind hr (by rfl) (pa_cons (pe_ix (ix_tupK K) (pv 1) pe_int (fun _ _ => rfl)) (pa_cons (pe_mcal cG.c m_turned_way hr (pv 0) (pa_cons (pv 2) pa_nil)) pa_nil))) pa_nil))))), fun as fp post h kn => ?_⟩
  obtain ⟨a, m, t, L, n, S, s, s2, o, hC, hc, hu, hu2, rfl, rfl, rfl⟩ := h
  have hm := hc.1
  refine sdm_retD (P := fun ss' d => ss' = starts [.o (HA.growO P w a m t L n S S o) (.ref a.g), .d s.d, .d s2.d] 0 ∧ d = (gstep m t L s s2).d) (evd_tup2 (d1 := nat s.k) (ev_ixc (f := false) (xs := [nat s.k, s.w.d]) ev_v rfl) (evd_call2 (d1 := s.w.d) (ev_ixc (f := false) (xs := [nat s.k, s.w.d]) ev_v rfl)
    (evd_tw (i := 0) hC hc hu2 rfl ev_v (fun b hb => .inl hb) fun F' hk => .cons (.o hk) (.cons (.d _) (.cons (.d _) .nil))) (P' := fun ss' d => ss' = starts [.o (HA.growO P w a m t L n S S o) (.ref a.g), .d s.d, .d s2.d] 0 ∧ d = (s.w.behind (tw m t L s2)).d) fun ss' d ⟨e1, e2⟩ => ⟨_, ⟨n, s.w, tw m t L s2, hu.2.ok hm, (tw_wu hm hu2.2).ok hm, hm.nz, by rw [e2], rfl⟩, e1, rfl⟩) fun ss' d ⟨e1, e2⟩ => ⟨e1, by rw [e2]; rfl⟩) fun ss' d ⟨e1, e2⟩ => ?_
  subst e1 e2
  exact ⟨HA.growO P w a m t L n S S o, fun v => rfl, fun B kn => kn 0 _ _ rfl, fun b hb => .inl hb⟩
/-! ### BackGrower.mark -/
def preMark (P : Program) (w : World) (C : Addr) (as : List A) (fp : Addr → Prop) (post : RM) : Prop := ∃ (a : GrA) (m : M) (t : Tr) (L : List Str) (n : Nat) (S : List Gst) (s : Gst) (o : Option (List V)), a.C = C ∧ GCx m n t L ∧ SU m n L s ∧
  as = [.o (HA.growO P w a m t L n S S o) (.ref a.g), .d s.d] ∧ fp = fpG a ∧ post = fun v k => k = (HA.val (nat (gmark m t L s)) v).and (HA.growO P w a m t L n S S o)
theorem sc_BackGrower_mark : FnScope ["self", "state", "last"] ["self", "state"] (defScope s_BackGrower_mark) := ⟨rfl, rfl, rfl, by decide +kernel, rfl, by decide +kernel, by decide +kernel⟩
theorem ok_mark (F : FnP K "mark" "BackGrower.mark" s_BackGrower_mark f fd) (T : Txt mg) (cG : ClsG K C) (m_turned_way : MCal P w K mg base C "turned_way" 8 ["self", "state"] (spM K (preTw P w C))) :
    FnOk P w K mg base CX0 9 f fd ["self", "state"] (spM K (preMark P w C)) := by
  refine fnM F sc_BackGrower_mark (n := 1) rfl (fun as fp post h => by obtain ⟨_, _, _, _, _, _, _, _, _, _, _, rfl, _⟩ := h; rfl) fun cdv A outer s0 H E hr => ⟨_,
    (pss_cons (ps_set (i := 2) sc_BackGrower_mark.nd rfl (Or.inl rfl) (pe_ix (ix_tupK K) (pe_mcal cG.c m_turned_way hr (pv 0) (pa_cons (pv 1) pa_nil)) (pe_un un_neg pe_int) (fun _ _ => rfl)))
    (pss_cons (ps_if (pt_cmpR op_lt (pv 2) pe_int (nomark _))
    (pss_one (ps_ret pe_int))
    pss_nil)
    (pss_one (ps_ret (pe_ix (ix_tupK K) (pe_ix (ix_tupK K) (pe_fldK K (pv 0)) pe_int (fun _ _ => rfl)) (pv 2) (fun _ _ => rfl)))))), fun as fp post h kn => ?_⟩
  obtain ⟨a, m, t, L, n, S, s, o, rfl, hc, hu, rfl, rfl, rfl⟩ := h
  have hm := hc.1
  refine sdm_seq (sdm_setD (P := fun ss' d => ss' = starts [.o (HA.growO P w a m t L n S S o) (.ref a.g), .d s.d] 1 ∧ d = .int (tw m t L s).last) (evd_ix (i := -1) (evd_tw (i := 0) rfl hc hu rfl ev_v (fun b hb => .inl hb) fun F' hk => .cons (.o hk) (.cons (.d _) (.cons .no .nil))) (fun ss => ev_m1) fun ss' d ⟨e1, e2⟩ => ⟨false, (tw m t L s).f.map nat ++ [D.int (tw m t L s).last], D.int (tw m t L s).last, e2, Way.last_at _, e1, rfl⟩) fun ss' d ⟨e1, e2⟩ => ?_)
  subst e1 e2
  by_cases hl : (tw m t L s).last < 0
  · refine sdm_seq (sdm_if (b := true) (EvT.to (et_test (ev_op ev_v ev_int rop_ib)) (decide_eq_true hl)) (fun _ => ?_) fun h => nomatch h)
    refine sdm_ret (k := HA.growO P w a m t L n S S o) (d := nat 0) ev_int (fun B kn => kn 0 _ _ rfl) (fun b hb => .inl hb) fun v => ?_
    unfold gmark
    rw [if_pos hl]
  · obtain ⟨q, hq, e⟩ := tw_last hm (tw_wu hm hu.2) hl
    have hl2 : q < m.marks.length := by rw [hm.ml]; exact hq
    refine sdm_seq (sdm_if (b := false) (EvT.to (et_test (ev_op ev_v ev_int rop_ib)) (decide_eq_false hl)) (fun h => nomatch h) fun _ => ?_)
    refine sdm_next (sdm_ret (k := HA.growO P w a m t L n S S o) (d := nat (m.marks.getD q 0)) (ev_ix (xs := m.marks.map nat) (ev_ixc (f := false) (xs := m.parts) (ev_machine cG) rfl) ev_v (at_some e ?_)) (fun B kn => kn 0 _ _ rfl) (fun b hb => .inl hb) fun v => ?_)
    · rw [List.getElem?_map, List.getElem?_eq_getElem hl2, List.getD_eq_getElem?_getD, List.getElem?_eq_getElem hl2]
      rfl
    · unfold gmark
      rw [if_neg hl, e, Int.toNat_natCast]
end
end G
/-! Texts put into a new set one by one, and told in order: by what the set's payload holds (PySem.Froz). -/
namespace G
open PySem PySem.Spec PyProof.Rows L2
open PySem.Froz (SD sObj addTx tailTx TxOk)
/-- the payload holds the texts l, each once told; it may be walked -/
structure TxS (P : Program) (w : World) (D : SD) (l : List Str) : Prop where
  ok : TxOk P w D l
  us : ∃ us, StrsAre us l ∧ (D.1.toList.map (·.2)).Perm us
  up : Ris D.2.2.place.toList
  ord : w.params.followText "set-order" = true ∨ D.2.2.led = true
/-- the payload of a set that is just made -/
def noTx (w : World) : SD := (#[], 0, .fresh 0 0 (!w.params.followText "set-order"))
theorem TxS.new (P : Program) (w : World) : TxS P w (noTx w) [] where
  ok := TxOk.nil (by rfl)
  us := ⟨[], .nil, .refl _⟩
  up := .nil
  ord := by
    show _ ∨ (!w.params.followText "set-order") = true
    cases w.params.followText "set-order" <;> simp
theorem tailTx_rows (ep : Nat) (es : Array (Int × Value)) (t : SetTable) (b : Bool) : (tailTx ep es t b).1.toList.Perm es.toList ∧ (Ris t.place.toList → Ris (tailTx ep es t b).2.2.place.toList) ∧ (tailTx ep es t b).2.2.led = t.led := by
  unfold tailTx
  split
  · exact ⟨relayAll_perm _ _ _, fun _ => relayAll_ris _ _ _, relayAll_led _ _ _⟩
  · exact ⟨.refl _, id, rfl⟩
/-- one more: what becomes of the payload's rows, their places, its mark -/
theorem addTx_rows (h : Int) (v : Value) (D : SD) : (addTx h v D).1.toList.Perm ((h, v) :: D.1.toList) ∧ (Ris D.2.2.place.toList → Ris (addTx h v D).2.2.place.toList) ∧ (addTx h v D).2.2.led = D.2.2.led := by
  have p := layNew_perm D.2.2 D.1 h v
  rw [Array.toList_push] at p
  have off : ∀ t : SetTable, (if t.plain = true then { t with plain := false } else t).place = t.place ∧ (if t.plain = true then { t with plain := false } else t).led = t.led := fun t => by split <;> exact ⟨rfl, rfl⟩
  obtain ⟨o1, o2⟩ := off (layNew D.2.2 D.1 h v).2.1
  obtain ⟨q1, q2, q3⟩ := tailTx_rows D.2.1 (layNew D.2.2 D.1 h v).1 (if (layNew D.2.2 D.1 h v).2.1.plain = true then { (layNew D.2.2 D.1 h v).2.1 with plain := false } else (layNew D.2.2 D.1 h v).2.1) (layNew D.2.2 D.1 h v).2.2.1
  exact ⟨(q1.trans p).trans (List.perm_append_singleton _ _), fun z => q2 (by rw [o1]; exact layNew_ris _ _ _ _ z), q3.trans (o2.trans (layNew_led _ _ _ _))⟩
theorem TxS.add {P : Program} {w : World} {D : SD} {l : List Str} (x : TxS P w D l) (k : Str) (u : Tok) : TxS P w (addTx (hashStr w k) (.str k u) D) (k :: l) := by
  obtain ⟨p, r, e⟩ := addTx_rows (hashStr w k) (.str k u) D
  obtain ⟨us, h1, h2⟩ := x.us
  have q := p.map (·.2)
  rw [List.map_cons] at q
  exact ⟨Froz.add_ok u x.ok, ⟨.str k u :: us, .cons k u h1, q.trans (h2.cons _)⟩, r x.up, x.ord.imp id fun z => e.trans z⟩
/-- a set that holds l at a -/
def Held (P : Program) (w : World) (h : Heap) (a : Addr) (l : List Str) : Prop := ∃ D, h.get? a = some (sObj "set" D) ∧ TxS P w D l
section
variable {P : Program} {w : World} {A : Around} {E : Value → Shared → Prop} {s : Shared} {a : Addr} {l : List Str}
theorem Held.keep {h h' : Heap} (x : Held P w h a l) (k : ∀ o, h.get? a = some o → h'.get? a = some o) : Held P w h' a l := let ⟨D, h1, h2⟩ := x; ⟨D, k _ h1, h2⟩
theorem Held.lt {h : Heap} (x : Held P w h a l) : a < h.objs.size := let ⟨_, h1, _⟩ := x; Heap.lt_size h1
/-- what it holds already leaves it as it is -/
theorem old_put {D : SD} {k : Str} {u : Tok} {Q : Bool → Shared → Prop} (ho : s.heap.get? a = some (sObj "set" D)) (F : TxOk P w D l) (hk : k ∈ l) (hb : l.length < scanBound) (h : Q false s) : wpAny (model P w) A (setAddHashed a (.str k u) (hashStr w k)) Q E s := by
  have hd : (sObj "set" D).data = .set D.1 D.2.1 D.2.2 := rfl
  obtain ⟨e, he, hi⟩ := (F.mem k).mp hk
  -- the scan meets it
  have found : ∃ j, List.findIdx? (fun e => (strKind P w).is k e.2) D.1.toList = some j := by
    cases q : List.findIdx? (fun e => (strKind P w).is k e.2) D.1.toList with
    | some j => exact ⟨j, rfl⟩
    | none => exact absurd (List.findIdx?_eq_none_iff.mp q e he) (by rw [hi]; decide)
  obtain ⟨j, hj⟩ := found
  unfold setAddHashed setAddHashedIn setAddByScan
  refine wpAny_holding (wpAny_bind (wpAny_setState_of ho hd F.fit ?_))
  simp only [byScan_of (x := .str k u) (knd := strKind P w) rfl (by rw [F.sz]; exact hb) F.el, ↓reduceIte]
  refine wpAny_bind (wpAny_bind (wpAny_rule (wpAny_bind (wpAny_setScan_of (knd := strKind P w) (k := k) (Froz.is_str k u) ho hd F.fit F.el ?_))))
  rw [hj]
  exact wpAny_pure (wpAny_pure h)
/-- s.add(k) -/
theorem held_add {k : Str} {u : Tok} {Q : Bool → Shared → Prop} (x : Held P w s.heap a l) (hb : l.length + 1 < scanBound)
    (h : ∀ (h' : Heap) (b : Bool) (tk : Nat), s.toks ≤ tk → Heap.SameBut a s.heap h' → Held P w h' a (if k ∈ l then l else k :: l) → Q b { s with heap := h', toks := tk }) : wpAny (model P w) A (setAdd a (.str k u)) Q E s := by
  obtain ⟨D, h1, h2⟩ := x
  unfold setAdd
  refine wpAny_holding (wpAny_bind ((strKind P w).pyHash (k := k) (Froz.is_str k u) ?_))
  by_cases hk : k ∈ l
  · refine old_put (s := { s with toks := s.toks + 1 }) h1 h2.ok hk (by omega) ?_
    exact h s.heap false (s.toks + 1) (by omega) (.refl _ _) (by rw [if_pos hk]; exact ⟨D, h1, h2⟩)
  · refine Froz.add_x (s := { s with toks := s.toks + 1 }) h1 h2.ok hk hb ?_
    exact h _ true (s.toks + 1) (by omega) (.update _ _ _) (by rw [if_neg hk]; exact ⟨_, Froz.get_upd _ h1 rfl, h2.add k u⟩)
end
section
variable {P : Program} {w : World} {A : Around} {R : Result → Shared → Prop} {a I : Addr} {fp wr : List Addr} {G : Array GenState → Array GenState → Prop} {n : Nat} {Pv : Nat → Value → Prop} {St : Nat → Shared → Prop}
/-- one turn of a set's update: the next item is put in, or there is none -/
theorem loop_turn {s : Shared} (h : wpAny (model P w) A.in1 (pyNext (.ref I)) (fun o s1 => match o with
      | none => R (.ok (.ret .none)) s1
      | some v => wpAny (model P w) A.in1 (setAdd a v) (fun _ s2 => codeAny (model P w) A (.builtin "set.update.loop" ⟨[.ref a, .ref I], []⟩) R s2) (fun e s2 => R (.error e) s2) s1) (fun e s1 => R (.error e) s1) s) :
    codeAny (model P w) A (.builtin "set.update.loop" ⟨[.ref a, .ref I], []⟩) R s := by
  refine codeAny_builtin PyProof.Rows.F.entry_set_update_loop ?_
  rw [Around.under_plainId PyProof.Rows.F.plain_set_update_loop _]
  refine wpAny_bind (wpAny_mono h (fun o s1 q => ?_) fun _ _ q => q)
  cases o with
  | none => exact wpAny_pure q
  | some v => exact wpAny_bind (wpAny_holding (wpAny_mono q (fun _ s2 q2 => wpAny_pure ⟨plainId_quiet PyProof.Rows.F.plain_set_update_loop _, q2⟩) fun _ _ q => q))
/-- the items ys, texts, are put into a set that holds l -/
theorem loop_put (W : WalksS P w A.in1 I fp wr G n Pv St) (ha : a ∉ fp) : ∀ (ys : List Str) (i : Nat) (l : List Str) (s : Shared), i + ys.length = n → (∀ j y v, ys[j]? = some y → Pv (i + j) v → ∃ t, v = .str y t) → St i s → Held P w s.heap a l → l.Nodup → l.length + ys.length + 1 < scanBound →
    (∀ s' l', Moved (a :: wr) G s s' → Held P w s'.heap a l' → l'.Nodup → (∀ k, k ∈ l' ↔ k ∈ l ∨ k ∈ ys) → l'.length ≤ l.length + ys.length → R (.ok (.ret .none)) s') → codeAny (model P w) A (.builtin "set.update.loop" ⟨[.ref a, .ref I], []⟩) R s
  | [], i, l, s, hn, _, hst, hl, nd, _, h => by
    have hn : i = n := hn
    subst hn
    have hw : a ∉ wr := fun z => ha (W.sub _ z)
    exact loop_turn (W.done s _ _ hst fun s' hm => h s' l (hm.mono fun b z => List.mem_cons_of_mem _ z) (hl.keep fun o => hm.heap a o hw) nd (fun k => by simp) (Nat.le_refl _))
  | y :: ys, i, l, s, hn, hv, hst, hl, nd, hb, h => by
    rw [List.length_cons] at hn hb
    have hw : a ∉ wr := fun z => ha (W.sub _ z)
    refine loop_turn (W.item i s _ _ (by omega) hst fun v s1 p hst1 hm => ?_)
    obtain ⟨t, rfl⟩ := hv 0 y v rfl p
    have hl1 : Held P w s1.heap a l := hl.keep fun o => hm.heap a o hw
    have hsub : ∀ b ∈ wr, b ∈ a :: wr := fun b z => List.mem_cons_of_mem _ z
    refine held_add hl1 (by omega) fun h' b tk htk sb hl2 => ?_
    have len : (if y ∈ l then l else y :: l).length ≤ l.length + 1 := by split <;> simp
    have mem : ∀ k, k ∈ (if y ∈ l then l else y :: l) ↔ k ∈ l ∨ k = y := fun k => by
      split
      · rename_i hy
        exact ⟨.inl, fun z => z.elim id fun e => e ▸ hy⟩
      · rw [List.mem_cons, or_comm]
    refine loop_put W ha ys (i + 1) _ _ (by omega) (fun j z v hz q => hv (j + 1) z v hz (by rw [← Nat.add_assoc, Nat.add_right_comm]; exact q)) (W.frame _ s1 h' tk hst1 htk fun c hc o e => ?_) hl2 ?_ (by omega) fun s2 l' hm2 g1 g2 g3 g4 => ?_
    · rw [sb.2 c (by rintro rfl; exact ha hc)]
      exact e
    · split
      · exact nd
      · rename_i hy
        exact List.nodup_cons.mpr ⟨hy, nd⟩
    · refine h s2 l' (Moved.trans W.gtrans ((hm.mono hsub).then_heap htk fun c o hc e => ?_) hm2) g1 g2 (fun k => ?_) (by rw [List.length_cons]; omega)
      · rw [sb.2 c (by rintro rfl; exact hc List.mem_cons_self)]
        exact e
      · rw [g3 k, mem k, List.mem_cons, or_assoc]
end
section
variable {P : Program} {w : World} {A : Around} {E : Value → Shared → Prop} {s : Shared}
theorem wants_or {Q : Value → Shared → Prop} {r : Result} (h : wants Q E r s) : (∃ v, r = .ok (.ret v) ∧ Q v s) ∨ ∃ e, r = .error e ∧ E e s := by
  cases r with
  | error e => exact .inr ⟨e, rfl, h⟩
  | ok f =>
    cases f with
    | ret v => exact .inl ⟨v, rfl, h⟩
    | _ => exact h.elim
/-- set(a list of texts) -/
theorem set_strs {p : Addr} {items : Array Value} {xs : List Str} {Q : Value → Shared → Prop} (hh : A.handled = none) (hl : s.heap.IsList p items) (hi : StrsAre items.toList xs) (hb : xs.length + 1 < scanBound)
    (h : ∀ (h' : Heap) (tk : Nat) (l : List Str), Held P w h' s.heap.objs.size l → l.Nodup → (∀ k, k ∈ l ↔ k ∈ xs) → l.length ≤ xs.length → (∀ b o, s.heap.get? b = some o → h'.get? b = some o) → Q (.ref s.heap.objs.size) { s with heap := h', toks := tk }) :
    wpAny (model P w) A (call (.type "set") [.ref p]) Q E s := by
  have c := PySem.F.called_set
  obtain ⟨_, _, mro⟩ := c.mro
  have made := c.made
  have sub := c.sub
  have nt := c.notType
  have cc := c.canCreate
  have ck := PySem.F.typeCall_set_1 (.ref p)
  refine wpAny_call (codeAny_of_tree (show wpAny _ _ (callAny (.type "set") _) _ _ _ from wpAny_pure ⟨Code.quiet_builtin _ (by decide +kernel), codeAny_builtin PySem.F.entry_type_call ?_⟩))
  rw [Around.under_plain (weight_type_call_type "set" [.ref p] []) rfl]
  repeat (any_goals (first | assumption | wp_step))
  -- the new set
  refine codeAny_mono (code_set_led1 (Q₁ := fun o s1 => o = .ref s.heap.objs.size ∧ s1 = { s with heap := s.heap.push (sObj "set" (noTx w)) }) (E := E) (.ref p) ⟨rfl, rfl⟩) fun r s1 hr => ?_
  rcases wants_or hr with ⟨o, rfl, rfl, rfl⟩ | ⟨e, rfl, he⟩
  · have ho : (s.heap.push (sObj "set" (noTx w))).get? s.heap.objs.size = some (sObj "set" (noTx w)) := Heap.get?_push_size _ rfl
    have ty : Shared.TypeIs { s with heap := s.heap.push (sObj "set" (noTx w)) } (.ref s.heap.objs.size) "set" := ⟨_, ho, rfl⟩
    have il := c.init.lookup
    have ib := c.init.bind (.ref s.heap.objs.size)
    repeat (any_goals (first | assumption | wp_step))
    refine codeAny_mono (codeAny_call_builtin (R := wants (fun r s2 => r = .none ∧ ∃ h' tk l, s2 = { s with heap := h', toks := tk } ∧ Held P w h' s.heap.objs.size l ∧ l.Nodup ∧ (∀ k, k ∈ l ↔ k ∈ xs) ∧ l.length ≤ xs.length ∧ ∀ b o, s.heap.get? b = some o → h'.get? b = some o) E) c.init.plain PySem.F.entry_set_init (check_set_init_1 ty ?_)) fun r s2 hr => ?_
    · have lst := hl.push (sObj "set" (noTx w))
      obtain ⟨⟨oc, od, dt, osl⟩, hp, tl, nl, dl⟩ := id lst
      have tl : oc = .type "list" := tl
      have dl : dt = .seq items nl := dl
      subst tl dl
      have q1 := PySem.F.sub_list_set
      have q2 := PySem.F.sub_list_frozenset
      have q3 : (Value.type "list" == Value.type "dict") = false := by decide
      unfold Builtin.«set.__init__» noKeywords Builtin.Frozenset.updateFrom
      generalize eI : pyIter = it
      wp_walk
      subst eI
      refine wpAny_pyIter_list lst (wpAny_bind (wpAny_runValue ?_))
      obtain ⟨_, hp0, _⟩ := hl
      have hp0 := Heap.lt_size hp0
      have sz : (s.heap.push (sObj "set" (noTx w))).objs.size = s.heap.objs.size + 1 := Heap.size_push ..
      have len : xs.length = items.size := by rw [← StrsAre.len_eq hi, Array.length_toList]
      have far : s.heap.objs.size ∉ [(s.heap.push (sObj "set" (noTx w))).objs.size, p] := fun z => by
        rcases List.mem_cons.mp z with e | e
        · rw [sz] at e
          exact absurd e (Nat.ne_of_lt (Nat.lt_succ_self _))
        · exact absurd (List.mem_singleton.mp e) (Nat.ne_of_gt hp0)
      refine loop_put ((Walks.list (by simp [hh]) _ p (Nat.ne_of_lt (by rw [sz]; exact Nat.lt_succ_of_lt hp0)) items).toS) (a := s.heap.objs.size) far xs 0 [] _ (by rw [Nat.zero_add]; exact len) (fun j y v hy hv => ?_) ⟨⟨_, Heap.get?_push_size _ rfl, rfl, rfl⟩, lst.push _⟩ ⟨noTx w, Heap.get?_push_of_some _ ho, TxS.new P w⟩ .nil (by rw [List.length_nil]; omega) fun s2 l hm g1 g2 g3 g4 => ?_
      · obtain ⟨t, e⟩ := SS.strs_at hi j v (by rw [Array.getElem?_toList, ← Nat.zero_add j]; exact hv)
        rw [List.getD_eq_getElem?_getD, hy] at e
        exact ⟨t, e⟩
      · have same : s2 = { s with heap := s2.heap, toks := s2.toks } := by
          have e1 : s2.gens = s.gens := hm.gens
          have e2 : s2.drawn = s.drawn := hm.drawn
          have e3 : s2.os = s.os := hm.os
          rw [← e1, ← e2, ← e3]
        refine (show wpAny _ _ _ _ _ _ from wpAny_pure (show wpAny _ _ (ret Value.none) _ _ _ from wpAny_pure ⟨rfl, s2.heap, s2.toks, l, same, g1, g2, fun k => by rw [g3 k]; simp, by rw [List.length_nil, Nat.zero_add] at g4; exact g4, fun b o e => ?_⟩))
        have hb := Heap.lt_size e
        refine hm.heap b o (fun z => ?_) (Heap.get?_push_of_some _ (Heap.get?_push_of_some _ e))
        rcases List.mem_cons.mp z with q | q
        · exact absurd q (Nat.ne_of_lt hb)
        · have q := List.mem_singleton.mp q
          rw [sz] at q
          exact absurd q (Nat.ne_of_lt (Nat.lt_succ_of_lt hb))
    · rcases wants_or hr with ⟨o, rfl, rfl, h', tk, l, rfl, g1, g2, g3, g4, g5⟩ | ⟨e, rfl, he⟩
      · repeat (any_goals (first | assumption | wp_step))
        exact h h' tk l g1 g2 g3 g4 g5
      · exact he
  · exact he
/-- texts in another order -/
theorem strs_perm {us vs : List Value} (p : us.Perm vs) : ∀ {l : List Str}, StrsAre us l → ∃ m, StrsAre vs m ∧ m.Perm l := by
  induction p with
  | nil => exact fun h => ⟨_, h, .refl _⟩
  | cons v _ ih =>
    rintro _ ⟨⟩
    rename_i k t l h
    obtain ⟨m, h1, h2⟩ := ih h
    exact ⟨k :: m, .cons k t h1, h2.cons k⟩
  | swap u v r =>
    rintro _ ⟨⟩
    rename_i k t l h
    cases h
    rename_i j i m h
    exact ⟨j :: k :: m, .cons j i (.cons k t h), .swap k j m⟩
  | trans _ _ ih1 ih2 =>
    intro l h
    obtain ⟨m, h1, h2⟩ := ih1 h
    obtain ⟨m2, h3, h4⟩ := ih2 h1
    exact ⟨m2, h3, h4.trans h2⟩
/-- sorted(such a set) -/
theorem sorted_held {a : Addr} {l : List Str} {Q : Value → Shared → Prop} (x : Held P w s.heap a l) (hh : A.handled = none) (h64 : l.length < 64)
    (h : ∀ (s' : Shared) (p : Addr) (out : Array Value) (c : Nat) (ns : List Str), (∀ b o, s.heap.get? b = some o → s'.heap.get? b = some o) → s'.gens = s.gens → s'.os = s.os → s.heap.objs.size ≤ p → s'.heap.get? p = some (seqObj "list" out c) → StrsAre out.toList ns → ns.Perm l → Q (.ref p) s') :
    wpAny (model P w) A (call (.builtin "sorted") [.ref a]) Q E s := by
  obtain ⟨D, ho, hD⟩ := x
  obtain ⟨us, hu, pu⟩ := hD.us
  have few : D.1.size < scanBound := by rw [hD.ok.sz]; exact Nat.lt_trans h64 (by decide)
  refine Calls.call_function_entry kind_sorted plain_sorted entry_sorted (args_sorted1 _) (wpAny_bind (m := checkCount "sorted" 1 1 _) (wpAny_pure (wpAny_bind (collect_set (A := A.in1) hh ⟨_, ho, rfl, rfl⟩ hD.ok.fit few hD.up hD.ord fun s1 vs old hz eg eo pm => ?_))))
  obtain ⟨ms, hm, pl⟩ := strs_perm (pm.trans pu).symm hu
  have hv : vs.length < 64 := by
    have e := (pm.trans pu).length_eq
    have e2 := StrsAre.len_eq hu
    omega
  -- the list, sorted where it stands
  refine wpAny_bind (wpAny_newList ?_ (Nat.le_trans (Nat.le_of_lt hv) (by rw [sizeLine_eq]; decide)))
  generalize hL : s1.heap.push (seqObj "list" vs.toArray 0) = L
  have hp : L.get? s1.heap.objs.size = some (seqObj "list" vs.toArray 0) := by rw [← hL]; exact Heap.get?_push_size _ rfl
  refine wpAny_bind (wpAny_holding (wpAny_call_entry slot_list_sort ⟨_, hp, rfl⟩ entry_list_sort (list_sort_treeK strKind_oneLt hp hm.keysOf (fun _ _ _ e => keyKind_strs (by rw [← e]; exact hm)) hv fun st g1 g2 => ⟨_, rfl, ?_⟩) (args_list_sort _)))
  obtain ⟨ns, n1, n2, _⟩ := sorted_out_str hm g1 g2
  generalize (PyProof.Rows.arrOf st).map (·.2) = out at n1 ⊢
  obtain ⟨c, hc⟩ := sortedHeap_at (vs := vs) (out := out) hp
  refine wpAny_pure ⟨_, rfl, h _ _ out c ns (fun b o e => ?_) eg eo hz hc n1 (n2.trans pl)⟩
  have e1 := old b o e
  have lt := Heap.lt_size e1
  show (sortedHeap L s1.heap.objs.size vs out).get? b = some o
  rw [sortedHeap_old (Nat.ne_of_lt lt) (by rw [← hL, size_push']; exact Nat.lt_succ_of_lt lt), ← hL]
  exact Heap.get?_push_of_some _ e1
end
end G
namespace G
open PySem L2
open Evl (Ex)
open PyProof.Rows (sortedS StrsAre seqObj)
/-! ### sorted(set(a list of texts)) -/
/-- a set at a that holds the texts l -/
def TxO (P : Program) (w : World) (a : Addr) (l : List Str) : HO := .ext fun h => Held P w h a l
def rSetL (P : Program) (w : World) (K : PySem.W.Frag) : List V → Hp → VK → Prop := fun vs H Q => ∃ (a : Addr) (xs : List Str), vs = [V.ref a] ∧ SqL K H a (xs.map V.str) ∧ xs.length < 60 ∧
  ∀ (p : Addr) (l : List Str), l.Nodup → (∀ x, x ∈ l ↔ x ∈ xs) → l.length ≤ xs.length → H p = none → Q (.ref p) (upd H p (TxO P w p l))
def rSortedO (P : Program) (w : World) : List V → Hp → VK → Prop := fun vs H Q => ∃ (a : Addr) (l : List Str), vs = [V.ref a] ∧ H a = some (TxO P w a l) ∧ l.length < 64 ∧
  ∀ (ns : List Str) (p : Addr), ns.Perm l → H p = none → Q (.ref p) (upd H p (.lst (ns.map V.str)))
section
variable {X : Cx} (P : Program) (w : World) (K : PySem.W.Frag)
theorem strs_vals : ∀ {us : List Value} {xs : List Str}, StrsAre us xs → Vals (xs.map V.str) us
  | _, _, .nil => .nil
  | _, _, .cons x t r => .cons ⟨t, rfl⟩ (strs_vals r)
theorem vals_strs : ∀ {us : List Value} {xs : List Str}, Vals (xs.map V.str) us → StrsAre us xs
  | us, [], h => by cases h; exact .nil
  | us, x :: xs, h => by
    cases h with
    | cons r t =>
      obtain ⟨tk, rfl⟩ := r
      exact .cons x tk (vals_strs t)
theorem call_setL (hc : X.calm = true) (hP : X.prog = P := by rfl) (hw : X.w = w := by rfl) (hK : X.K = K := by rfl) : CallR X (.type "set") (rSetL P w K) := by
  subst hP hw hK
  rintro pins s σ H vs us Q I r ⟨a, xs, rfl, hs, h60, q⟩
  obtain ⟨u, rfl, ru⟩ := vals1 r
  cases ru
  obtain ⟨its, rv, pl, _⟩ := I.list hs
  refine set_strs (I.ok.hd hc) pl.isList (vals_strs (by simpa using rv)) (Nat.lt_of_le_of_lt (show xs.length + 1 ≤ 61 by omega) (by decide +kernel)) fun h' tk l g1 g2 g3 g4 g5 => ?_
  have J := I.laid (a := s.heap.objs.size) (o := TxO X.prog X.w s.heap.objs.size l) (h' := h') (t' := tk) g5 (Nat.le_refl _) ⟨g1, (let ⟨_, e, _⟩ := g1; ⟨_, e⟩), fun h1 h2 e kk => Held.keep e kk⟩
  exact ⟨.ref s.heap.objs.size, _, J, rfl, q _ l g2 g3 g4 (I.hok.fresh (Nat.le_refl _))⟩
theorem cr_sortedO (hc : X.calm = true) (hP : X.prog = P := by rfl) (hw : X.w = w := by rfl) : CallR X (.builtin "sorted") (rSortedO P w) := by
  subst hP hw
  rintro pins s σ H vs us Q I r ⟨a, l, rfl, ha, h64, q⟩
  rw [Vals.ref1 r]
  refine sorted_held (I.hok a _ ha).1 (I.ok.hd hc) h64 fun s' p out c ns old eg eo hz hp hi pm => ?_
  have free : H p = none := I.hok.fresh hz
  have few : (ns.map V.str).length ≤ sizeLine := Evl.sz_of (by rw [List.length_map, pm.length_eq]; omega)
  have same : s' = { s with heap := s'.heap, gens := s'.gens, drawn := s'.drawn, toks := s'.toks } := by rw [← eo]
  rw [same]
  have J : Inv X pins σ (upd H p (.lst (ns.map V.str))) { s with heap := s'.heap, gens := s'.gens, drawn := s'.drawn, toks := s'.toks } :=
    I.call (ch := []) (Un.laid old hz free) (I.hok.laid old hz ⟨few, out.toList, c, strs_vals hi, hp⟩) (by rw [eg]; exact I.bare) fun _ z => nomatch z
  exact ⟨.ref p, _, J, rfl, q ns p pm free⟩
end
section
variable {P : Program} {w : World} {K : PySem.W.Frag} {ss : List Sl} {te : TE} {N Bk Ct : SN} {Rt : R → Prop} {xs : List Str}
theorem sd_retSorted (h : Ev K te ss (.l (xs.map .str))) (hz : xs.length < 60) (k : ∀ ys : List Str, ys.Nodup → (∀ x, x ∈ ys ↔ x ∈ xs) → Rt (.l (ys.map .str))) : Sd K (tRet (tCB (rSortedO P w) (tCons (tCB (rSetL P w K) (tCons te tNil)) tNil))) ss N Rt Bk Ct := fun B F H σ D ok e =>
  h B F H σ _ ok fun v H1 e1 r => by
    obtain ⟨a, vs, rfl, ha, hl⟩ := r
    rw [atL_strs.mp hl] at ha
    refine ⟨a, xs, rfl, SqL.of ha, hz, fun p l hnd hm hlen hp => ?_⟩
    have e2 : Ex H1 (upd H1 p (TxO P w p l)) := Evl.Ex.new hp
    refine ⟨p, l, rfl, upd_same, by omega, fun ns q pm hq => ?_⟩
    have e3 : Ex (upd H1 p (TxO P w p l)) (upd (upd H1 p (TxO P w p l)) q (.lst (ns.map V.str))) := Evl.Ex.new hq
    have ee := ((ok.bf.trans ok.ex).trans e1).trans e2
    exact e.rt _ (k ns (pm.nodup_iff.mpr hnd) fun x => by rw [pm.mem_iff, hm x]) q (ns.map V.str) _ (Evl.fresh_back ee hq) (ee.trans e3) upd_same (atL_strs.mpr rfl)
end
section
variable {P : Program} {w : World} {K : PySem.W.Frag} {mg : Str → Option Value} {base : Heap} {f C : Addr} {fd : FuncData}
/-! ### all_names -/
def preAll (as : List A) : Prop := ∃ a b : List Str, a.length + b.length < 60 ∧ as = [.d (.tupF (a.map .str)), .l (b.map .str)]
def postAll (as : List A) (r : R) : Prop := ∀ a b : List Str, as = [.d (.tupF (a.map .str)), .l (b.map .str)] → ∃ ys : List Str, ys.Nodup ∧ (∀ x, x ∈ ys ↔ x ∈ a ∨ x ∈ b) ∧ r = .l (ys.map .str)
theorem sc_all_names : FnScope ["some", "others"] ["some", "others"] (defScope s_all_names) := ⟨rfl, rfl, rfl, by decide +kernel, rfl, by decide +kernel, by decide +kernel⟩
theorem map_str_inj {a b : List Str} (h : a.map D.str = b.map D.str) : a = b := (List.map_inj_right (fun x y e => by injection e)).mp h
theorem ok_all_names (F : FnP K "all_names" "all_names" s_all_names f fd) (T : Txt mg) : FnOk P w K mg base CX0 1 f fd ["some", "others"] (spX K preAll postAll) := by
  refine fnX F sc_all_names (n := 0) rfl (fun as h => by obtain ⟨a, b, _, rfl⟩ := h; rfl) fun cdv A outer s H E hr => ⟨_,
    pss_one (ps_ret (pe_callB (cr_sortedO P w rfl) (by rfl) T.sorted (by decide +kernel) (pa_cons (pe_callTy (call_setL P w K rfl) (by rfl) T.set (by decide +kernel) (pa_cons (pe_op op_cat (pe_callTy (call_listK K) (by rfl) T.list (by decide +kernel) (pa_cons (pv 0) pa_nil)) (pe_callTy (call_listK K) (by rfl) T.list (by decide +kernel) (pa_cons (pv 1) pa_nil))) pa_nil)) pa_nil))), fun as h => ?_⟩
  obtain ⟨a, b, hz, rfl⟩ := h
  refine sd_retSorted (xs := a ++ b) (EvN.l (EvN.to (evn_op (EvN.l (evn_cb (ea_cons ev_v ea_nil) (rcl_listT (f := true) (xs := a.map .str)))) (EvN.l (evn_cb (ea_cons ev_v ea_nil) (rcl_listL (xs := b.map .str)))) (rop_cat (by simp; omega))) (by rw [List.map_append]))) (by simp; omega) fun ys hnd hm a' b' e => ?_
  injection e with e1 e2
  injection e2 with e2 _
  injection e1 with e1
  injection e1 with _ e1
  injection e2 with e2
  rw [map_str_inj e1, map_str_inj e2] at hm
  exact ⟨ys, hnd, fun x => by rw [hm x, List.mem_append], rfl⟩
end
end G
namespace G
open PySem L2
open Evl (Ex)
/-- an empty dict -/
def HA.dn0 (P : Program) (w : World) (d : Addr) : HA := ⟨fun H => DN P w H d [], fun b => b = d, fun H H' h t e => by
  obtain ⟨ψ, hψ⟩ := h.ext
  exact h.mono ((e d _ rfl hψ).trans hψ.symm) t⟩
/-- an instance whose attributes are fs, and what else is known -/
abbrev InS (C : Addr) (fs : List (Str × V)) (x : Addr) (k : HA) : Sl := .a (.o ((HA.ins C fs x).and k) (.ref x))
section
variable {P : Program} {w : World} {K : PySem.W.Frag} {mg : Str → Option Value} {base : Heap} {f C : Addr} {fd : FuncData} {F : Hp} {x : Addr} {o : HO}
theorem dn0_ne {d : Addr} (h : (HA.dn0 P w d).φ F) (hx : F x = some o) (hn : ∀ φ, o ≠ .ext φ) : ¬ (HA.dn0 P w d).fp x := fun e => by
  obtain ⟨ψ, hψ⟩ := DN.ext h
  rw [show x = d from e, hψ] at hx
  cases hx
  exact hn ψ rfl
theorem lst_ne {xs : List D} {v : V} (h : (HA.lst xs v).φ F) (hx : F x = some o) (hn : ∀ vs, o ≠ .lst vs) : ¬ (HA.lst xs v).fp x := fun e => by
  obtain ⟨l, vs, rfl, h1, _⟩ := h
  cases (show V.ref l = .ref x from e)
  rw [h1] at hx
  cases hx
  exact hn vs rfl
/-- what is known besides stays when the instance is written -/
theorem HA.upd {k : HA} {C' dx : Addr} {fs : List (Str × V)} {o' : HO} (h : k.φ F) (hx : F x = some (.ins C' dx fs)) (hn : ¬ k.fp x) : k.φ (upd F x o') := k.st F _ h (TEx.upd fun u e => by rw [hx] at e; cases e; rfl) fun a o ha e => by
  rw [upd_ne (by rintro rfl; exact hn ha)]
  exact e
/-! ### Grower.__init__ -/
def preGi (P : Program) (w : World) (C : Addr) (as : List A) (fp : Addr → Prop) (post : RM) : Prop := ∃ x, as = [.o (HA.ins C [] x) (.ref x)] ∧ fp = (fun a => a = x) ∧ post = fun v k => v = .non ∧ ∃ d1 l1, k = (HA.ins C [("numbers", .ref d1), ("states", .ref l1)] x).and ((HA.dn0 P w d1).and (HA.lst [] (.ref l1)))
theorem sc_Grower_init : FnScope ["self"] ["self"] (defScope s_Grower_init) := ⟨rfl, rfl, rfl, by decide +kernel, rfl, by decide +kernel, by decide +kernel⟩
theorem ok_Grower_init (F : FnP K "__init__" "Grower.__init__" s_Grower_init f fd) (T : Txt mg) (cG : ClsG K C) : FnOk P w K mg base CX0 1 f fd ["self"] (spM K (preGi P w C)) := by
  refine fnM F sc_Grower_init (n := 0) rfl (fun as fp post h => by obtain ⟨x, rfl, _⟩ := h; rfl) fun cdv A outer s0 H E hr => ⟨_,
    (pss_cons (ps_fldK K (pv 0) (pe_nnew P w) rfl)
    (pss_one (ps_fldK K (pv 0) (pe_lst pa_nil) rfl))), fun as fp post h kn => ?_⟩
  obtain ⟨x, rfl, rfl, rfl⟩ := h
  refine sdm_seq (sdm_fldM (a := x) (C := C) (P := fun ss' v k => ∃ d1, H d1 = none ∧ ss' = starts [.o (HA.ins C [] x) (.ref x)] 0 ∧ v = .ref d1 ∧ k = HA.dn0 P w d1) (evm_nnew fun a => ⟨HA.dn0 P w a, fun H h => h, fun b h => h, fun h _ => ⟨a, h, rfl, rfl, rfl⟩⟩) (fun ss' v k ⟨d1, h1, e1, e2, e3⟩ => by subst e1; exact ev_o) cG.c cG.n1 (.inl rfl) fun ss' v k ⟨d1, h1, e1, e2, e3⟩ hkf F kn hk => ?_)
  subst e1 e2 e3
  obtain ⟨dx, hx⟩ := kn 0 _ _ rfl
  have hdn := HA.upd (o' := .ins C dx [("numbers", .ref d1)]) hk hx (dn0_ne hk hx (by intro φ z; cases z))
  refine ⟨dx, [], hx, by decide, [InS C [("numbers", .ref d1)] x (HA.dn0 P w d1)], .cons (.o ⟨⟨dx, upd_same⟩, hdn⟩) .nil, ?_⟩
  refine sdm_fldN (a := x) (C := C) (Pl := (· = [])) (EvN.ne (evn_lst eds_nil (by decide))) ev_o cG.c cG.n2 (fun B kn => by obtain ⟨⟨dx, h⟩, _⟩ := kn 0 _ _ rfl; exact ⟨dx, _, h, by show 1 < 1000; decide⟩) (.inl rfl) fun F dx fs l vs xs e kn hF hl hvs hl0 _ => ?_
  subst e
  obtain ⟨⟨dx', h1'⟩, h2'⟩ := kn 0 _ _ rfl
  rw [h1'] at hF
  cases hF
  have hls : (HA.lst [] (.ref l)).φ F := ⟨l, vs, rfl, hl, hvs⟩
  have hdn2 := HA.upd (o' := .ins C dx [("numbers", .ref d1), ("states", .ref l)]) h2' h1' (dn0_ne h2' h1' (by intro φ z; cases z))
  have hls2 := HA.upd (o' := .ins C dx [("numbers", .ref d1), ("states", .ref l)]) hls h1' (lst_ne hls h1' (by intro vs z; cases z))
  refine ⟨[InS C [("numbers", .ref d1), ("states", .ref l)] x ((HA.dn0 P w d1).and (HA.lst [] (.ref l)))], .cons (.o ⟨⟨dx, upd_same⟩, hdn2, hls2⟩) .nil, _, ⟨rfl, d1, l, rfl⟩, fun B kn => kn 0 _ _ rfl, fun a ha => ?_⟩
  rcases ha with ha | ha | ha
  · exact .inl ha
  · exact .inr (by rw [show a = d1 from ha]; exact h1)
  · cases (show V.ref l = .ref a from ha)
    exact .inr hl0
/-! ### BackGrower.__init__ -/
def preBi (P : Program) (w : World) (C : Addr) (as : List A) (fp : Addr → Prop) (post : RM) : Prop := ∃ (x : Addr) (m : M) (t : Tr) (n : Nat), m.names.length + t.length < 60 ∧ as = [.o (HA.ins C [] x) (.ref x), .d t.d, .d m.d] ∧ fp = (fun a => a = x) ∧
  post = fun v k => v = .non ∧ ∃ a L, a.C = C ∧ a.g = x ∧ L.Nodup ∧ (∀ y, y ∈ L ↔ y ∈ m.names ∨ y ∈ t.map (·.1)) ∧ k = HA.grow P w a m t L n [] []
theorem and_ne {k1 k2 : HA} (h1 : ¬ k1.fp x) (h2 : ¬ k2.fp x) : ¬ (k1.and k2).fp x := fun e => e.elim h1 h2
theorem val_ne {d : D} {v : V} : ¬ (HA.val d v).fp x := fun e => e
theorem k0_ne {d1 l1 : Addr} {C' dx : Addr} {fs : List (Str × V)} (h : ((HA.dn0 P w d1).and (HA.lst [] (.ref l1))).φ F) (hx : F x = some (.ins C' dx fs)) : ¬ ((HA.dn0 P w d1).and (HA.lst [] (.ref l1))).fp x :=
  and_ne (dn0_ne h.1 hx (by intro φ z; cases z)) (lst_ne h.2 hx (by intro φ z; cases z))
theorem sc_BackGrower_init : FnScope ["self", "graft", "machine", "rule"] ["self", "graft", "machine"] (defScope s_BackGrower_init) := ⟨rfl, rfl, rfl, by decide +kernel, rfl, by decide +kernel, by decide +kernel⟩
theorem ok_BackGrower_init (F : FnP K "__init__" "BackGrower.__init__" s_BackGrower_init f fd) (T : Txt mg) (cG : ClsG K C) (c_Grower_init : CCal P w K mg base "Grower" "__init__" 1 ["self"] (spM K (preGi P w C))) (c_all_names : Cal P w K mg base "all_names" 1 ["some", "others"] (spX K preAll postAll)) :
    FnOk P w K mg base CX0 2 f fd ["self", "graft", "machine"] (spM K (preBi P w C)) := by
  refine fnM F sc_BackGrower_init (n := 1) rfl (fun as fp post h => by obtain ⟨x, m, t, n, _, rfl, _⟩ := h; rfl) fun cdv A outer s0 H E hr => ⟨_,
    (pss_cons (ps_expr (pe_clsm c_Grower_init hr (by rfl) (pa_cons (pv 0) pa_nil)))
    (pss_cons (ps_fldK K (pv 0) (pv 1) rfl)
    (pss_cons (ps_fldK K (pv 0) (pv 2) rfl)
    (pss_cons (ps_fldK K (pv 0) (pe_cal c_all_names hr (by rfl) (pa_cons (pe_ix (ix_tupK K) (pv 2) pe_int (fun _ _ => rfl)) (pa_cons (pe_lc (own := [("rule", 3)]) (g := gName 3) (tt := tYes) rfl sc_BackGrower_init.nd (pi_tupK K (pv 1)) (blkOk_by (N := ["self", "graft", "machine", "rule"]) (sc := defScope s_BackGrower_init) (by decide +kernel)) (fun _ _ _ _ _ => pg_name (i := 3) sc_BackGrower_init.nd rfl (Or.inl rfl)) (fun _ _ _ _ _ => pts_nil) (fun _ _ _ _ _ => (pe_ix (ix_tupK K) (pv 3) pe_int (fun _ _ => rfl)))) pa_nil))) rfl)
    (pss_one (ps_fldK K (pv 0) (pe_nnew P w) rfl)))))), fun as fp post h kn => ?_⟩
  obtain ⟨x, m, t, n, hlen, rfl, rfl, rfl⟩ := h
  -- Grower.__init__(self)
  refine sdm_seq (sdm_dropM (P := fun ss' v k => ∃ d1 l1, H d1 = none ∧ H l1 = none ∧ ss' = [InS C [("numbers", .ref d1), ("states", .ref l1)] x ((HA.dn0 P w d1).and (HA.lst [] (.ref l1))), .a (.d t.d), .a (.d m.d), .no]) (evm_call (ea_cons ev_v ea_nil) ⟨fun a => a = x, _, ⟨x, rfl, rfl, rfl⟩, fun a e => .inl e, fun B kn a e => ?_, fun v k ⟨e0, d1, l1, e1⟩ F F' kn fr hk hkf hd => ?_⟩) fun ss' v k hp hkf => ?_)
  · obtain ⟨dx, hx⟩ := kn 0 _ _ rfl
    rw [show a = x from e, hx]
    intro z; cases z
  · subst e0 e1
    have hk' := hk
    obtain ⟨⟨dx, hx⟩, h1, h2⟩ := hk
    have ne := k0_ne ⟨h1, h2⟩ hx
    have fresh : ∀ b, ((HA.dn0 P w d1).and (HA.lst [] (.ref l1))).fp b → H b = none := fun b hb => by
      rcases hkf b (.inr hb) with e | e
      · subst e; exact absurd hb ne
      · exact hd b e
    exact ⟨_, .cons (.o hk') (.cons (.d _) (.cons (.d _) (.cons .no .nil))), d1, l1, fresh d1 (.inl rfl), fresh l1 (.inr rfl), rfl⟩
  obtain ⟨d1, l1, hd1, hl1, rfl⟩ := hp
  -- self.graft
  refine sdm_seq (sdm_fld (x := .d t.d) (a := x) (C := C) ev_v (.inl ⟨_, rfl⟩) ev_o cG.c cG.n3 (fun B kn => by obtain ⟨⟨dx, h⟩, _⟩ := kn 0 _ _ rfl; exact ⟨dx, _, h, by show 2 < 1000; decide⟩) (.inl rfl) fun F dx fs vg kn hF hy => ⟨[InS C [("numbers", .ref d1), ("states", .ref l1), ("graft", vg)] x (((HA.dn0 P w d1).and (HA.lst [] (.ref l1))).and (HA.val t.d vg)), .a (.d t.d), .a (.d m.d), .no], ?_, ?_⟩)
  · obtain ⟨⟨dx', h1⟩, h2⟩ := kn 0 _ _ rfl
    rw [h1] at hF
    cases hF
    exact .cons (.o ⟨⟨dx, upd_same⟩, HA.upd h2 h1 (k0_ne h2 h1), HA.upd (k := HA.val t.d vg) hy h1 val_ne⟩) (.cons (.d _) (.cons (.d _) (.cons .no .nil)))
  -- self.machine
  refine sdm_seq (sdm_fld (x := .d m.d) (a := x) (C := C) ev_v (.inl ⟨_, rfl⟩) ev_o cG.c cG.n4 (fun B kn => by obtain ⟨⟨dx, h⟩, _⟩ := kn 0 _ _ rfl; exact ⟨dx, _, h, by show 3 < 1000; decide⟩) (.inl rfl) fun F dx fs vm kn hF hy => ⟨[InS C [("numbers", .ref d1), ("states", .ref l1), ("graft", vg), ("machine", vm)] x ((((HA.dn0 P w d1).and (HA.lst [] (.ref l1))).and (HA.val t.d vg)).and (HA.val m.d vm)), .a (.d t.d), .a (.d m.d), .no], ?_, ?_⟩)
  · obtain ⟨⟨dx', h1⟩, h2⟩ := kn 0 _ _ rfl
    rw [h1] at hF
    cases hF
    exact .cons (.o ⟨⟨dx, upd_same⟩, HA.upd h2 h1 (and_ne (k0_ne h2.1 h1) val_ne), HA.upd (k := HA.val m.d vm) hy h1 val_ne⟩) (.cons (.d _) (.cons (.d _) (.cons .no .nil)))
  -- self.names
  have hnm : EvN K (tLc (iTup K (tVar 1)) (gName 3) tYes (tOp (rIxT K) (tVar 3) (tC (.int 0))) [3]) [InS C [("numbers", .ref d1), ("states", .ref l1), ("graft", vg), ("machine", vm)] x ((((HA.dn0 P w d1).and (HA.lst [] (.ref l1))).and (HA.val t.d vg)).and (HA.val m.d vm)), .a (.d t.d), .a (.d m.d), .no] ((t.map (·.1)).map .str) :=
    EvN.to (evn_lcTm (ks := t) (e := ruleD) (fun q => .str q.1) (Ev.to ev_v (by rw [Tr.d_rules])) (by omega) fun q hq => ev_ixc (f := false) (xs := [.str q.1, .tup (q.2.map Item.d)]) ev_v rfl) (by rw [List.map_map] <;> rfl)
  refine sdm_seq (sdm_fldN (a := x) (C := C) (Pl := fun xs => ∃ L : List Str, L.Nodup ∧ (∀ y, y ∈ L ↔ y ∈ m.names ∨ y ∈ t.map (·.1)) ∧ xs = L.map .str) (evne_callX (ea_cons (ev_ixc (d := .tupF (m.names.map .str)) (xs := m.parts) ev_v rfl) (ea_cons (EvN.l hnm) ea_nil)) ⟨m.names, t.map (·.1), by rw [List.length_map]; exact hlen, rfl⟩ fun r hr => ?_) ev_o cG.c cG.n5 (fun B kn => by obtain ⟨⟨dx, h⟩, _⟩ := kn 0 _ _ rfl; exact ⟨dx, _, h, by show 4 < 1000; decide⟩) (.inl rfl) fun F dx fs l2 vs xs ⟨L, hLn, hLm, e⟩ kn hF hl hvs hl0 hfr => ?_)
  · obtain ⟨ys, h1, h2, h3⟩ := hr _ _ rfl
    exact ⟨_, h3, ys, h1, h2, rfl⟩
  subst e
  have hl12 : l1 ≠ l2 := by
    obtain ⟨B, knB, hB⟩ := hfr
    obtain ⟨_, ⟨⟨_, l, vs, e, h, _⟩, _⟩, _⟩ := knB 0 _ _ rfl
    rintro rfl
    cases e
    rw [hB] at h; cases h
  refine ⟨[InS C [("numbers", .ref d1), ("states", .ref l1), ("graft", vg), ("machine", vm), ("names", .ref l2)] x (((((HA.dn0 P w d1).and (HA.lst [] (.ref l1))).and (HA.val t.d vg)).and (HA.val m.d vm)).and (HA.lst (L.map .str) (.ref l2))), .a (.d t.d), .a (.d m.d), .no], ?_, ?_⟩
  · obtain ⟨⟨dx', h1⟩, h2⟩ := kn 0 _ _ rfl
    rw [h1] at hF
    cases hF
    have hls : (HA.lst (L.map .str) (.ref l2)).φ F := ⟨l2, vs, rfl, hl, hvs⟩
    exact .cons (.o ⟨⟨dx, upd_same⟩, HA.upd h2 h1 (and_ne (and_ne (k0_ne h2.1.1 h1) val_ne) val_ne), HA.upd hls h1 (lst_ne hls h1 (by intro vs z; cases z))⟩) (.cons (.d _) (.cons (.d _) (.cons .no .nil)))
  -- self.ways
  refine sdm_fldM (a := x) (C := C) (P := fun ss' v k => ∃ d2, H d2 = none ∧ d1 ≠ d2 ∧ ss' = [InS C [("numbers", .ref d1), ("states", .ref l1), ("graft", vg), ("machine", vm), ("names", .ref l2)] x (((((HA.dn0 P w d1).and (HA.lst [] (.ref l1))).and (HA.val t.d vg)).and (HA.val m.d vm)).and (HA.lst (L.map .str) (.ref l2))), .a (.d t.d), .a (.d m.d), .no] ∧ v = .ref d2 ∧ k = HA.dn0 P w d2) (evm_nnew fun a => ⟨HA.dn0 P w a, fun H h => h, fun b h => h, fun h ⟨B, knB, hB⟩ => ⟨a, h, ?_, rfl, rfl, rfl⟩⟩) (fun ss' v k ⟨d2, h1, h2, e1, e2, e3⟩ => by subst e1; exact ev_o) cG.c cG.n6 (.inl rfl) fun ss' v k ⟨d2, hd2, hd12, e1, e2, e3⟩ hkf F kn hk => ?_
  · obtain ⟨_, ⟨⟨⟨h, _⟩, _⟩, _⟩, _⟩ := knB 0 _ _ rfl
    obtain ⟨φ, hφ⟩ := DN.ext h
    rintro rfl
    rw [hB] at hφ; cases hφ
  subst e1 e2 e3
  obtain ⟨⟨dx, h1⟩, h2⟩ := kn 0 _ _ rfl
  have ne : ¬ (((((HA.dn0 P w d1).and (HA.lst [] (.ref l1))).and (HA.val t.d vg)).and (HA.val m.d vm)).and (HA.lst (L.map .str) (.ref l2))).fp x := and_ne (and_ne (and_ne (k0_ne h2.1.1.1 h1) val_ne) val_ne) (lst_ne h2.2 h1 (by intro vs z; cases z))
  have hu := HA.upd (o' := .ins C dx [("numbers", .ref d1), ("states", .ref l1), ("graft", vg), ("machine", vm), ("names", .ref l2), ("ways", .ref d2)]) h2 h1 ne
  have hd := HA.upd (o' := .ins C dx [("numbers", .ref d1), ("states", .ref l1), ("graft", vg), ("machine", vm), ("names", .ref l2), ("ways", .ref d2)]) hk h1 (dn0_ne hk h1 (by intro φ z; cases z))
  obtain ⟨⟨⟨⟨g1, l, vs, el, g2, g3⟩, g4⟩, g5⟩, l', vs', el', g6, g7⟩ := hu
  cases el
  cases el'
  have g3' := atL_nil.mp g3
  subst g3'
  have g7' := atL_strs.mp g7
  subst g7'
  refine ⟨dx, _, h1, by show 5 < 1000; decide, [GrS P w ⟨C, x, d1, l1, l2, d2⟩ m t L n [] [], .a (.d t.d), .a (.d m.d), .no], .cons (.o ⟨[], dx, vg, vm, [], [], [], { d12 := hd12, l12 := hl12, g := upd_same, gr := g4, ma := g5, n1 := g1, nl := rfl, nv := (fun i s h => by simp at h), nn := fun s h => rfl, s1 := g2, sl := atL_nil.mpr rfl, na := g6, w1 := hd, wl := rfl, wd := List.nodup_nil, wu := (fun s h => nomatch h), wv := (fun s h => nomatch h), wn := fun s h => rfl }⟩) (.cons (.d _) (.cons (.d _) (.cons .no .nil))), HA.grow P w ⟨C, x, d1, l1, l2, d2⟩ m t L n [] [], ⟨rfl, ⟨C, x, d1, l1, l2, d2⟩, L, rfl, rfl, hLn, hLm, rfl⟩, fun B kn => kn 0 _ _ rfl, fun b hb => ?_⟩
  rcases hb with e | e | e | e | e
  · exact .inl e
  · exact .inr (by rw [show b = d1 from e]; exact hd1)
  · exact .inr (by rw [show b = l1 from e]; exact hl1)
  · exact .inr (by rw [show b = l2 from e]; exact hl0)
  · exact .inr (by rw [show b = d2 from e]; exact hd2)
end
end G
namespace G
open PySem L2
open Evl (Ex)
theorem noOwn.nil : noOwn [] := fun s h => nomatch h
theorem noOwn.cons {s : Sl} {ss : List Sl} (h : s.rf = false) (t : noOwn ss) : noOwn (s :: ss) := fun x hx => by
  rcases List.mem_cons.mp hx with rfl | hx
  · exact h
  · exact t x hx
/-- what a slot knows is forgotten -/
theorem sdm_forget {K : PySem.W.Frag} {fp : Addr → Prop} {F0 : Hp} {ss : List Sl} {t : TS} {N Bk Ct : SN} {Rm : RM} (i : Nat) {k : HA} {u : V} (h : ss[i]? = some (.a (.o k u))) (hs : SdM K fp F0 t (ss.set i (.a (.w u))) N Rm Bk Ct) : SdM K fp F0 t ss N Rm Bk Ct := fun F H σ D f ok e => by
  obtain ⟨o, ho, q⟩ := ok.at_ i _ h
  have e1 : σ.set i (some u) = σ := by
    rw [q.1] at ho
    apply List.ext_getElem?
    intro j
    by_cases hj : j = i
    · subst hj
      rw [List.getElem?_set_self (List.getElem?_eq_some_iff.mp ho).1, ho]
    · rw [List.getElem?_set_ne (Ne.symm hj)]
  have ok2 := ok.setW (i := i) (v := u)
  rw [e1] at ok2
  exact hs F H σ D f ok2 e
/-! ### the table of steps -/
def pkD (p q : Nat) : D := .tup [nat p, nat q]
theorem pk_nk (p q : Nat) : (pkD p q).nk = .tup [.num (p : Int), .num (q : Int)] := by
  unfold pkD
  rw [D.nk, D.nks, D.nks, D.nks, D.nk, D.nk]
theorem pk_inj {p q p' q' : Nat} (h : (pkD p q).nk = (pkD p' q').nk) : p = p' ∧ q = q' := by
  rw [pk_nk, pk_nk] at h
  injection h with h
  injection h with h1 h2
  injection h2 with h2 _
  injection h1 with h1
  injection h2 with h2
  exact ⟨Int.ofNat.inj h1, Int.ofNat.inj h2⟩
theorem pk_depth (p q : Nat) : (pkD p q).nk.depth ≤ 8 := by
  rw [pk_nk, NestedKey.depth, NestedKey.depthAll, NestedKey.depthAll, NestedKey.depthAll, NestedKey.depth, NestedKey.depth]
  decide
def HA.stp (P : Program) (w : World) (d : Addr) (tb : Nat → Nat → Option Nat) (c : Nat) : HA := ⟨fun H => ∃ kvs, DN P w H d kvs ∧ kvs.length ≤ c ∧ ∀ p q j, tb p q = some j → valV kvs (pkD p q).nk = some (.int (j : Nat)), fun b => b = d, fun H H' ⟨kvs, h1, h2, h3⟩ t e => by
  obtain ⟨ψ, h⟩ := h1.ext
  exact ⟨kvs, h1.mono ((e d _ rfl h).trans h.symm) t, h2, h3⟩⟩
def tbPut (tb : Nat → Nat → Option Nat) (p q j : Nat) : Nat → Nat → Option Nat := fun p' q' => if p' = p ∧ q' = q then some j else tb p' q'
/-- the steps between states that are in the table: all below p, and p with all below q -/
def TabOk (m : M) (t : Tr) (L : List Str) (S : List Gst) (tb : Nat → Nat → Option Nat) (p q q2 : Nat) : Prop := ∀ x y, (x < p ∧ y < p) ∨ (x = p ∧ y < q) ∨ (y = p ∧ x < q2) → ∃ j sx sy, tb x y = some j ∧ S[x]? = some sx ∧ S[y]? = some sy ∧ S[j]? = some (gstep m t L sx sy)
section
variable {m : M} {t : Tr} {L : List Str} {S S' : List Gst} {tb : Nat → Nat → Option Nat} {p q q2 j : Nat}
theorem pre_get {α : Type} {l m : List α} {i : Nat} {x : α} (h : l <+: m) (hi : l[i]? = some x) : m[i]? = some x := by
  obtain ⟨r, rfl⟩ := h
  rw [List.getElem?_append_left (List.getElem?_eq_some_iff.mp hi).1]
  exact hi
theorem TabOk.pre (h : TabOk m t L S tb p q q2) (hp : S <+: S') : TabOk m t L S' tb p q q2 := fun x y hxy => by
  obtain ⟨j, sx, sy, h1, h2, h3, h4⟩ := h x y hxy
  exact ⟨j, sx, sy, h1, pre_get hp h2, pre_get hp h3, pre_get hp h4⟩
theorem TabOk.put1 {sp sq : Gst} (h : TabOk m t L S tb p q q2) (h1 : S[p]? = some sp) (h2 : S[q]? = some sq) (hj : S[j]? = some (gstep m t L sp sq)) : TabOk m t L S (tbPut tb p q j) p (q + 1) q2 := fun x y hxy => by
  by_cases e : x = p ∧ y = q
  · obtain ⟨rfl, rfl⟩ := e
    exact ⟨j, sp, sq, by unfold tbPut; rw [if_pos ⟨rfl, rfl⟩], h1, h2, hj⟩
  · obtain ⟨j', sx, sy, g1, g2⟩ := h x y (by omega)
    exact ⟨j', sx, sy, by unfold tbPut; rw [if_neg e]; exact g1, g2⟩
theorem TabOk.put2 {sp sq : Gst} (h : TabOk m t L S tb p q q2) (h1 : S[p]? = some sp) (h2 : S[q2]? = some sq) (hj : S[j]? = some (gstep m t L sq sp)) : TabOk m t L S (tbPut tb q2 p j) p q (q2 + 1) := fun x y hxy => by
  by_cases e : x = q2 ∧ y = p
  · obtain ⟨rfl, rfl⟩ := e
    exact ⟨j, sq, sp, by unfold tbPut; rw [if_pos ⟨rfl, rfl⟩], h2, h1, hj⟩
  · obtain ⟨j', sx, sy, g1, g2⟩ := h x y (by omega)
    exact ⟨j', sx, sy, by unfold tbPut; rw [if_neg e]; exact g1, g2⟩
end
section
variable {P : Program} {w : World} {K : PySem.W.Frag} {mg : Str → Option Value} {base : Heap} {f C : Addr} {fd : FuncData}
/-- self.number(self.step(self.states[p], self.states[q])) -/
theorem evd_numstep {a : GrA} {m : M} {t : Tr} {L : List Str} {n : Nat} {S : List Gst} {rest : List Sl} {t1 t2 : TE} {F0 : Hp} {fp : Addr → Prop} {sp sq : Gst} {p q : Nat} (hC : a.C = C) (hc : GCx m n t L) (hS : GS m n L S) (cG : ClsG K a.C) (h1 : Ev K t1 (GrS P w a m t L n S S :: rest) (.d (nat p))) (h2 : Ev K t2 (GrS P w a m t L n S S :: rest) (.d (nat q)))
    (hp : S[p]? = some sp) (hq : S[q]? = some sq) (hfp : ∀ b, fpG a b → fp b ∨ F0 b = none) (hr : ∀ F F', Kn F (GrS P w a m t L n S S :: rest) → Fr (fpG a) F F' → Paired (SR F') rest rest) :
    EvD K fp F0 (tMeth C "number" (spM K (preNumber P w C)) [] E0 (tVar 0) (tCons (tMeth C "step" (spM K (preStep P w C)) [] E0 (tVar 0) (tCons (tOp (rIxL K) (tFld K (tVar 0) "states") t1) (tCons (tOp (rIxL K) (tFld K (tVar 0) "states") t2) tNil))) tNil)) (GrS P w a m t L n S S :: rest)
      fun ss' d => ∃ (S2 : List Gst) (j : Nat), S <+: S2 ∧ GS m n L S2 ∧ S2[j]? = some (gstep m t L sp sq) ∧ ss' = GrS P w a m t L n S2 S2 :: rest ∧ d = nat j := by
  have hup := hS.2 _ (List.mem_of_getElem? hp)
  have huq := hS.2 _ (List.mem_of_getElem? hq)
  have hmm : ∀ (nm : Str), (fsG a .non .non).lookup nm = none → ∀ B, Kn B (GrS P w a m t L n S S :: rest) → ∃ dx fs, B a.g = some (.ins C dx fs) ∧ fs.lookup nm = none := fun nm hnm B kn => by
    obtain ⟨W, dx, vg, vm, kv1, vs, kv2, x⟩ := kn 0 _ _ rfl
    refine ⟨dx, _, by rw [← hC]; exact x.g, ?_⟩
    simp only [fsG, List.lookup] at hnm ⊢
    revert hnm
    repeat' split
    all_goals intro hnm
    all_goals first | exact hnm | cases hnm | rfl
  refine evd_m (P1 := fun ss' v k => ∃ (S2 : List Gst) (j : Nat), S <+: S2 ∧ GS m n L S2 ∧ S2[j]? = some (gstep m t L sp sq) ∧ ss' = GrS P w a m t L n S2 S2 :: rest ∧ k = (HA.val (nat j) v).and (HA.grow P w a m t L n S2 S2))
    (evm_methM (P1 := fun ss' v k => ss' = GrS P w a m t L n S S :: rest ∧ k = (HA.val (gstep m t L sp sq).d v).and (HA.growO P w a m t L n S S none)) ev_o
      (evm_meth (k0 := HA.growO P w a m t L n S S none) ev_o (ea_cons (ev_state cG h1 hp) (ea_cons (ev_state cG h2 hq) ea_nil)) (hmm "step" rfl) (fun B kn => growO_of (kn 0 _ _ rfl)) ⟨fpG a, _, ⟨a, m, t, L, n, S, sp, sq, none, hC, hc, hup, huq, rfl, rfl, rfl⟩, hfp, fun B kn => HA.grow_al (kn 0 _ _ rfl), fun v k e F F' kn fr hk hkf hd => ?_⟩)
      (hmm "number" rfl) fun ss' v k ⟨e1, e2⟩ => ?_) fun ss' v k ⟨S2, j, g1, g2, g3, g4, g5⟩ => ⟨nat j, ⟨S2, j, g1, g2, g3, g4, rfl⟩, fun B hk => by subst g5; exact hk.1⟩
  · subst e
    exact ⟨_, .cons (.o (grL_growO F' hk.2)) (hr F F' kn fr), rfl, rfl⟩
  · subst e1 e2
    refine ⟨(gstep m t L sp sq).d, HA.grow P w a m t L n S S, fun B kn hk => ⟨hk.1, grL_growO B hk.2⟩, fpG a, _, ⟨a, m, t, L, n, S, gstep m t L sp sq, hC, hc, hS, hup.step hc.1 huq, rfl, rfl, rfl⟩, hfp, fun B kn => HA.grow_al (kn 0 _ _ rfl), fun v k ⟨S2, j, g1, g2, g3, e⟩ F F' kn fr hk hkf hd => ?_⟩
    subst e
    exact ⟨_, .cons (.o hk.2) (hr F F' kn fr), S2, j, g1, g2, g3, rfl, rfl⟩
/-! ### Grower.tables -/
def Rows (m : M) (t : Tr) (L : List Str) (S : List Gst) (rows : List (List Nat)) : Prop := rows.length = S.length ∧ (∀ r ∈ rows, r.length = S.length ∧ ∀ j ∈ r, j < S.length) ∧ ∀ (p q : Nat) sp sq, S[p]? = some sp → S[q]? = some sq → S[(rows.getD p []).getD q 0]? = some (gstep m t L sp sq)
def Firsts (S : List Gst) (sts : List Gst) (fs : List Nat) : Prop := fs.length = sts.length ∧ ∀ (i : Nat) s, sts[i]? = some s → ∃ j : Nat, fs[i]? = some j ∧ S[j]? = some s
def preTables (P : Program) (w : World) (C : Addr) (as : List A) (fp : Addr → Prop) (post : RM) : Prop := ∃ (a : GrA) (m : M) (t : Tr) (L : List Str) (n : Nat) (sts : List Gst) (l : Addr), a.C = C ∧ GCx m n t L ∧ (∀ s ∈ sts, SU m n L s) ∧ sts.length ≤ 1000 ∧ ¬ fpG a l ∧
  as = [.o (HA.grow P w a m t L n [] []) (.ref a.g), .o (HA.lst (sts.map Gst.d) (.ref l)) (.ref l)] ∧ fp = fpG a ∧ post = fun v k => ∃ (S : List Gst) (fs : List Nat) (rows : List (List Nat)), GS m n L S ∧ Firsts S sts fs ∧ Rows m t L S rows ∧ k = (HA.val (.tup [.tup (fs.map nat), .tup (rows.map rowD)]) v).and (HA.grow P w a m t L n S S)
theorem sc_Grower_tables : FnScope ["self", "starts", "firsts", "steps", "p", "q", "many", "rows", "state"] ["self", "starts"] (defScope s_Grower_tables) := ⟨rfl, rfl, rfl, by decide +kernel, rfl, by decide +kernel, by decide +kernel⟩
theorem ok_tables (F : FnP K "tables" "Grower.tables" s_Grower_tables f fd) (T : Txt mg) (cG : ClsG K C) (m_number : MCal P w K mg base C "number" 1 ["self", "state"] (spM K (preNumber P w C))) (m_step : MCal P w K mg base C "step" 9 ["self", "one", "other"] (spM K (preStep P w C))) :
    FnOk P w K mg base CX0 10 f fd ["self", "starts"] (spM K (preTables P w C)) := by
  refine fnM F sc_Grower_tables (n := 7) rfl (fun as fp post h => by obtain ⟨_, _, _, _, _, _, _, _, _, _, _, _, rfl, _⟩ := h; rfl) fun cdv A outer s0 H E hr => ⟨_,
    (pss_cons (ps_set (i := 2) sc_Grower_tables.nd rfl (Or.inl rfl) (pe_callTy (call_tupK K) (by rfl) T.tuple (by decide +kernel) (pa_cons (pe_lc (own := [("state", 8)]) (g := gName 8) (tt := tYes) rfl sc_Grower_tables.nd (pi_listK K (pv 1)) (blkOk_by (N := ["self", "starts", "firsts", "steps", "p", "q", "many", "rows", "state"]) (sc := defScope s_Grower_tables) (by decide +kernel)) (fun _ _ _ _ _ => pg_name (i := 8) sc_Grower_tables.nd rfl (Or.inl rfl)) (fun _ _ _ _ _ => pts_nil) (fun _ _ _ _ _ => (pe_mcal cG.c m_number hr (pv 0) (pa_cons (pv 8) pa_nil)))) pa_nil)))
    (pss_cons (ps_set (i := 3) sc_Grower_tables.nd rfl (Or.inr rfl) (pe_nnew P w))
    (pss_cons (ps_set (i := 4) sc_Grower_tables.nd rfl (Or.inl rfl) pe_int)
    (pss_cons (ps_while PassesOwn.never (pt_cmpR op_lt (pv 4) (pe_callB (call_lenK K) (by rfl) T.len PySem.boot_len (pa_cons (pe_fldK K (pv 0)) pa_nil)) (nomark _))
    (pss_cons (ps_for PassesOwn.never rfl (pi_range1 rfl T.range (pa_cons (pe_op op_add (pv 4) pe_int) pa_nil)) (pg_name (i := 5) sc_Grower_tables.nd rfl (Or.inl rfl))
    (pss_cons (ps_nput P w hr (pv 3) (pe_tup (pa_cons (pv 4) (pa_cons (pv 5) pa_nil))) (pe_mcal cG.c m_number hr (pv 0) (pa_cons (pe_mcal cG.c m_step hr (pv 0) (pa_cons (pe_ix (ix_listK K) (pe_fldK K (pv 0)) (pv 4) (fun _ _ => rfl)) (pa_cons (pe_ix (ix_listK K) (pe_fldK K (pv 0)) (pv 5) (fun _ _ => rfl)) pa_nil))) pa_nil)) rfl)
    (pss_one (ps_nput P w hr (pv 3) (pe_tup (pa_cons (pv 5) (pa_cons (pv 4) pa_nil))) (pe_mcal cG.c m_number hr (pv 0) (pa_cons (pe_mcal cG.c m_step hr (pv 0) (pa_cons (pe_ix (ix_listK K) (pe_fldK K (pv 0)) (pv 5) (fun _ _ => rfl)) (pa_cons (pe_ix (ix_listK K) (pe_fldK K (pv 0)) (pv 4) (fun _ _ => rfl)) pa_nil))) pa_nil)) rfl))))
    (pss_one (ps_set (i := 4) sc_Grower_tables.nd rfl (Or.inl rfl) (pe_op op_add (pv 4) pe_int)))))
    (pss_cons (ps_set (i := 6) sc_Grower_tables.nd rfl (Or.inr rfl) (pe_callB (call_lenK K) (by rfl) T.len PySem.boot_len (pa_cons (pe_fldK K (pv 0)) pa_nil)))
    (pss_cons (ps_setLc (i := 7) (own := [("p", 4)]) (g := gName 4) (tt := tYes) rfl sc_Grower_tables.nd rfl rfl (sw_true rfl rfl rfl (by decide +kernel)) (pi_range1 rfl T.range (pa_cons (pv 6) pa_nil)) (blkOk_by (N := ["self", "starts", "firsts", "steps", "p", "q", "many", "rows", "state"]) (sc := defScope s_Grower_tables) (by decide +kernel)) (fun _ _ _ _ _ => pg_name (i := 4) sc_Grower_tables.nd rfl (Or.inr rfl)) (fun _ _ _ _ _ => pts_nil) (fun _ _ _ _ _ => (pe_callTy (call_tupK K) (by rfl) T.tuple (by decide +kernel) (pa_cons (pe_lc (own := [("q", 5)]) (g := gName 5) (tt := tYes) rfl sc_Grower_tables.nd (pi_range1 rfl T.range (pa_cons (pv 6) pa_nil)) (blkOk_by (N := ["self", "starts", "firsts", "steps", "p", "q", "many", "rows", "state"]) (sc := { kind := .function, names := [(".0", .local), ("p", .cell), ("tuple", .globalImplicit), ("range", .globalImplicit), ("many", .cell), ("steps", .cell)], isGenerator := false, isCoroutine := false }) (by decide +kernel)) (fun _ _ _ _ _ => pg_name (i := 5) sc_Grower_tables.nd rfl (Or.inl rfl)) (fun _ _ _ _ _ => pts_nil) (fun _ _ _ _ _ => (pe_nget P w hr (pv 3) (pe_tup (pa_cons (pv 4) (pa_cons (pv 5) pa_nil))) (fun _ _ => rfl)))) pa_nil))))
    (pss_one (ps_ret (pe_tup (pa_cons (pv 2) (pa_cons (pe_callTy (call_tupK K) (by rfl) T.tuple (by decide +kernel) (pa_cons (pv 7) pa_nil)) pa_nil))))))))))), fun as fp post h kn => ?_⟩
  obtain ⟨a, m, t, L, n, sts, l, rfl, hc, hu, hz, hno, rfl, rfl, rfl⟩ := h
  have hm := hc.1
  -- firsts
  refine sdm_seq (sdm_setD (P := fun ss' d => ∃ (S : List Gst) (fs : List Nat), GS m n L S ∧ Firsts S sts fs ∧ ss' = [GrS P w a m t L n S S, .a (.o (HA.lst (sts.map Gst.d) (.ref l)) (.ref l)), .no, .no, .no, .no, .no, .no, .no] ∧ d = .tup (fs.map nat))
    (evd_tupL (evm_lc (fp1 := fpG a) (ds := sts.map Gst.d) (fun i ss' acc => ∃ (S : List Gst) (fs : List Nat), GS m n L S ∧ fs.length = i ∧ (∀ (j : Nat) s, j < i → sts[j]? = some s → ∃ q : Nat, fs[j]? = some q ∧ S[q]? = some s) ∧ acc = fs.map nat ∧ ss' = [GrS P w a m t L n S S, .a (.o (HA.lst (sts.map Gst.d) (.ref l)) (.ref l)), .no, .no, .no, .no, .no, .no, .no])
      (fun b hb => .inl hb) (ev_o (k := HA.lst (sts.map Gst.d) (.ref l))) (fun B kn => ?_) hno (by simpa using (by omega : sts.length ≤ 100000)) ⟨[], [], ⟨List.nodup_nil, fun s h => nomatch h⟩, rfl, fun j s h => by omega, rfl, rfl⟩ (fun i ss' acc h => ?_) fun F1 hF1 i x ss' acc hx h => ?_)
      fun ss' v k ⟨acc, ⟨S, fs, h1, h2, h3, h4, h5⟩, h6⟩ => ⟨acc, ⟨S, fs, h1, ⟨by rw [h2, List.length_map], fun i s hi => h3 i s (by rw [List.length_map]; exact (List.getElem?_eq_some_iff.mp hi).1) hi⟩, h5, by rw [h4]⟩, fun B hk => by subst h6; exact hk⟩) fun ss' d ⟨S, fs, hS, hfs, e1, e2⟩ => ?_)
  · obtain ⟨l', vs, e, h1, h2⟩ := kn 1 _ _ rfl
    cases e
    exact ⟨vs, h1, h2⟩
  · obtain ⟨S, fs, h1, h2, h3, h4, rfl⟩ := h
    exact ⟨.cons rfl (.cons rfl (.cons rfl (.cons rfl (.cons rfl (.cons rfl (.cons rfl (.cons rfl (.cons rfl .nil)))))))), rfl, by rw [h4, List.length_map, h2]⟩
  · obtain ⟨S, fs, hS, h2, h3, rfl, rfl⟩ := h
    rw [List.getElem?_map] at hx
    cases hs : sts[i]? with
    | none => rw [hs] at hx; cases hx
    | some s =>
      rw [hs] at hx
      cases hx
      refine evd_m (P1 := fun ss' v k => ∃ (S' : List Gst) (j : Nat), S <+: S' ∧ GS m n L S' ∧ S'[j]? = some s ∧ k = (HA.val (nat j) v).and (HA.grow P w a m t L n S' S') ∧ ss' = [GrS P w a m t L n S' S', .a (.o (HA.lst (sts.map Gst.d) (.ref l)) (.ref l)), .no, .no, .no, .no, .no, .no, .a (.d s.d)])
        (evm_meth (k0 := HA.grow P w a m t L n S S) ev_o (ea_cons ev_v ea_nil) (fun B kn => by obtain ⟨W, dx, vg, vm, kv1, vs, kv2, x⟩ := kn 0 _ _ rfl; exact ⟨dx, _, x.g, rfl⟩) (fun B kn => kn 0 _ _ rfl) ⟨fpG a, _, ⟨a, m, t, L, n, S, s, rfl, hc, hS, hu s (List.mem_of_getElem? hs), rfl, rfl, rfl⟩, fun b hb => .inl hb, fun B kn => HA.grow_al (kn 0 _ _ rfl), fun v k ⟨S', j, g1, g2, g3, e⟩ F F' kn fr hk hkf hd => ?_⟩) fun ss' v k ⟨S', j, g1, g2, g3, e, e2⟩ => ?_
      · subst e
        exact ⟨_, .cons (.o hk.2) (.cons (.o ((HA.lst (sts.map Gst.d) (.ref l)).fr fr (kn 1 _ _ rfl) fun b hb => by cases (show V.ref l = .ref b from hb); exact hno)) (.cons .no (.cons .no (.cons .no (.cons .no (.cons .no (.cons .no (.cons (.d _) .nil)))))))), S', j, g1, g2, g3, rfl, rfl⟩
      · subst e e2
        refine ⟨nat j, ⟨.cons rfl (.cons rfl (.cons rfl (.cons rfl (.cons rfl (.cons rfl (.cons rfl (.cons rfl (.cons rfl .nil)))))))), S', fs ++ [j], g2, by rw [List.length_append, h2]; rfl, fun j' s' hj hs' => ?_, by rw [List.map_append] <;> rfl, rfl⟩, fun B hk => hk.1⟩
        rcases Nat.lt_or_ge j' i with hlt | hge
        · obtain ⟨q, q1, q2⟩ := h3 j' s' hlt hs'
          exact ⟨q, by rw [List.getElem?_append_left (by omega)]; exact q1, pre_get g1 q2⟩
        · obtain rfl : j' = i := by omega
          rw [hs] at hs'
          cases hs'
          exact ⟨j, by rw [List.getElem?_append_right (by omega), h2, Nat.sub_self]; rfl, g3⟩
  subst e1 e2
  refine sdm_forget 1 rfl ?_
  -- steps
  refine sdm_seq (sdm_setM (P := fun ss' v k => ∃ d, H d = none ∧ ¬ fpG a d ∧ v = .ref d ∧ k = HA.stp P w d (fun _ _ => none) 0 ∧ ss' = [GrS P w a m t L n S S, .a (.w (.ref l)), .a (.d (.tup (fs.map nat))), .no, .no, .no, .no, .no, .no]) (evm_nnew fun d => ⟨HA.stp P w d (fun _ _ => none) 0, fun H h => ⟨[], h, Nat.le_refl _, fun _ _ _ z => nomatch z⟩, fun b h => h, fun h ⟨B, knB, hB⟩ => ⟨d, h, fun z => HA.grow_al (knB 0 _ _ rfl) d z hB, rfl, rfl, rfl⟩⟩) fun ss' v k ⟨d, hd0, hdn, e1, e2, e3⟩ _ => ?_)
  subst e1 e2 e3
  refine sdm_seq (sdm_set (d := nat 0) ev_int ?_)
  -- the loop
  refine sdm_seq (sdm_while (fun mm ss => ∃ (p : Nat) (S : List Gst) (tb : Nat → Nat → Option Nat) (z5 : Sl), p ≤ S.length ∧ mm = 65 - p ∧ GS m n L S ∧ Firsts S sts fs ∧ TabOk m t L S tb p 0 0 ∧ (z5 = .no ∨ ∃ q, z5 = .a (.d (nat q))) ∧
      ss = [GrS P w a m t L n S S, .a (.w (.ref l)), .a (.d (.tup (fs.map nat))), .a (.o (HA.stp P w d tb (200 * p)) (.ref d)), .a (.d (nat p)), z5, .no, .no, .no]) 65 ⟨0, S, fun _ _ => none, .no, Nat.zero_le _, rfl, hS, hfs, fun x y h => by omega, .inl rfl, rfl⟩ ?_)
  rintro mm ss' ⟨p, S, tb, z5, hp, rfl, hS, hfs, htb, hz5, rfl⟩
  have hcnt := hS.len hc
  refine ⟨decide (p < S.length), EvT.to (et_test (ev_op ev_v (ev_nstates cG) rop_ib)) (by simp), fun hb => ?_, fun hb => ?_⟩
  · have hb := of_decide_eq_true hb
    refine sdm_seq (sdm_forR (n := p + 1) (fun i ss => ∃ (S : List Gst) (tb : Nat → Nat → Option Nat) (z5 : Sl), p < S.length ∧ GS m n L S ∧ Firsts S sts fs ∧ TabOk m t L S tb p i i ∧ (z5 = .no ∨ ∃ q, z5 = .a (.d (nat q))) ∧
      ss = [GrS P w a m t L n S S, .a (.w (.ref l)), .a (.d (.tup (fs.map nat))), .a (.o (HA.stp P w d tb (200 * p + 2 * i)) (.ref d)), .a (.d (nat p)), z5, .no, .no, .no]) (eds_cons (ev_addN ev_v (ev_n 1)) eds_nil) (by omega) ⟨S, tb, z5, hb, hS, hfs, htb, hz5, rfl⟩ ?_ ?_)
    · rintro q ss' hq ⟨S, tb, z5, hpS, hS, hfs, htb, hz5, rfl⟩
      have hqS : q < S.length := by omega
      have hcnt := hS.len hc
      have gp := List.getElem?_eq_getElem hpS
      have gq := List.getElem?_eq_getElem hqS
      generalize S[p] = sp at gp
      generalize S[q] = sq at gq
      have hrest : ∀ (tb : Nat → Nat → Option Nat) (c : Nat) (S : List Gst) F F', Kn F (GrS P w a m t L n S S :: [.a (.w (.ref l)), .a (.d (.tup (fs.map nat))), .a (.o (HA.stp P w d tb c) (.ref d)), .a (.d (nat p)), .a (.d (nat q)), .no, .no, .no]) → Fr (fpG a) F F' → Paired (SR F') [.a (.w (.ref l)), .a (.d (.tup (fs.map nat))), .a (.o (HA.stp P w d tb c) (.ref d)), .a (.d (nat p)), .a (.d (nat q)), .no, .no, .no] [.a (.w (.ref l)), .a (.d (.tup (fs.map nat))), .a (.o (HA.stp P w d tb c) (.ref d)), .a (.d (nat p)), .a (.d (nat q)), .no, .no, .no] :=
        fun tb c S F F' kn fr => .cons (.w _) (.cons (.d _) (.cons (.o ((HA.stp P w d tb c).fr fr (kn 3 _ _ rfl) fun b hb => by rw [show b = d from hb]; exact hdn)) (.cons (.d _) (.cons (.d _) (.cons .no (.cons .no (.cons .no .nil)))))))
      have hput : ∀ (tb : Nat → Nat → Option Nat) (c : Nat) (S : List Gst) (x y j : Nat) (F : Hp) (v : V), c < 20000 → Kn F (GrS P w a m t L n S S :: [.a (.w (.ref l)), .a (.d (.tup (fs.map nat))), .a (.o (HA.stp P w d tb c) (.ref d)), .a (.d (nat p)), .a (.d (nat q)), .no, .no, .no]) → At F (nat j) v → ∃ kvs, DN P w F d kvs ∧ kvs.length < 100000 ∧ ∀ F2, (∃ φ, F2 = upd F d (.ext φ)) → TEx F F2 → DN P w F2 d (putK kvs (pkD x y).nk v) →
          SRs F2 (GrS P w a m t L n S S :: [.a (.w (.ref l)), .a (.d (.tup (fs.map nat))), .a (.o (HA.stp P w d tb c) (.ref d)), .a (.d (nat p)), .a (.d (nat q)), .no, .no, .no]) (GrS P w a m t L n S S :: [.a (.w (.ref l)), .a (.d (.tup (fs.map nat))), .a (.o (HA.stp P w d (tbPut tb x y j) (c + 1)) (.ref d)), .a (.d (nat p)), .a (.d (nat q)), .no, .no, .no]) := fun tb c S x y j F v hc2 kn hv => by
        obtain ⟨kvs, h1, h2, h3⟩ := kn 3 _ _ rfl
        obtain rfl := at_int.mp hv
        refine ⟨kvs, h1, by omega, fun F2 ⟨φ, e⟩ tx hD => .cons (.o ?_) (.cons (.w _) (.cons (.d _) (.cons (.o ⟨_, hD, ?_, fun p' q' j' hj => ?_⟩) (.cons (.d _) (.cons (.d _) (.cons .no (.cons .no (.cons .no .nil))))))))⟩
        · subst e
          exact (HA.grow P w a m t L n S S).st F _ (kn 0 _ _ rfl) tx fun b o hb e => by rw [upd_ne (by rintro rfl; exact hdn hb)]; exact e
        · have := length_putK kvs (pkD x y).nk (.int j); omega
        · rw [valV_put]
          unfold tbPut at hj
          by_cases e2 : p' = x ∧ q' = y
          · rw [if_pos e2] at hj
            cases hj
            rw [if_pos (by rw [e2.1, e2.2])]
          · rw [if_neg e2] at hj
            rw [if_neg fun z => e2 (pk_inj z)]
            exact h3 p' q' j' hj
      refine sdm_seq (sdm_nput (evd_numstep (S := S) (p := p) (q := q) rfl hc hS cG ev_v ev_v gp gq (fun b hb => .inl hb) (hrest tb _ S)) fun ss' dd ⟨S2, j, g1, g2, g3, e1, e2⟩ => ?_)
      subst e1 e2
      refine ⟨d, false, [nat p, nat q], ev_o (i := 3), ev_t2 ev_v ev_v, pk_depth p q, .inr hd0, fun F v kn hv => ?_⟩
      obtain ⟨kvs, k1, k2, k3⟩ := hput tb (200 * p + 2 * q) S2 p q j F v (by omega) kn hv
      refine ⟨kvs, k1, k2, fun F2 hφ tx hD => ⟨_, k3 F2 hφ tx hD, ?_⟩⟩
      have gp2 := pre_get g1 gp
      have gq2 := pre_get g1 gq
      have tb2 := (htb.pre g1).put1 gp2 gq2 g3
      have hfs2 : Firsts S2 sts fs := ⟨hfs.1, fun i s hi => by obtain ⟨j, z1, z2⟩ := hfs.2 i s hi; exact ⟨j, z1, pre_get g1 z2⟩⟩
      refine sdm_nput (evd_numstep (S := S2) (p := q) (q := p) rfl hc g2 cG ev_v ev_v gq2 gp2 (fun b hb => .inl hb) (hrest _ _ S2)) fun ss' dd ⟨S3, j3, g1', g2', g3', e1, e2⟩ => ?_
      subst e1 e2
      refine ⟨d, false, [nat q, nat p], ev_o (i := 3), ev_t2 ev_v ev_v, pk_depth q p, .inr hd0, fun F v kn hv => ?_⟩
      obtain ⟨kvs, k1, k2, k3⟩ := hput _ (200 * p + 2 * q + 1) S3 q p j3 F v (by omega) kn hv
      refine ⟨kvs, k1, k2, fun F2 hφ tx hD => ⟨_, k3 F2 hφ tx hD, S3, _, .a (.d (nat q)), ?_, g2', ⟨hfs.1, fun i s hi => by obtain ⟨j, z1, z2⟩ := hfs2.2 i s hi; exact ⟨j, z1, pre_get g1' z2⟩⟩, (tb2.pre g1').put2 (pre_get g1' gp2) (pre_get g1' gq2) g3', .inr ⟨q, rfl⟩, rfl⟩⟩
      exact (List.getElem?_eq_some_iff.mp (pre_get g1' gp2)).1
    · rintro ss' ⟨S, tb, z5, hpS, hS, hfs, htb, hz5, rfl⟩
      have hcnt := hS.len hc
      have tbn : TabOk m t L S tb (p + 1) 0 0 := fun x y hxy => htb x y (by omega)
      refine sdm_spec (i := 3) (Pk := fun k' => k' = HA.stp P w d tb (200 * (p + 1))) rfl (fun B ⟨kvs, h1, h2, h3⟩ => ⟨_, rfl, kvs, h1, by omega, h3⟩) ?_
      rintro _ rfl
      exact sdm_set (d := nat (p + 1)) (ev_addN ev_v (ev_n 1)) ⟨65 - (p + 1), by omega, p + 1, S, tb, z5, hpS, rfl, hS, hfs, tbn, hz5, rfl⟩
  · have hb := of_decide_eq_false hb
    obtain rfl : p = S.length := by omega
    refine sdm_seq (sdm_set (ev_nstates cG) ?_)
    have htab : ∀ x y, x < S.length → y < S.length → ∃ j sx sy, tb x y = some j ∧ S[x]? = some sx ∧ S[y]? = some sy ∧ S[j]? = some (gstep m t L sx sy) := fun x y hx hy => htb x y (.inl ⟨hx, hy⟩)
    refine sdm_seq (sdm_setN (xs := ((List.range S.length).map fun x => (List.range S.length).map fun y => (tb x y).getD 0).map rowD) (EvN.to (evn_lcR (n := S.length) (fun x => .tup ((List.range S.length).map fun y => nat ((tb x y).getD 0))) (eds_cons ev_v eds_nil) (by omega) fun x hx => ev_tupL (EvN.l (evn_lcR (n := S.length) (fun y => nat ((tb x y).getD 0)) (eds_cons ev_v eds_nil) (by omega) fun y hy => ?_))) ?_) ?_)
    · obtain ⟨j, sx, sy, h1, _⟩ := htab x y hx hy
      refine ev_nget (f := false) (l := [nat x, nat y]) (ev_o (i := 3)) (ev_t2 ev_v ev_v) (pk_depth x y) fun B kn => ?_
      obtain ⟨kvs, g1, g2, g3⟩ := kn 3 _ _ rfl
      exact ⟨kvs, _, g1, g3 x y j h1, by rw [h1]; exact ad_int⟩
    · rw [List.map_map]
      refine List.map_congr_left fun x hx => ?_
      show _ = rowD ((List.range S.length).map fun y => (tb x y).getD 0)
      unfold rowD
      rw [List.map_map] <;> rfl
    · have hrows : Rows m t L S ((List.range S.length).map fun x => (List.range S.length).map fun y => (tb x y).getD 0) := by
        refine ⟨by simp, fun r hr => ?_, fun p q sp sq hp hq => ?_⟩
        · obtain ⟨x, hx, rfl⟩ := List.mem_map.mp hr
          refine ⟨by simp, fun j hj => ?_⟩
          obtain ⟨y, hy, rfl⟩ := List.mem_map.mp hj
          obtain ⟨j, sx, sy, h1, _, _, h4⟩ := htab x y (List.mem_range.mp hx) (List.mem_range.mp hy)
          rw [h1]
          exact (List.getElem?_eq_some_iff.mp h4).1
        · have lp := (List.getElem?_eq_some_iff.mp hp).1
          have lq := (List.getElem?_eq_some_iff.mp hq).1
          obtain ⟨j, sx, sy, h1, h2, h3, h4⟩ := htab p q lp lq
          rw [hp] at h2
          cases h2
          rw [hq] at h3
          cases h3
          rw [List.getD_eq_getElem?_getD, List.getD_eq_getElem?_getD, List.getElem?_map, List.getElem?_range lp, Option.map_some, Option.getD_some, List.getElem?_map, List.getElem?_range lq, Option.map_some, Option.getD_some, h1]
          exact h4
      exact sdm_ret (k := HA.grow P w a m t L n S S) (ev_t2 ev_v (ev_tupL ev_v)) (fun B kn => kn 0 _ _ rfl) (fun b hb => .inl hb) fun v => ⟨S, fs, _, hS, hfs, hrows, rfl⟩
end
end G
namespace G
open PySem L2
open Evl (Ex)
/-- what is known of a machine that is drawn back -/
def Back (m : M) (t : Tr) (n : Nat) (b : M) : Prop := ∃ S : List Gst, b.names.Nodup ∧ (∀ y, y ∈ b.names ↔ y ∈ m.names ∨ y ∈ t.map (·.1)) ∧ GCx m n t b.names ∧ GS m n b.names S ∧ b.forms = m.forms ∧
  Firsts S ((List.range (b.names.length + 1)).map fun k => ⟨k, Way.none m⟩) b.starts ∧ Rows m t b.names S b.steps ∧ b.marks = S.map (gmark m t b.names)
theorem Back.ok {m : M} {t : Tr} {n : Nat} {b : M} (h : Back m t n b) : ∃ N, b.Ok N := by
  obtain ⟨S, h1, h2, h3, h4, h5, h6, h7, h8⟩ := h
  have hl : b.names.length ≤ 64 := by
    have h3 := h3.2.2
    have : (b.names.length + 1) * 1 ≤ (b.names.length + 1) * (1 + n + n ^ n) := Nat.mul_le_mul_left _ (by omega)
    omega
  have hfl := h6.1
  rw [List.length_map, List.length_range] at hfl
  refine ⟨S.length, { st := hfl, sb := fun s hs => ?_, sp := h7.1, rl := fun r hr => (h7.2.1 r hr).1, rb := fun r hr s hs => (h7.2.1 r hr).2 s hs, ml := by rw [h8, List.length_map], n0 := ?_, nz := h4.len h3, az := hl, fz := by rw [h5]; exact h3.1.fz, nd := h1 }⟩
  · obtain ⟨i, hi⟩ := List.mem_iff_getElem?.mp hs
    have hil := (List.getElem?_eq_some_iff.mp hi).1
    obtain ⟨j, e1, e2⟩ := h6.2 i ⟨i, Way.none m⟩ (by rw [List.getElem?_map, List.getElem?_range (by omega)]; rfl)
    rw [hi] at e1
    cases e1
    exact (List.getElem?_eq_some_iff.mp e2).1
  · obtain ⟨j, _, e2⟩ := h6.2 0 ⟨0, Way.none m⟩ (by rw [List.getElem?_map, List.getElem?_range (by omega)]; rfl)
    have := (List.getElem?_eq_some_iff.mp e2).1
    omega
section
variable {P : Program} {w : World} {K : PySem.W.Frag} {mg : Str → Option Value} {base : Heap} {f C : Addr} {fd : FuncData}
/-- o.m(e), e a new list -/
theorem evm_methN {ss : List Sl} {to te : TE} {a : Addr} {m : Str} {k0 : HA} {xs : List D} {fp : Addr → Prop} {F0 : Hp} {pre : List A → (Addr → Prop) → RM → Prop} {Pq : List Sl → V → HA → Prop} {E : XK} (ho : Ev K to ss (.w (.ref a))) (h : EvN K te ss xs) (hm : ∀ B, Kn B ss → ∃ dx fs, B a = some (.ins C dx fs) ∧ fs.lookup m = none) (hs : ∀ B, Kn B ss → k0.φ B)
    (c : ∀ l, (∃ B, Kn B ss ∧ B l = none) → CallOk fp F0 ss pre [.o k0 (.ref a), .o (HA.lst xs (.ref l)) (.ref l)] Pq) : EvM K fp F0 (tMeth C m (spM K pre) [] E to (tCons te tNil)) ss Pq := fun F H σ Q fr ok q =>
  ho F F H σ _ ok fun u H1 e1 r1 => by
    cases r1
    obtain ⟨dx, fs, h1, h2⟩ := hm F ok.kn
    refine ⟨a, dx, fs, rfl, (ok.ex.trans e1) _ _ h1, h2, ?_⟩
    exact h F F H1 σ _ (ok.mono e1) fun l vs H2 hl e2 g1 g2 => call_core (E := E) (c l ⟨F, ok.kn, Evl.fresh_back (ok.ex.trans e1) hl⟩) fr ((ok.mono e1).mono e2) ⟨.ref a, [.ref l], rfl, ⟨rfl, k0.ex ((ok.ex.trans e1).trans e2) (hs F ok.kn)⟩, ⟨.ref l, [], rfl, ⟨rfl, l, vs, rfl, g1, g2⟩, rfl⟩⟩ fun ss' v k F' H' p hk hf f' ok' tx rs => q ss' v k F' H' p hk hf f' ok' (((TEx.of e1).trans (.of e2)).trans tx) ((rs.step e2).step e1)
/-! ### back_tables, drawn_back -/
def BackPre (m : M) (t : Tr) (n : Nat) : Prop := m.Ok n ∧ t.Ok ∧ ∃ l : List Str, (∀ x ∈ m.names, x ∈ l) ∧ (∀ q ∈ t, q.1 ∈ l) ∧ (l.length + 1) * (1 + n + n ^ n) ≤ 64
theorem BackPre.cx {m : M} {t : Tr} {n : Nat} {L : List Str} (h : BackPre m t n) (hn : L.Nodup) (hm : ∀ y, y ∈ L ↔ y ∈ m.names ∨ y ∈ t.map (·.1)) : GCx m n t L := by
  obtain ⟨h1, h2, l, h3, h4, h5⟩ := h
  refine ⟨h1, h2, ?_⟩
  have : L.length ≤ l.length := nd_len hn fun x hx => by
    rcases (hm x).mp hx with h | h
    · exact h3 x h
    · obtain ⟨q, hq, rfl⟩ := List.mem_map.mp h
      exact h4 q hq
  exact Nat.le_trans (Nat.mul_le_mul_right _ (by omega)) h5
theorem BackPre.len {m : M} {t : Tr} {n : Nat} (h : BackPre m t n) : m.names.length ≤ 64 ∧ t.length ≤ 12 := ⟨h.1.az, h.2.1.len⟩
def preBack (as : List A) (fp : Addr → Prop) (post : RM) : Prop := ∃ (m : M) (t : Tr) (n : Nat), BackPre m t n ∧ m.names.length ≤ 40 ∧ as = [.d t.d, .d m.d] ∧ fp = (fun _ => False) ∧ post = fun v k => ∃ b d, Back m t n b ∧ k = (HA.val (.tup [b.d, d]) v).and HA.nil
theorem sc_back_tables : FnScope ["turner", "machine", "grower", "none", "starts", "steps", "marks", "number", "state"] ["turner", "machine"] (defScope s_back_tables) := ⟨rfl, rfl, rfl, by decide +kernel, rfl, by decide +kernel, by decide +kernel⟩
theorem ok_back_tables (F : FnP K "back_tables" "back_tables" s_back_tables f fd) (T : Txt mg) (cG : ClsG K C) (c_BackGrower : Mkc P w K mg base "BackGrower" C 2 ["self", "graft", "machine"] (spM K (preBi P w C))) (c_way_of_none : Cal P w K mg base "way_of_none" 1 ["machine"] (spD K preNone))
    (m_tables : MCal P w K mg base C "tables" 10 ["self", "starts"] (spM K (preTables P w C))) (m_mark : MCal P w K mg base C "mark" 9 ["self", "state"] (spM K (preMark P w C))) : FnOk P w K mg base CX0 11 f fd ["turner", "machine"] (spM K preBack) := by
  refine fnM F sc_back_tables (n := 7) rfl (fun as fp post h => by obtain ⟨_, _, _, _, _, rfl, _⟩ := h; rfl) fun cdv A outer s0 H E hr => ⟨_,
    (pss_cons (ps_set (i := 2) sc_back_tables.nd rfl (Or.inr rfl) (pe_mkc c_BackGrower hr (by rfl) (pa_cons (pv 0) (pa_cons (pv 1) pa_nil))))
    (pss_cons (ps_set (i := 3) sc_back_tables.nd rfl (Or.inr rfl) (pe_cal c_way_of_none hr (by rfl) (pa_cons (pv 1) pa_nil)))
    (pss_cons (ps_asg (pe_mcal cG.c m_tables hr (pv 2) (pa_cons (pe_lc (own := [("number", 7)]) (g := gName 7) (tt := tYes) rfl sc_back_tables.nd (pi_range1 rfl T.range (pa_cons (pe_op op_add (pe_callB (call_lenK K) (by rfl) T.len PySem.boot_len (pa_cons (pe_fldK K (pv 2)) pa_nil)) pe_int) pa_nil)) (blkOk_by (N := ["turner", "machine", "grower", "none", "starts", "steps", "marks", "number", "state"]) (sc := defScope s_back_tables) (by decide +kernel)) (fun _ _ _ _ _ => pg_name (i := 7) sc_back_tables.nd rfl (Or.inl rfl)) (fun _ _ _ _ _ => pts_nil) (fun _ _ _ _ _ => (pe_tup (pa_cons (pv 7) (pa_cons (pv 3) pa_nil))))) pa_nil)) (pg_tup rfl (pgs_cons (pg_name (i := 4) sc_back_tables.nd rfl (Or.inl rfl)) (pgs_cons (pg_name (i := 5) sc_back_tables.nd rfl (Or.inl rfl)) pgs_nil))))
    (pss_cons (ps_set (i := 6) sc_back_tables.nd rfl (Or.inl rfl) (pe_callTy (call_tupK K) (by rfl) T.tuple (by decide +kernel) (pa_cons (pe_lc (own := [("state", 8)]) (g := gName 8) (tt := tYes) rfl sc_back_tables.nd (pi_listK K (pe_fldK K (pv 2))) (blkOk_by (N := ["turner", "machine", "grower", "none", "starts", "steps", "marks", "number", "state"]) (sc := defScope s_back_tables) (by decide +kernel)) (fun _ _ _ _ _ => pg_name (i := 8) sc_back_tables.nd rfl (Or.inl rfl)) (fun _ _ _ _ _ => pts_nil) (fun _ _ _ _ _ => (pe_mcal cG.c m_mark hr (pv 2) (pa_cons (pv 8) pa_nil)))) pa_nil)))
    (pss_one (ps_ret (pe_tup (pa_cons (pe_tup (pa_cons (pe_ix (ix_tupK K) (pv 1) pe_int (fun _ _ => rfl)) (pa_cons (pe_callTy (call_tupFK K) (by rfl) T.tuple (by decide +kernel) (pa_cons (pe_fldK K (pv 2)) pa_nil)) (pa_cons (pv 4) (pa_cons (pv 5) (pa_cons (pv 6) pa_nil)))))) (pa_cons (pe_callTy (call_tupK K) (by rfl) T.tuple (by decide +kernel) (pa_cons (pe_fldK K (pv 2)) pa_nil)) pa_nil))))))))), fun as fp post h kn => ?_⟩
  obtain ⟨m, t, n, hb, hm40, rfl, rfl, rfl⟩ := h
  have hm := hb.1
  have htl := hb.2.1.len
  refine sdm_seq (sdm_setM (P := fun ss' v k => ∃ a L, a.C = C ∧ L.Nodup ∧ (∀ y, y ∈ L ↔ y ∈ m.names ∨ y ∈ t.map (·.1)) ∧ ss' = starts [.d t.d, .d m.d] 7 ∧ v = .ref a.g ∧ k = HA.grow P w a m t L n [] []) (evm_make (ea_cons ev_v (ea_cons ev_v ea_nil)) fun x _ => ⟨_, ⟨x, m, t, n, by omega, rfl, rfl, rfl⟩, fun v k ⟨e0, a, L, e1, e2, e3, e4, e5⟩ => ⟨e0, a, L, e1, e3, e4, rfl, by rw [e2], e5⟩⟩) fun ss' v k ⟨a, L, hC, hLn, hLm, e1, e2, e3⟩ hkf => ?_)
  subst e1 e2 e3
  subst hC
  have hc := hb.cx hLn hLm
  have hLl : L.length ≤ 64 := by
    have h3 := hc.2.2
    have : (L.length + 1) * 1 ≤ (L.length + 1) * (1 + n + n ^ n) := Nat.mul_le_mul_left _ (by omega)
    omega
  have hfp : ∀ b, fpG a b → False ∨ H b = none := hkf
  refine sdm_seq (sdm_set (d := (Way.none m).d) (ev_call (ea_cons ev_v ea_nil) ⟨m, n, hm, rfl, rfl⟩) ?_)
  have hmm : ∀ (nm : Str), (fsG a .non .non).lookup nm = none → ∀ (S : List Gst) (rest1 rest2 : Sl) (rest : List Sl) B, Kn B (rest1 :: rest2 :: GrS P w a m t L n S S :: rest) → ∃ dx fs, B a.g = some (.ins a.C dx fs) ∧ fs.lookup nm = none := fun nm hnm S r1 r2 rest B kn => by
    obtain ⟨W, dx, vg, vm, kv1, vs, kv2, x⟩ := kn 2 _ _ rfl
    refine ⟨dx, _, x.g, ?_⟩
    simp only [fsG, List.lookup] at hnm ⊢
    revert hnm
    repeat' split
    all_goals intro hnm
    all_goals first | exact hnm | cases hnm | rfl
  refine sdm_seq (sdm_two (P := fun ss' d => ∃ (S : List Gst) (fs : List Nat) (rows : List (List Nat)), GS m n L S ∧ Firsts S ((List.range (L.length + 1)).map fun k => ⟨k, Way.none m⟩) fs ∧ Rows m t L S rows ∧ d = .tup [.tup (fs.map nat), .tup (rows.map rowD)] ∧ ss' = [.a (.d t.d), .a (.d m.d), GrS P w a m t L n S S, .a (.d (Way.none m).d), .no, .no, .no, .no, .no])
    (evd_m (P1 := fun ss' v k => ∃ (S : List Gst) (fs : List Nat) (rows : List (List Nat)), GS m n L S ∧ Firsts S ((List.range (L.length + 1)).map fun k => ⟨k, Way.none m⟩) fs ∧ Rows m t L S rows ∧ k = (HA.val (.tup [.tup (fs.map nat), .tup (rows.map rowD)]) v).and (HA.grow P w a m t L n S S) ∧ ss' = [.a (.d t.d), .a (.d m.d), GrS P w a m t L n S S, .a (.d (Way.none m).d), .no, .no, .no, .no, .no])
      (evm_methN (xs := ((List.range (L.length + 1)).map fun k => (⟨k, Way.none m⟩ : Gst)).map Gst.d) (k0 := HA.grow P w a m t L n [] []) ev_o (EvN.to (evn_lcR (n := L.length + 1) (fun k => Gst.d ⟨k, Way.none m⟩) (eds_cons (ev_addN (ev_lenL (ks := L) (ev_names cG)) (ev_n 1)) eds_nil) (by omega) fun k hk => ev_t2 ev_v ev_v) (by rw [List.map_map] <;> rfl)) (hmm "tables" rfl [] _ _ _) (fun B kn => kn 2 _ _ rfl) fun l ⟨B, knB, hB⟩ =>
        ⟨fpG a, _, ⟨a, m, t, L, n, (List.range (L.length + 1)).map fun k => ⟨k, Way.none m⟩, l, rfl, hc, fun s hs => ?_, by simp; omega, fun z => HA.grow_al (knB 2 _ _ rfl) l z hB, rfl, rfl, rfl⟩, hfp, fun B kn => HA.grow_al (kn 2 _ _ rfl), fun v k ⟨S, fs, rows, g1, g2, g3, g4⟩ F F' kn fr hk hkf hd => ?_⟩)
      fun ss' v k ⟨S, fs, rows, g1, g2, g3, g4, g5⟩ => ⟨_, ⟨S, fs, rows, g1, g2, g3, rfl, g5⟩, fun B hk => by subst g4; exact hk.1⟩) fun ss' d ⟨S, fs, rows, hS, hfs, hrw, e1, e2⟩ => ⟨_, _, e1, ?_⟩)
  · obtain ⟨k, hk, rfl⟩ := List.mem_map.mp hs
    exact ⟨show k ≤ L.length by have := List.mem_range.mp hk; omega, .inl rfl⟩
  · subst g4
    exact ⟨_, .cons (.d _) (.cons (.d _) (.cons (.o hk.2) (.cons (.d _) (.cons .no (.cons .no (.cons .no (.cons .no (.cons .no .nil)))))))), S, fs, rows, g1, g2, g3, rfl, rfl⟩
  subst e2
  -- the marks
  refine sdm_spec (i := 2) (Pk := fun k' => ∃ vs, k' = HA.growO P w a m t L n S S (some vs)) rfl (fun B ⟨W, dx, vg, vm, kv1, vs, kv2, x⟩ => ⟨_, ⟨vs, rfl⟩, W, dx, vg, vm, kv1, vs, kv2, x, fun v0 e => Option.some.inj e⟩) ?_
  rintro _ ⟨vs, rfl⟩
  have hcnt := hS.len hc
  refine sdm_seq (sdm_setD (P := fun ss' d => d = .tup ((S.map (gmark m t L)).map nat) ∧ ss' = [.a (.d t.d), .a (.d m.d), GrSO P w a m t L n S S (some vs), .a (.d (Way.none m).d), .a (.d (.tup (fs.map nat))), .a (.d (.tup (rows.map rowD))), .no, .no, .no])
    (evd_tupL (evm_lcS (fp1 := fpG a) (l := a.l1) (ds := S.map Gst.d) (fun i ss' acc => acc = (((S.map (gmark m t L)).take i).map nat) ∧ i ≤ S.length ∧ ss' = [.a (.d t.d), .a (.d m.d), GrSO P w a m t L n S S (some vs), .a (.d (Way.none m).d), .a (.d (.tup (fs.map nat))), .a (.d (.tup (rows.map rowD))), .no, .no, .no])
      hfp (ev_states cG) (fun B kn => ?_) (fun F F' vs' i ss' acc kn h1 hp fr kn' => ?_) (by rw [List.length_map]; omega) ⟨rfl, Nat.zero_le _, rfl⟩ (fun i ss' acc ⟨h1, h2, h3⟩ => ?_) fun F1 hF1 i x ss' acc hx ⟨h1, h2, h3⟩ => ?_)
      fun ss' v k ⟨acc, ⟨h1, h2, h3⟩, h4⟩ => ⟨acc, ⟨?_, h3⟩, fun B hk => by subst h4; exact hk⟩) fun ss' d ⟨e1, e2⟩ => ?_)
  · obtain ⟨W, dx, vg, vm, kv1, vs', kv2, x, y⟩ := kn 2 _ _ rfl
    exact ⟨vs', x.s1, x.sl⟩
  · obtain ⟨h1', h2', rfl⟩ := hp
    obtain ⟨W, dx, vg, vm, kv1, v1, kv2, x, y⟩ := kn 2 _ _ rfl
    obtain ⟨W2, dx2, vg2, vm2, kv12, v2, kv22, x2, y2⟩ := kn' 2 _ _ rfl
    have := x.s1
    rw [h1] at this
    cases this
    rw [x2.s1, y2 vs rfl, y vs rfl]
  · subst h3
    exact ⟨.cons rfl (.cons rfl (.cons rfl (.cons rfl (.cons rfl (.cons rfl (.cons rfl (.cons rfl (.cons rfl .nil)))))))), rfl, by rw [h1]; simp; omega⟩
  · subst h1 h3
    rw [List.getElem?_map] at hx
    cases hs : S[i]? with
    | none => rw [hs] at hx; cases hx
    | some s =>
      rw [hs] at hx
      cases hx
      have hu := hS.2 s (List.mem_of_getElem? hs)
      refine evd_m (P1 := fun ss' v k => ss' = [.a (.d t.d), .a (.d m.d), GrSO P w a m t L n S S (some vs), .a (.d (Way.none m).d), .a (.d (.tup (fs.map nat))), .a (.d (.tup (rows.map rowD))), .no, .no, .a (.d s.d)] ∧ k = (HA.val (nat (gmark m t L s)) v).and (HA.growO P w a m t L n S S (some vs)))
        (evm_meth (k0 := HA.growO P w a m t L n S S (some vs)) ev_o (ea_cons ev_v ea_nil) (fun B kn => by obtain ⟨W, dx, vg, vm, kv1, vs, kv2, x, y⟩ := kn 2 _ _ rfl; exact ⟨dx, _, x.g, rfl⟩) (fun B kn => kn 2 _ _ rfl) ⟨fpG a, _, ⟨a, m, t, L, n, S, s, some vs, rfl, hc, hu, rfl, rfl, rfl⟩, fun b hb => .inl hb, fun B kn => HA.grow_al (grL_growO B (kn 2 _ _ rfl)), fun v k e F F' kn fr hk hkf hd => ?_⟩) fun ss' v k ⟨e1, e2⟩ => ?_
      · subst e
        exact ⟨_, .cons (.d _) (.cons (.d _) (.cons (.o hk.2) (.cons (.d _) (.cons (.d _) (.cons (.d _) (.cons .no (.cons .no (.cons (.d _) .nil)))))))), rfl, rfl⟩
      · subst e1 e2
        have hmk : (S.map (gmark m t L))[i]? = some (gmark m t L s) := by rw [List.getElem?_map, hs]; rfl
        exact ⟨nat (gmark m t L s), ⟨.cons rfl (.cons rfl (.cons rfl (.cons rfl (.cons rfl (.cons rfl (.cons rfl (.cons rfl (.cons rfl .nil)))))))), by rw [take_map_succ hmk, List.map_append] <;> rfl, (List.getElem?_eq_some_iff.mp hs).1, rfl⟩, fun B hk => hk.1⟩
  · rw [h1, List.length_map, List.take_of_length_le (by rw [List.length_map]; omega)]
  subst e1 e2
  let b : M := ⟨m.forms, L, fs, rows, S.map (gmark m t L)⟩
  refine sdm_ret (k := HA.nil) (d := .tup [b.d, .tup (S.map Gst.d)]) (ev_t2 (ev_tup (xs := b.parts) (eds_cons (ev_ixc (d := .tup (m.forms.map .str)) (xs := m.parts) ev_v rfl) (eds_cons (ev_cb (ea_cons (ev_names cG) ea_nil) rcl_tupF) (eds_cons ev_v (eds_cons ev_v (eds_cons ev_v eds_nil))))) (by show 5 ≤ 100000; decide)) (ev_tupL (Ev.kn (x := .l (S.map Gst.d)) (ev_states cG) fun B kn => ?_))) (fun B kn => trivial) (fun b hb => hb.elim) fun v => ⟨b, .tup (S.map Gst.d), ⟨S, hLn, hLm, hc, hS, rfl, hfs, hrw, rfl⟩, rfl⟩
  · obtain ⟨W, dx, vg, vm, kv1, vs', kv2, x, y⟩ := kn 2 _ _ rfl
    exact ⟨_, vs', rfl, x.s1, x.sl⟩
def preDrawn (as : List A) (fp : Addr → Prop) (post : RM) : Prop := ∃ (m : M) (t : Tr) (n : Nat), BackPre m t n ∧ m.names.length ≤ 40 ∧ as = [.d t.d, .d m.d] ∧ fp = (fun _ => False) ∧ post = fun v k => ∃ b, Back m t n b ∧ k = (HA.val b.d v).and HA.nil
theorem sc_drawn_back : FnScope ["turner", "machine"] ["turner", "machine"] (defScope s_drawn_back) := ⟨rfl, rfl, rfl, by decide +kernel, rfl, by decide +kernel, by decide +kernel⟩
theorem ok_drawn_back (F : FnP K "drawn_back" "drawn_back" s_drawn_back f fd) (T : Txt mg) (c_back_tables : Cal P w K mg base "back_tables" 11 ["turner", "machine"] (spM K preBack)) : FnOk P w K mg base CX0 12 f fd ["turner", "machine"] (spM K preDrawn) := by
  refine fnM F sc_drawn_back (n := 0) rfl (fun as fp post h => by obtain ⟨_, _, _, _, _, rfl, _⟩ := h; rfl) fun cdv A outer s0 H E hr => ⟨_,
    (pss_one (ps_ret (pe_ix (ix_tupK K) (pe_cal c_back_tables hr (by rfl) (pa_cons (pv 0) (pa_cons (pv 1) pa_nil))) pe_int (fun _ _ => rfl)))), fun as fp post h kn => ?_⟩
  obtain ⟨m, t, n, hb, hm40, rfl, rfl, rfl⟩ := h
  refine sdm_retD (P := fun ss' d => ∃ b, Back m t n b ∧ d = b.d) (evd_ix (i := 0) (P := fun ss' d => ∃ b d', Back m t n b ∧ d = .tup [b.d, d']) (evd_m (P1 := fun ss' v k => ∃ b d, Back m t n b ∧ k = (HA.val (.tup [b.d, d]) v).and HA.nil) (evm_call (ea_cons ev_v (ea_cons ev_v ea_nil)) ⟨fun _ => False, _, ⟨m, t, n, hb, hm40, rfl, rfl, rfl⟩, fun a z => z.elim, fun B kn a z => z.elim, fun v k h F F' kn fr hk hkf hd => ⟨_, .cons (.d _) (.cons (.d _) .nil), h⟩⟩) fun ss' v k ⟨b, d, h1, h2⟩ => ⟨_, ⟨b, d, h1, rfl⟩, fun B hk => by subst h2; exact hk.1⟩) (fun ss => ev_int) fun ss' d ⟨b, d', h1, h2⟩ => ⟨false, _, b.d, h2, rfl, b, h1, rfl⟩) fun ss' d ⟨b, h1, h2⟩ => ?_
  subst h2
  exact ⟨HA.nil, fun v => ⟨b, h1, rfl⟩, fun B kn => trivial, fun a z => z.elim⟩
end
end G
/-! Trees of spots. -/
namespace G
open PySem L2
/-- a spot: its address, its list's, name, state, spots below -/
inductive ST where
  | mk (a l : Addr) (name : Str) (st : Nat) (kids : List ST)
def ST.a : ST → Addr
  | .mk a _ _ _ _ => a
def ST.l : ST → Addr
  | .mk _ l _ _ _ => l
def ST.name : ST → Str
  | .mk _ _ n _ _ => n
def ST.st : ST → Nat
  | .mk _ _ _ s _ => s
def ST.kids : ST → List ST
  | .mk _ _ _ _ ks => ks
mutual
def ST.doc : ST → Doc
  | .mk _ _ n _ ks => .mk n (ST.docs ks)
def ST.docs : List ST → List Doc
  | [] => []
  | k :: ks => k.doc :: ST.docs ks
end
theorem ST.docs_map : ∀ ks : List ST, ST.docs ks = ks.map ST.doc
  | [] => rfl
  | k :: ks => by rw [ST.docs, ST.docs_map ks]; rfl
/-- one spot's own -/
structure Nd where
  a : Addr
  l : Addr
  name : Str
  st : Nat
  ks : List Addr
def ST.nd : ST → Nd
  | .mk a l n s ks => ⟨a, l, n, s, ks.map ST.a⟩
mutual
def ST.nds : ST → List Nd
  | .mk a l n s ks => ⟨a, l, n, s, ks.map ST.a⟩ :: ST.ndss ks
def ST.ndss : List ST → List Nd
  | [] => []
  | k :: ks => ST.nds k ++ ST.ndss ks
end
theorem ST.ndss_app : ∀ a b : List ST, ST.ndss (a ++ b) = ST.ndss a ++ ST.ndss b
  | [], b => by rw [List.nil_append, ST.ndss]; rfl
  | k :: a, b => by rw [List.cons_append, ST.ndss, ST.ndss_app a b, ST.ndss, List.append_assoc]
theorem ST.nds_eq (T : ST) : T.nds = T.nd :: ST.ndss T.kids := by cases T; rw [ST.nds, ST.nd, ST.kids]
theorem ST.ndss_mem {k : ST} {x : Nd} : ∀ {ks : List ST}, k ∈ ks → x ∈ k.nds → x ∈ ST.ndss ks
  | [], h, _ => by cases h
  | j :: ks, h, hx => by
    rw [ST.ndss, List.mem_append]
    rcases List.mem_cons.mp h with rfl | h
    · exact .inl hx
    · exact .inr (ST.ndss_mem h hx)
theorem ST.ndss_of {x : Nd} : ∀ {ks : List ST}, x ∈ ST.ndss ks → ∃ k ∈ ks, x ∈ k.nds
  | [], h => by rw [ST.ndss] at h; cases h
  | j :: ks, h => by
    rw [ST.ndss, List.mem_append] at h
    rcases h with h | h
    · exact ⟨j, List.mem_cons_self, h⟩
    · obtain ⟨k, hk, hx⟩ := ST.ndss_of h
      exact ⟨k, List.mem_cons_of_mem _ hk, hx⟩
/-- no address twice -/
def ST.Nu (T : ST) : Prop := (T.nds.map Nd.a).Nodup ∧ (T.nds.map Nd.l).Nodup
def ST.at : List Nat → ST → Option ST
  | [], x => some x
  | i :: p, .mk _ _ _ _ ks => (ks[i]?).bind (ST.at p)
def ST.put (y : ST) : List Nat → ST → ST
  | [], _ => y
  | i :: p, .mk a l n s ks => .mk a l n s (ks.take i ++ (match ks[i]? with | some k => [ST.put y p k] | none => []) ++ ks.drop (i + 1))
theorem ST.at_app : ∀ (p q : List Nat) (x : ST), ST.at (p ++ q) x = (ST.at p x).bind (ST.at q)
  | [], q, x => by rw [List.nil_append, ST.at]; rfl
  | i :: p, q, .mk a l n s ks => by
    rw [List.cons_append, ST.at, ST.at]
    cases ks[i]? with
    | none => rfl
    | some k => exact ST.at_app p q k
theorem ST.at_doc : ∀ (p : List Nat) (x : ST), Doc.at p x.doc = (ST.at p x).map ST.doc
  | [], x => by rw [ST.at, Doc.at]; rfl
  | i :: p, .mk a l n s ks => by
    rw [ST.at, ST.doc, Doc.at, ST.docs_map, List.getElem?_map]
    cases ks[i]? with
    | none => rfl
    | some k => exact ST.at_doc p k
theorem ST.put_doc (y : ST) : ∀ (p : List Nat) (x : ST), (ST.put y p x).doc = Doc.put y.doc p x.doc
  | [], x => by rw [ST.put, Doc.put]
  | i :: p, .mk a l n s ks => by
    rw [ST.put, ST.doc, ST.doc, Doc.put, ST.docs_map, ST.docs_map, List.getElem?_map]
    cases ks[i]? with
    | none => simp
    | some k => simp [ST.put_doc y p k]
theorem ST.put_a (y : ST) : ∀ (p : List Nat) (x z : ST), ST.at p x = some z → y.a = z.a → (ST.put y p x).a = x.a
  | [], x, z, h, e => by rw [ST.at] at h; cases h; rw [ST.put]; exact e
  | i :: p, .mk a l n s ks, z, h, e => by rw [ST.put] <;> rfl
theorem ks_split {α : Type} {ks : List α} {i : Nat} {k : α} (h : ks[i]? = some k) : ks = ks.take i ++ [k] ++ ks.drop (i + 1) := by
  obtain ⟨hi, e⟩ := List.getElem?_eq_some_iff.mp h
  conv => lhs; rw [← List.take_append_drop i ks, List.drop_eq_getElem_cons hi, e]
  simp
/-- the spots around a place -/
theorem ST.around : ∀ (p : List Nat) (x z : ST), ST.at p x = some z → ∃ u v, x.nds = u ++ z.nds ++ v ∧ ∀ y, y.a = z.a → (ST.put y p x).nds = u ++ y.nds ++ v
  | [], x, z, h => by
    rw [ST.at] at h
    cases h
    exact ⟨[], [], by simp, fun y _ => by rw [ST.put]; simp⟩
  | i :: p, .mk a l n s ks, z, h => by
    rw [ST.at] at h
    cases hk : ks[i]? with
    | none => rw [hk] at h; cases h
    | some k =>
      rw [hk] at h
      obtain ⟨u, v, h1, h2⟩ := ST.around p k z h
      have e := ks_split hk
      refine ⟨⟨a, l, n, s, ks.map ST.a⟩ :: (ST.ndss (ks.take i) ++ u), v ++ ST.ndss (ks.drop (i + 1)), ?_, fun y hy => ?_⟩
      · rw [ST.nds]
        conv => lhs; rw [e]
        rw [ST.ndss_app, ST.ndss_app, ST.ndss, ST.ndss, h1, ← e]
        simp
      · rw [ST.put, hk, ST.nds]
        have ea : (ks.take i ++ [ST.put y p k] ++ ks.drop (i + 1)).map ST.a = ks.map ST.a := by
          conv => rhs; rw [e]
          rw [List.map_append, List.map_append, List.map_append, List.map_append, List.map_cons, List.map_cons, ST.put_a y p k z h hy]
        show ⟨a, l, n, s, (ks.take i ++ [ST.put y p k] ++ ks.drop (i + 1)).map ST.a⟩ :: ST.ndss (ks.take i ++ [ST.put y p k] ++ ks.drop (i + 1)) = _
        rw [ea, ST.ndss_app, ST.ndss_app, ST.ndss, ST.ndss, h2 y hy]
        simp
theorem ST.put_at (y : ST) : ∀ {p : List Nat} {x z : ST}, ST.at p x = some z → ST.at p (ST.put y p x) = some y
  | [], x, z, h => by rw [ST.put, ST.at]
  | i :: p, .mk a l n s ks, z, h => by
    rw [ST.at] at h
    cases hk : ks[i]? with
    | none => rw [hk] at h; cases h
    | some k =>
      rw [hk] at h
      have hi := (List.getElem?_eq_some_iff.mp hk).1
      rw [ST.put, hk, ST.at]
      have : (ks.take i ++ [ST.put y p k] ++ ks.drop (i + 1))[i]? = some (ST.put y p k) := by
        rw [List.append_assoc, List.getElem?_append_right (by rw [List.length_take]; omega), List.length_take, Nat.min_eq_left (by omega), Nat.sub_self]
        rfl
      show ((ks.take i ++ [ST.put y p k] ++ ks.drop (i + 1))[i]?).bind (ST.at p) = _
      rw [this]
      exact ST.put_at y h
theorem ST.at_take {x y : ST} {p : List Nat} (h : ST.at p x = some y) (n : Nat) : ∃ z, ST.at (p.take n) x = some z := by
  rw [← List.take_append_drop n p, ST.at_app] at h
  cases hq : ST.at (p.take n) x with
  | none => rw [hq] at h; cases h
  | some z => exact ⟨z, rfl⟩
theorem ST.at_mem : ∀ {p : List Nat} {x z : ST}, ST.at p x = some z → z.nd ∈ x.nds
  | p, x, z, h => by
    obtain ⟨u, v, h1, _⟩ := ST.around p x z h
    rw [h1, ST.nds_eq z]
    simp
/-! ### states -/
/-- the state that a spot's own kids give -/
def ST.calc (b : M) (n : Str) (ks : List ST) : Nat := ks.foldl (fun s k => b.step s k.st) (b.start n)
mutual
def ST.Fit (b : M) : ST → Prop
  | .mk _ _ n s ks => s = ST.calc b n ks ∧ ST.Fits b ks
def ST.Fits (b : M) : List ST → Prop
  | [] => True
  | k :: ks => ST.Fit b k ∧ ST.Fits b ks
end
theorem ST.Fits_iff (b : M) : ∀ ks : List ST, ST.Fits b ks ↔ ∀ k ∈ ks, ST.Fit b k
  | [] => by rw [ST.Fits]; simp
  | k :: ks => by rw [ST.Fits, ST.Fits_iff b ks]; simp
mutual
theorem ST.Fit.state {b : M} : ∀ {T : ST}, T.Fit b → T.st = b.state T.doc
  | .mk a l n s ks, h => by
    rw [ST.Fit] at h
    rw [ST.doc, M.state, ← ST.Fits.run h.2]
    exact h.1
theorem ST.Fits.run {b : M} : ∀ {ks : List ST} {s : Nat}, ST.Fits b ks → ks.foldl (fun s k => b.step s k.st) s = b.run s (ST.docs ks)
  | [], s, h => by rw [ST.docs, M.run]; rfl
  | k :: ks, s, h => by
    rw [ST.Fits] at h
    rw [ST.docs, M.run, List.foldl_cons, ST.Fit.state h.1]
    exact ST.Fits.run h.2
end
theorem ST.calc_eq {b : M} {n : Str} {ks : List ST} (h : ST.Fits b ks) : ST.calc b n ks = b.state (.mk n (ST.docs ks)) := by rw [M.state]; exact ST.Fits.run h
theorem ST.Fit.kids {b : M} {T : ST} (h : T.Fit b) : ST.Fits b T.kids := by cases T; rw [ST.Fit] at h; exact h.2
theorem ST.Fit.of {b : M} {T : ST} (h1 : T.st = ST.calc b T.name T.kids) (h2 : ST.Fits b T.kids) : T.Fit b := by cases T; rw [ST.Fit]; exact ⟨h1, h2⟩
theorem ST.Fit.at {b : M} : ∀ {p : List Nat} {T z : ST}, T.Fit b → ST.at p T = some z → z.Fit b
  | [], T, z, h, e => by rw [ST.at] at e; cases e; exact h
  | i :: p, .mk a l n s ks, z, h, e => by
    rw [ST.at] at e
    cases hk : ks[i]? with
    | none => rw [hk] at e; cases e
    | some k =>
      rw [hk] at e
      rw [ST.Fit] at h
      exact ST.Fit.at ((ST.Fits_iff b ks).mp h.2 k (List.mem_of_getElem? hk)) e
/-- all fits, but for the states along a path -/
def ST.Off (b : M) : List Nat → ST → Prop
  | [], .mk _ _ _ _ ks => ST.Fits b ks
  | i :: q, .mk _ _ _ _ ks => (∀ j k, ks[j]? = some k → j ≠ i → k.Fit b) ∧ ∃ k, ks[i]? = some k ∧ ST.Off b q k
theorem ST.Fit.off {b : M} : ∀ {q : List Nat} {T z : ST}, T.Fit b → ST.at q T = some z → T.Off b q
  | [], .mk a l n s ks, z, h, e => by rw [ST.Fit] at h; rw [ST.Off]; exact h.2
  | i :: q, .mk a l n s ks, z, h, e => by
    rw [ST.Fit] at h
    rw [ST.at] at e
    cases hk : ks[i]? with
    | none => rw [hk] at e; cases e
    | some k =>
      rw [hk] at e
      rw [ST.Off]
      exact ⟨fun j k hj _ => (ST.Fits_iff b ks).mp h.2 k (List.mem_of_getElem? hj), k, hk, ((ST.Fits_iff b ks).mp h.2 k (List.mem_of_getElem? hk)).off e⟩
/-- a change at a place leaves the rest -/
theorem ST.Off.put {b : M} {y : ST} (hy : ST.Fits b y.kids) : ∀ {q : List Nat} {T z : ST}, T.Off b q → ST.at q T = some z → (ST.put y q T).Off b q
  | [], .mk a l n s ks, z, h, e => by
    rw [ST.put]
    cases y
    rw [ST.Off]
    exact hy
  | i :: q, .mk a l n s ks, z, h, e => by
    rw [ST.at] at e
    cases hk : ks[i]? with
    | none => rw [hk] at e; cases e
    | some k =>
      rw [hk] at e
      have hi := (List.getElem?_eq_some_iff.mp hk).1
      rw [ST.Off] at h
      obtain ⟨h1, k', hk', h2⟩ := h
      rw [hk] at hk'
      cases hk'
      rw [ST.put, hk, ST.Off]
      have hlen : (ks.take i).length = i := by rw [List.length_take]; omega
      refine ⟨fun j x hj hne => ?_, ST.put y q k, ?_, h2.put hy e⟩
      · show x.Fit b
        have hj : (ks.take i ++ [ST.put y q k] ++ ks.drop (i + 1))[j]? = some x := hj
        rcases Nat.lt_or_ge j i with hlt | hge
        · rw [List.append_assoc, List.getElem?_append_left (by omega), List.getElem?_take_of_lt hlt] at hj
          exact h1 j x hj hne
        · rw [List.getElem?_append_right (by simp; omega), List.getElem?_drop] at hj
          refine h1 _ x hj ?_
          simp
          omega
      · show (ks.take i ++ [ST.put y q k] ++ ks.drop (i + 1))[i]? = _
        rw [List.append_assoc, List.getElem?_append_right (by omega), hlen, Nat.sub_self]
        rfl
/-- a path's end is mended: the rest of the path -/
theorem ST.Off.up {b : M} : ∀ {q : List Nat} {i : Nat} {T z : ST}, T.Off b (q ++ [i]) → ST.at (q ++ [i]) T = some z → z.Fit b → T.Off b q
  | [], i, .mk a l n s ks, z, h, e, hz => by
    rw [List.nil_append, ST.Off] at h
    rw [List.nil_append, ST.at] at e
    obtain ⟨h1, k, hk, _⟩ := h
    rw [hk] at e
    have e : ST.at [] k = some z := e
    rw [ST.at] at e
    cases e
    rw [ST.Off, ST.Fits_iff]
    intro x hx
    obtain ⟨j, hj⟩ := List.mem_iff_getElem?.mp hx
    by_cases e : j = i
    · subst e
      rw [hk] at hj
      cases hj
      exact hz
    · exact h1 j x hj e
  | c :: q, i, .mk a l n s ks, z, h, e, hz => by
    rw [List.cons_append, ST.Off] at h
    rw [List.cons_append, ST.at] at e
    obtain ⟨h1, k, hk, h2⟩ := h
    rw [hk] at e
    rw [ST.Off]
    exact ⟨h1, k, hk, h2.up e hz⟩
/-- fits at the end -/
theorem ST.Off.kids {b : M} : ∀ {q : List Nat} {T z : ST}, T.Off b q → ST.at q T = some z → ST.Fits b z.kids
  | [], .mk a l n s ks, z, h, e => by rw [ST.at] at e; cases e; rw [ST.Off] at h; exact h
  | i :: q, .mk a l n s ks, z, h, e => by
    rw [ST.at] at e
    rw [ST.Off] at h
    obtain ⟨h1, k, hk, h2⟩ := h
    rw [hk] at e
    exact h2.kids e
/-- the states along the path are right: all fits -/
theorem ST.Off.fit {b : M} : ∀ {q : List Nat} {T z : ST}, T.Off b q → ST.at q T = some z → (∀ n y, n ≤ q.length → ST.at (q.take n) T = some y → y.st = b.state y.doc) → T.Fit b
  | [], .mk a l n s ks, z, h, e, hs => by
    rw [ST.Off] at h
    have := hs 0 _ (Nat.zero_le _) (by rw [List.take_nil, ST.at])
    rw [ST.Fit]
    refine ⟨?_, h⟩
    rw [ST.calc_eq h]
    exact this
  | i :: q, .mk a l n s ks, z, h, e, hs => by
    rw [ST.at] at e
    rw [ST.Off] at h
    obtain ⟨h1, k, hk, h2⟩ := h
    rw [hk] at e
    have hkf : k.Fit b := h2.fit e fun m y hm hy => hs (m + 1) y (by rw [List.length_cons]; omega) (by rw [List.take_succ_cons, ST.at, hk]; exact hy)
    have hf : ST.Fits b ks := (ST.Fits_iff b ks).mpr fun x hx => by
      obtain ⟨j, hj⟩ := List.mem_iff_getElem?.mp hx
      by_cases e : j = i
      · subst e
        rw [hk] at hj
        cases hj
        exact hkf
      · exact h1 j x hj e
    have := hs 0 _ (Nat.zero_le _) (by rw [List.take_zero, ST.at])
    rw [ST.Fit]
    refine ⟨?_, hf⟩
    rw [ST.calc_eq hf]
    exact this
/-- the same state below gives the same state above -/
theorem state_up {b : M} : ∀ {p : List Nat} {x y z : Doc}, Doc.at p x = some y → b.state y = b.state z → b.state (Doc.put z p x) = b.state x
  | [], x, y, z, h, e => by rw [Doc.at] at h; cases h; rw [Doc.put, e]
  | i :: p, .mk n ks, y, z, h, e => by
    rw [Doc.at] at h
    cases hk : ks[i]? with
    | none => rw [hk] at h; cases h
    | some k =>
      rw [hk] at h
      have ih := state_up h e
      rw [Doc.put, hk, M.state, M.state]
      show b.run (b.start n) (ks.take i ++ [Doc.put z p k] ++ ks.drop (i + 1)) = _
      conv => rhs; rw [ks_split hk]
      rw [M.run_app, M.run_app, M.run_app, M.run_app, M.run, M.run, M.run, M.run, ih]
end G
namespace G
open PySem L2
open Evl (Ex)
def fsS (n : Nd) : List (Str × V) := [("name", .str n.name), ("state", .int (n.st : Int)), ("below", .ref n.l)]
def NdAt (C : Addr) (H : Hp) (n : Nd) : Prop := ∃ dx, H n.a = some (.ins C dx (fsS n)) ∧ H n.l = some (.lst (n.ks.map V.ref))
theorem NdAt.st {C : Addr} {H H' : Hp} {n : Nd} (h : NdAt C H n) (e : ∀ a o, a = n.a ∨ a = n.l → H a = some o → H' a = some o) : NdAt C H' n := by
  obtain ⟨dx, h1, h2⟩ := h
  exact ⟨dx, e _ _ (.inl rfl) h1, e _ _ (.inr rfl) h2⟩
theorem NdAt.al {C : Addr} {H : Hp} {n : Nd} (h : NdAt C H n) {b : Addr} (e : b = n.a ∨ b = n.l) : H b ≠ none := by
  obtain ⟨dx, h1, h2⟩ := h
  rcases e with rfl | rfl
  · rw [h1]; intro z; cases z
  · rw [h2]; intro z; cases z
def HA.node (C : Addr) (n : Nd) : HA := ⟨fun H => NdAt C H n, fun b => b = n.a ∨ b = n.l, fun H H' h _ e => h.st e⟩
def fpN (ns : List Nd) : Addr → Prop := fun b => ∃ n ∈ ns, b = n.a ∨ b = n.l
def HA.spot (C : Addr) (T : ST) : HA := ⟨fun H => ∀ n ∈ T.nds, NdAt C H n, fpN T.nds, fun H H' h _ e n hn => (h n hn).st fun a o q => e a o ⟨n, hn, q⟩⟩
def HA.spots (C l : Addr) (ks : List ST) : HA := ⟨fun H => H l = some (.lst (ks.map fun k => V.ref k.a)) ∧ ∀ n ∈ ST.ndss ks, NdAt C H n, fun b => b = l ∨ fpN (ST.ndss ks) b, fun H H' h _ e => ⟨e _ _ (.inl rfl) h.1, fun n hn => (h.2 n hn).st fun a o q => e a o (.inr ⟨n, hn, q⟩)⟩⟩
theorem HA.spot_al {C : Addr} {T : ST} {H : Hp} (h : (HA.spot C T).φ H) : ∀ a, (HA.spot C T).fp a → H a ≠ none := fun a ⟨n, hn, e⟩ => (h n hn).al e
theorem HA.spots_al {C l : Addr} {ks : List ST} {H : Hp} (h : (HA.spots C l ks).φ H) : ∀ a, (HA.spots C l ks).fp a → H a ≠ none := fun a e => by
  rcases e with rfl | ⟨n, hn, e⟩
  · rw [h.1]; intro z; cases z
  · exact (h.2 n hn).al e
/-- a spot: itself, and its kids -/
theorem HA.spot_spots {C : Addr} {T : ST} {H : Hp} (h : (HA.spot C T).φ H) : NdAt C H T.nd ∧ (HA.spots C T.l T.kids).φ H := by
  have h1 := h T.nd (by rw [ST.nds_eq]; exact List.mem_cons_self)
  refine ⟨h1, ?_, fun n hn => h n (by rw [ST.nds_eq]; exact List.mem_cons_of_mem _ hn)⟩
  obtain ⟨dx, g1, g2⟩ := h1
  obtain ⟨a, l, n, st, ks⟩ := T
  have g2 : H l = some (.lst ((ks.map ST.a).map V.ref)) := g2
  show H l = some (.lst (ks.map fun k => V.ref k.a))
  rw [g2, List.map_map] <;> rfl
theorem HA.spots_kid {C l : Addr} {ks : List ST} {k : ST} {H : Hp} (h : (HA.spots C l ks).φ H) (hk : k ∈ ks) : (HA.spot C k).φ H := fun n hn => h.2 n (ST.ndss_mem hk hn)
structure ClsS (K : PySem.W.Frag) (C : Addr) : Prop where
  c : Cls K C
  n1 : NoAttr K C "name"
  n2 : NoAttr K C "state"
  n3 : NoAttr K C "below"
section
variable {K : PySem.W.Frag} {C : Addr} {ss : List Sl} {te : TE} {n : Nd}
theorem ev_sname (c : ClsS K C) (h : Ev K te ss (.w (.ref n.a))) (hk : ∀ B, Kn B ss → NdAt C B n) : Ev K (tFld K te "name") ss (.d (.str n.name)) := ev_fld h c.c c.n1 fun B kn => by
  obtain ⟨dx, h1, h2⟩ := hk B kn
  exact ⟨dx, _, _, h1, rfl, ad_str⟩
theorem ev_sstate (c : ClsS K C) (h : Ev K te ss (.w (.ref n.a))) (hk : ∀ B, Kn B ss → NdAt C B n) : Ev K (tFld K te "state") ss (.d (nat n.st)) := ev_fld h c.c c.n2 fun B kn => by
  obtain ⟨dx, h1, h2⟩ := hk B kn
  exact ⟨dx, _, _, h1, rfl, ad_int⟩
theorem ev_sbelow (c : ClsS K C) (h : Ev K te ss (.w (.ref n.a))) (hk : ∀ B, Kn B ss → NdAt C B n) : Ev K (tFld K te "below") ss (.w (.ref n.l)) := ev_fld h c.c c.n3 fun B kn => by
  obtain ⟨dx, h1, h2⟩ := hk B kn
  exact ⟨dx, _, _, h1, rfl, rfl⟩
end
section
variable {P : Program} {w : World} {K : PySem.W.Frag} {mg : Str → Option Value} {base : Heap} {f C : Addr} {fd : FuncData}
/-! ### state_by -/
def preSb (C : Addr) (as : List A) (r : R) : Prop := ∃ (b : M) (N : Nat) (x : Str) (l : Addr) (ks : List ST), b.Ok N ∧ (∀ k ∈ ks, k.st < N) ∧ ks.length ≤ 1000 ∧ as = [.d b.d, .d (.str x), .o (HA.spots C l ks) (.ref l)] ∧ r = .d (nat (ST.calc b x ks))
theorem calc_lt {b : M} {N : Nat} (hb : b.Ok N) : ∀ (ks : List ST) {s : Nat}, s < N → (∀ k ∈ ks, k.st < N) → ks.foldl (fun s k => b.step s k.st) s < N
  | [], s, hs, _ => hs
  | k :: ks, s, hs, h => by
    rw [List.foldl_cons]
    exact calc_lt hb ks (hb.step_lt hs (h k List.mem_cons_self)) fun j hj => h j (List.mem_cons_of_mem _ hj)
theorem sc_state_by : FnScope ["machine", "name", "below", "state", "spot"] ["machine", "name", "below"] (defScope s_state_by) := ⟨rfl, rfl, rfl, by decide +kernel, rfl, by decide +kernel, by decide +kernel⟩
theorem ok_state_by (F : FnP K "state_by" "state_by" s_state_by f fd) (T : Txt mg) (cS : ClsS K C) (c_start_of : Cal P w K mg base "start_of" 1 ["machine", "name"] (spD K preStart)) : FnOk P w K mg base CX0 2 f fd ["machine", "name", "below"] (spD K (preSb C)) := by
  refine fnD F sc_state_by (n := 2) rfl (fun as r h => by obtain ⟨_, _, _, _, _, _, _, _, rfl, _⟩ := h; rfl) fun cdv A outer s H E hr => ⟨_,
    (pss_cons (ps_set (i := 3) sc_state_by.nd rfl (Or.inl rfl) (pe_cal c_start_of hr (by rfl) (pa_cons (pv 0) (pa_cons (pv 1) pa_nil))))
    (pss_cons (ps_for PassesOwn.never rfl (pi_listK K (pv 2)) (pg_name (i := 4) sc_state_by.nd rfl (Or.inl rfl))
    (pss_one (ps_set (i := 3) sc_state_by.nd rfl (Or.inl rfl) (pe_ix (ix_tupK K) (pe_ix (ix_tupK K) (pe_ix (ix_tupK K) (pv 0) pe_int (fun _ _ => rfl)) (pv 3) (fun _ _ => rfl)) (pe_fldK K (pv 4)) (fun _ _ => rfl)))))
    (pss_one (ps_ret (pv 3))))), fun as r h => ?_⟩
  obtain ⟨b, N, x, l, ks, hb, hk, hz, rfl, rfl⟩ := h
  refine sd_seq (sd_set (d := nat (b.start x)) (ev_call (ea_cons ev_v (ea_cons ev_v ea_nil)) ⟨b, N, x, hb, rfl, rfl⟩) ?_)
  have hget : ∀ (i : Nat) v, (ks.map fun k => V.ref k.a)[i]? = some v → ∃ k, ks[i]? = some k ∧ v = .ref k.a ∧ (ks.map ST.nd).getD i ⟨0, 0, "", 0, []⟩ = k.nd := fun i v hi => by
    rw [List.getElem?_map] at hi
    cases hki : ks[i]? with
    | none => rw [hki] at hi; cases hi
    | some k =>
      rw [hki] at hi
      cases hi
      exact ⟨k, rfl, rfl, by rw [List.getD_eq_getElem?_getD, List.getElem?_map, hki]; rfl⟩
  refine sd_seq (sd_forO (vs := ks.map fun (k : ST) => V.ref k.a) (fun i => HA.node C ((ks.map ST.nd).getD i ⟨0, 0, "", 0, []⟩)) (fun i ss => ∃ z, ss = [.a (.d b.d), .a (.d (.str x)), .a (.o (HA.spots C l ks) (.ref l)), .a (.d (nat ((ks.take i).foldl (fun s k => b.step s k.st) (b.start x)))), z]) (ev_o (i := 2)) (fun B kn => (kn 2 _ _ rfl).1) (fun i v hi B kn => ?_) ⟨.no, rfl⟩ ?_ ?_)
  · obtain ⟨k, h1, _, h3⟩ := hget i v hi
    show NdAt C B _
    rw [h3]
    exact (kn 2 _ _ rfl).2 _ (ST.ndss_mem (List.mem_of_getElem? h1) (by rw [ST.nds_eq]; exact List.mem_cons_self))
  · rintro i v ss' hi ⟨z, rfl⟩
    obtain ⟨k, h1, rfl, h3⟩ := hget i v hi
    have hkm := List.mem_of_getElem? h1
    have hl := calc_lt hb (ks.take i) (hb.start_lt x) fun j hj => hk j (List.mem_of_mem_take hj)
    simp only [h3]
    rw [take_map_succ h1, List.foldl_append]
    exact sd_set (ev_step hb ev_v ev_v (Ev.to (ev_sstate (n := k.nd) cS (Ev.to (ev_o (i := 4)) (by cases k; rfl)) fun B kn => kn 4 _ _ rfl) (by cases k; rfl)) hl (hk k hkm)) ⟨_, rfl⟩
  · rintro ss' ⟨z, rfl⟩
    rw [List.length_map, List.take_length]
    exact sd_ret ev_v rfl
/-! ### doc_of -/
def preDocOf (C : Addr) (h : Nat) (as : List A) (r : R) : Prop := ∃ T : ST, T.doc.ht ≤ h ∧ T.doc.size ≤ 1000 ∧ as = [.o (HA.spot C T) (.ref T.a)] ∧ r = .d T.doc.d
theorem sc_doc_of : FnScope ["spot", "child"] ["spot"] (defScope s_doc_of) := ⟨rfl, rfl, rfl, by decide +kernel, rfl, by decide +kernel, by decide +kernel⟩
theorem ok_doc_of (h : Nat) (F : FnP K "doc_of" "doc_of" s_doc_of f fd) (T : Txt mg) (cS : ClsS K C) (c_doc_of : Cal P w K mg base "doc_of" h ["spot"] (spD K (preDocOf C h))) : FnOk P w K mg base CX0 (h + 1) f fd ["spot"] (spD K (preDocOf C (h + 1))) := by
  refine fnD F sc_doc_of (n := 1) rfl (fun as r h => by obtain ⟨_, _, _, rfl, _⟩ := h; rfl) fun cdv A outer s H E hr => ⟨_,
    (pss_one (ps_ret (pe_tup (pa_cons (pe_fldK K (pv 0)) (pa_cons (pe_callTy (call_tupK K) (by rfl) T.tuple (by decide +kernel) (pa_cons (pe_lc (own := [("child", 1)]) (g := gName 1) (tt := tYes) rfl sc_doc_of.nd (pi_listK K (pe_fldK K (pv 0))) (blkOk_by (N := ["spot", "child"]) (sc := defScope s_doc_of) (by decide +kernel)) (fun _ _ _ _ _ => pg_name (i := 1) sc_doc_of.nd rfl (Or.inl rfl)) (fun _ _ _ _ _ => pts_nil) (fun _ _ _ _ _ => (pe_cal c_doc_of hr (by rfl) (pa_cons (pv 1) pa_nil)))) pa_nil)) pa_nil))))), fun as r h => ?_⟩
  obtain ⟨⟨a, l, n, st, ks⟩, hh, hz, rfl, rfl⟩ := h
  rw [ST.doc, Doc.ht] at hh
  rw [ST.doc, Doc.size] at hz
  have hlk := Doc.len_le (ST.docs ks)
  rw [ST.docs_map, List.length_map, ← ST.docs_map] at hlk
  have hself : ∀ {ss : List Sl}, ss[0]? = some (.a (.o (HA.spot C (.mk a l n st ks)) (.ref a))) → ∀ B, Kn B ss → (HA.spot C (.mk a l n st ks)).φ B := fun h B kn => kn 0 _ _ h
  have hget : ∀ (i : Nat) v, (ks.map fun k => V.ref k.a)[i]? = some v → ∃ k, ks[i]? = some k ∧ v = .ref k.a ∧ ks.getD i (.mk a l n st ks) = k := fun i v hi => by
    rw [List.getElem?_map] at hi
    cases hki : ks[i]? with
    | none => rw [hki] at hi; cases hi
    | some k =>
      rw [hki] at hi
      cases hi
      exact ⟨k, rfl, rfl, by rw [List.getD_eq_getElem?_getD, hki]; rfl⟩
  refine sd_ret (ev_mkD (n := n) (ks := ST.docs ks) (ev_sname (n := (ST.mk a l n st ks).nd) cS ev_o fun B kn => (HA.spot_spots (hself rfl B kn)).1) (ev_tupL (EvN.l (EvN.to (evn_lcO (vs := ks.map fun (k : ST) => V.ref k.a) (fun i => HA.spot C (ks.getD i (.mk a l n st ks))) (fun i => (ks.getD i (.mk a l n st ks)).doc.d) (ev_sbelow (n := (ST.mk a l n st ks).nd) cS ev_o fun B kn => (HA.spot_spots (hself rfl B kn)).1) (fun B kn => (HA.spot_spots (hself rfl B kn)).2.1) (fun i v hi B kn => ?_) (by simp; omega) fun i v hi => ?_) ?_)))) ?_
  · obtain ⟨k, h1, _, h3⟩ := hget i v hi
    rw [h3]
    exact HA.spots_kid (HA.spot_spots (hself rfl B kn)).2 (List.mem_of_getElem? h1)
  · obtain ⟨k, h1, rfl, h3⟩ := hget i v hi
    rw [h3]
    have hm : k.doc ∈ ST.docs ks := by rw [ST.docs_map]; exact List.mem_map.mpr ⟨k, List.mem_of_getElem? h1, rfl⟩
    have m1 := Doc.ht_le hm
    have m2 := Doc.size_le hm
    exact ev_call (ea_cons ev_v ea_nil) ⟨k, by omega, by omega, rfl, rfl⟩
  · rw [ST.docs_map, List.length_map, List.map_map]
    apply List.ext_getElem?
    intro i
    by_cases hi : i < ks.length
    · rw [List.getElem?_map, List.getElem?_range hi, List.getElem?_map, List.getElem?_eq_getElem hi, Option.map_some, Option.map_some, List.getD_eq_getElem?_getD, List.getElem?_eq_getElem hi]
      rfl
    · rw [List.getElem?_eq_none (by simpa using hi), List.getElem?_eq_none (by simpa using hi)]
  · rw [ST.doc]
/-! ### Spot.__init__ -/
def preSpot (C : Addr) (as : List A) (fp : Addr → Prop) (post : RM) : Prop := ∃ (x l : Addr) (n : Str) (s : Nat) (k0 : HA), as = [.o (HA.ins C [] x) (.ref x), .d (.str n), .d (nat s), .o k0 (.ref l)] ∧ fp = (fun a => a = x) ∧ post = fun v k => v = .non ∧ k = HA.ins C [("name", .str n), ("state", .int (s : Int)), ("below", .ref l)] x
theorem sc_Spot_init : FnScope ["self", "name", "state", "below"] ["self", "name", "state", "below"] (defScope s_Spot_init) := ⟨rfl, rfl, rfl, by decide +kernel, rfl, by decide +kernel, by decide +kernel⟩
theorem ok_Spot_init (F : FnP K "__init__" "Spot.__init__" s_Spot_init f fd) (T : Txt mg) (cS : ClsS K C) : FnOk P w K mg base CX0 1 f fd ["self", "name", "state", "below"] (spM K (preSpot C)) := by
  refine fnM F sc_Spot_init (n := 0) rfl (fun as fp post h => by obtain ⟨_, _, _, _, _, rfl, _⟩ := h; rfl) fun cdv A outer s0 H E hr => ⟨_,
    (pss_cons (ps_fldK K (pv 0) (pv 1) rfl)
    (pss_cons (ps_fldK K (pv 0) (pv 2) rfl)
    (pss_one (ps_fldK K (pv 0) (pv 3) rfl)))), fun as fp post h kn => ?_⟩
  obtain ⟨x, l, n, s, k0, rfl, rfl, rfl⟩ := h
  refine sdm_seq (sdm_fld (x := .d (.str n)) (a := x) (C := C) ev_v (.inl ⟨_, rfl⟩) ev_o cS.c cS.n1 (fun B kn => by obtain ⟨dx, h⟩ := kn 0 _ _ rfl; exact ⟨dx, _, h, by show 0 < 1000; decide⟩) (.inl rfl) fun F dx fs y kn hF hy => ⟨[.a (.o (HA.ins C [("name", .str n)] x) (.ref x)), .a (.d (.str n)), .a (.d (nat s)), .a (.w (.ref l))], ?_, ?_⟩)
  · obtain ⟨dx', h1⟩ := kn 0 _ _ rfl
    rw [h1] at hF
    cases hF
    obtain rfl := at_str.mp (show At F (.str n) y from hy)
    exact .cons (.o ⟨dx, upd_same⟩) (.cons (.d _) (.cons (.d _) (.cons .ow .nil)))
  refine sdm_seq (sdm_fld (x := .d (nat s)) (a := x) (C := C) ev_v (.inl ⟨_, rfl⟩) ev_o cS.c cS.n2 (fun B kn => by obtain ⟨dx, h⟩ := kn 0 _ _ rfl; exact ⟨dx, _, h, by show 1 < 1000; decide⟩) (.inl rfl) fun F dx fs y kn hF hy => ⟨[.a (.o (HA.ins C [("name", .str n), ("state", .int (s : Int))] x) (.ref x)), .a (.d (.str n)), .a (.d (nat s)), .a (.w (.ref l))], ?_, ?_⟩)
  · obtain ⟨dx', h1⟩ := kn 0 _ _ rfl
    rw [h1] at hF
    cases hF
    obtain rfl := at_int.mp (show At F (nat s) y from hy)
    exact .cons (.o ⟨dx, upd_same⟩) (.cons (.d _) (.cons (.d _) (.cons (.w _) .nil)))
  refine sdm_fld (x := .w (.ref l)) (a := x) (C := C) ev_v (.inr ⟨_, rfl⟩) ev_o cS.c cS.n3 (fun B kn => by obtain ⟨dx, h⟩ := kn 0 _ _ rfl; exact ⟨dx, _, h, by show 2 < 1000; decide⟩) (.inl rfl) fun F dx fs y kn hF hy => ⟨[.a (.o (HA.ins C [("name", .str n), ("state", .int (s : Int)), ("below", .ref l)] x) (.ref x)), .a (.d (.str n)), .a (.d (nat s)), .a (.w (.ref l))], ?_, ?_⟩
  · obtain ⟨dx', h1⟩ := kn 0 _ _ rfl
    rw [h1] at hF
    cases hF
    cases hy
    exact .cons (.o ⟨dx, upd_same⟩) (.cons (.d _) (.cons (.d _) (.cons (.w _) .nil)))
  exact ⟨_, ⟨rfl, rfl⟩, fun B kn => kn 0 _ _ rfl, fun a ha => .inl ha⟩
end
end G
namespace G
open PySem L2
open Evl (Ex)
/-- a list of things of which something is known -/
def HA.lstO (l : Addr) (its : List (V × HA)) : HA := ⟨fun H => H l = some (.lst (its.map (·.1))) ∧ ∀ it ∈ its, it.2.φ H, fun b => b = l ∨ ∃ it ∈ its, it.2.fp b, fun H H' h t e => ⟨e _ _ (.inl rfl) h.1, fun it hi => it.2.st H H' (h.2 it hi) t fun a o q => e a o (.inr ⟨it, hi, q⟩)⟩⟩
def Apart (its : List (V × HA)) : Prop := its.Pairwise fun x y => ∀ a, y.2.fp a → ¬ x.2.fp a
section
variable {K : PySem.W.Frag} {F F0 H H' : Hp} {ss : List Sl} {σ : St} {tl : TE} {N Bk Ct : SN} {fp : Addr → Prop} {Rm : RM}
/-- [f(..) for x in a tuple], f makes new things and changes nothing -/
theorem evm_lcC {α : Type} {j : Nat} {fr0 : Bool} {ks : List α} {e : α → D} {pre : List A → (Addr → Prop) → RM → Prop} {as : α → List A} {post : α → RM} {ta : TA} {E : XK} (h : Ev K tl ss (.d (.tu fr0 (ks.map e)))) (hz : ks.length ≤ 100000)
    (ha : ∀ k ∈ ks, EvAs K ta (ss.set j (.a (.d (e k)))) (as k)) (hp : ∀ k ∈ ks, pre (as k) (fun _ => False) (post k)) (hal : ∀ k v kk, post k v kk → ∀ H, kk.φ H → ∀ a, kk.fp a → H a ≠ none) :
    EvM K fp F0 (tLc (iTup K tl) (gName j) tYes (tCall (spM K pre) [] E ta) [j]) ss fun ss' v k => ss' = ss ∧ ∃ (l : Addr) (its : List (V × HA)), v = .ref l ∧ k = HA.lstO l its ∧ Paired (fun kk it => post kk it.1 it.2) ks its ∧ Apart its ∧ ∀ it ∈ its, ¬ it.2.fp l := fun F H σ Q fr ok q =>
  h F F H σ _ ok fun v H1 e1 r => by
    obtain ⟨a, vs, rfl, hta, hl⟩ := un_tu r
    have okA := ok.mono e1
    refine ⟨a, rfl, ⟨vs, hta.sq⟩, fun Dl hD => ?_⟩
    have hlen := hl.length
    rw [List.length_map] at hlen
    let St : Nat → Hp → Prop := fun i H' => ∃ its : List (V × HA), Paired (fun kk it => post kk it.1 it.2) (ks.take i) its ∧ Apart its ∧ Ex H1 H' ∧ H' Dl = some (.lst (its.map (·.1))) ∧ ∀ it ∈ its, it.2.φ H' ∧ (∀ b, it.2.fp b → H1 b = none) ∧ ¬ it.2.fp Dl
    have eD : Ex H1 (upd H1 Dl (.lst [])) := Evl.Ex.new hD
    refine lc_tup (xs := vs) St ⟨[], by rw [List.take_zero]; exact .nil, List.Pairwise.nil, eD, upd_same, fun it h => nomatch h⟩ (fun i H' _ p => (hta.mono (TEx.of p.choose_spec.2.2.1)).sq) (fun i x H' hi p => ?_) fun H' p => ?_
    · obtain ⟨its, p1, p2, p3, p4, p5⟩ := p
      obtain ⟨d, hd, hx⟩ := hl.back hi
      rw [List.getElem?_map] at hd
      cases hk : ks[i]? with
      | none => rw [hk] at hd; cases hd
      | some k =>
        rw [hk] at hd
        cases hd
        have hkm := List.mem_of_getElem? hk
        have hik : i < ks.length := (List.getElem?_eq_some_iff.mp hk).1
        have e1' : (L2.wipe σ [j]).set j (some x) = σ.set j (some x) := by
          show (σ.set j none).set j (some x) = _
          rw [List.set_set]
        show L2.wipe ((L2.wipe σ [j]).set j (some x)) [j] = L2.wipe σ [j] ∧ tYes ((L2.wipe σ [j]).set j (some x)) H' _
        rw [e1']
        refine ⟨by show (σ.set j (some x)).set j none = σ.set j none; rw [List.set_set], ?_⟩
        unfold tYes
        dsimp only
        rw [if_pos rfl]
        have ok2 : Ok K F F H' (ss.set j (.a (.d (e k)))) (σ.set j (some x)) := (okA.mono p3).setD (hx.ex p3)
        refine ha k hkm F F H' _ _ ok2 fun as' H2 e2 r2 => ?_
        refine ⟨as k, fun _ => False, post k, by rw [List.append_nil]; exact r2, hp k hkm, fun u kk F1 H3 hv hkk hkf fr1 ex => ?_⟩
        have e3 : Ex H2 H3 := fun b o q => ex b o (fr1.k b o (fun z => z) q)
        have hkf' : ∀ b, kk.fp b → H2 b = none := fun b hb => (hkf b hb).elim (fun z => z.elim) id
        have eA := e2.trans e3
        have hil : its.length = i := by
          have := Paired.len p1
          rw [List.length_take] at this
          omega
        have hDl := eA _ _ p4
        have tex : TEx H3 (upd H3 Dl (.lst (its.map (·.1) ++ [u]))) := TEx.upd fun zs q => by rw [hDl] at q; cases q; rfl
        have keep : ∀ (kk : HA), kk.φ H3 → ¬ kk.fp Dl → kk.φ (upd H3 Dl (.lst (its.map (·.1) ++ [u]))) := fun kk h1 h2 => kk.st H3 _ h1 tex fun b o hb q => by
          rw [upd_ne (by rintro rfl; exact h2 hb)]
          exact q
        have hnew : ¬ kk.fp Dl := fun z => by
          have := hkf' Dl z
          rw [e2 _ _ p4] at this
          cases this
        refine ⟨its.map (·.1), hDl, Evl.sz_lt (by rw [List.length_map]; omega), its ++ [(u, kk)], ?_, ?_, ?_, ?_, ?_⟩
        · rw [take_map_succ hk]
          exact Paired.snoc p1 hv
        · refine List.pairwise_append.mpr ⟨p2, List.pairwise_singleton _ _, fun x hx y hy b hb hb2 => ?_⟩
          rw [List.mem_singleton.mp hy] at hb
          have h1 := hkf' b hb
          obtain ⟨g1, g2, g3⟩ := p5 x hx
          obtain ⟨i', hi'⟩ := List.mem_iff_getElem?.mp hx
          obtain ⟨kk', q1, q2⟩ := Paired.get p1 hi'
          exact hal kk' _ _ q2 H' g1 b hb2 (Evl.fresh_back e2 h1)
        · exact Evl.Ex.mut (p3.trans eA) hD
        · rw [upd_same, List.map_append]
          rfl
        · intro it hit
          rcases List.mem_append.mp hit with hit | hit
          · obtain ⟨g1, g2, g3⟩ := p5 it hit
            exact ⟨keep _ (it.2.ex eA g1) g3, g2, g3⟩
          · rw [List.mem_singleton.mp hit]
            exact ⟨keep _ (kk.ex ex hkk) hnew, fun b hb => Evl.fresh_back (p3.trans e2) (hkf' b hb), hnew⟩
    · obtain ⟨its, p1, p2, p3, p4, p5⟩ := p
      rw [List.take_of_length_le (by omega)] at p1
      classical
      let F2 : Hp := fun b => if F b = none ∧ (∃ ys, H b = some (.lst ys)) then none else H' b
      have f2n : ∀ b, ¬ (F b = none ∧ ∃ ys, H b = some (.lst ys)) → F2 b = H' b := fun b z => if_neg z
      have f2y : ∀ b, (F b = none ∧ ∃ ys, H b = some (.lst ys)) → F2 b = none := fun b z => if_pos z
      have eA : Ex H H' := e1.trans p3
      have eF : Ex F F2 := fun b u z => by rw [f2n b (fun y => by rw [y.1] at z; cases z)]; exact eA _ _ (ok.ex b u z)
      have e2 : Ex F2 H' := fun b u z => by
        by_cases hb : F b = none ∧ ∃ ys, H b = some (.lst ys)
        · rw [f2y b hb] at z; cases z
        · rwa [f2n b hb] at z
      have tf : TEx H' F2 := fun b u t z => by
        rw [f2n b fun ⟨_, ys, y⟩ => by rw [eA _ _ y] at z; cases z; cases t]
        exact z
      have nw : ∀ b, H1 b = none → F2 b = H' b := fun b hb => f2n b fun ⟨_, ys, y⟩ => by rw [e1 _ _ y] at hb; cases hb
      refine q ss (.ref Dl) (HA.lstO Dl its) F2 H' ⟨rfl, Dl, its, rfl, rfl, p1, p2, fun it hi => (p5 it hi).2.2⟩ ⟨by rw [nw _ hD]; exact p4, fun it hi => ?_⟩ (fun b hb => ?_) (fr.trans' (.of_ex eF)) ?_ (.of eA) fun b ys z1 z2 => ⟨eA _ _ z2, f2y b ⟨z1, ys, z2⟩⟩
      · obtain ⟨g1, g2, g3⟩ := p5 it hi
        exact it.2.st H' F2 g1 tf fun b o hb z => by rw [nw b (g2 b hb)]; exact z
      · rcases hb with rfl | ⟨it, hi, hb⟩
        · exact .inr (fr.d _ (Evl.fresh_back okA.ex hD))
        · exact .inr (fr.d _ (Evl.fresh_back okA.ex ((p5 it hi).2.1 b hb)))
      · refine ⟨Ex.refl _, e2, ok.len, fun i s hi => ?_, ok.sep⟩
        obtain ⟨o, ho, qs⟩ := (ok.mono eA).at_ i s hi
        refine ⟨o, ho, ?_⟩
        cases s with
        | no => trivial
        | a x =>
          cases x with
          | d x => exact qs
          | l xs => exact qs
          | r xs => obtain ⟨a, vs, r, h1, h2⟩ := qs; exact ⟨a, vs, r, Evl.ex_l eF h1, h2⟩
          | w u => exact qs
          | o kk u => exact ⟨qs.1, kk.ex eF qs.2⟩
        | own xs =>
          obtain ⟨_, ho1, a1, vs1, r1, g2, g3, _⟩ := ok.at_ i _ hi
          obtain ⟨a, vs, r, h2, h3, h4⟩ := qs
          subst r r1
          rw [ho] at ho1
          cases ho1
          exact ⟨_, vs, rfl, f2y _ ⟨h2, _, g3⟩, h3, h4⟩
end
/-- what a list of new spots is -/
theorem its_spots {C : Addr} {b : M} : ∀ {ks : List Doc} {its : List (V × HA)}, Paired (fun kk it => ∃ T : ST, T.doc = kk ∧ T.Fit b ∧ T.Nu ∧ it.1 = V.ref T.a ∧ it.2 = HA.spot C T) ks its → Apart its →
    ∃ Ts : List ST, its = Ts.map (fun T => (V.ref T.a, HA.spot C T)) ∧ ST.docs Ts = ks ∧ ST.Fits b Ts ∧ ((ST.ndss Ts).map Nd.a).Nodup ∧ ((ST.ndss Ts).map Nd.l).Nodup
  | _, _, .nil, _ => ⟨[], rfl, by rw [ST.docs], by rw [ST.Fits]; trivial, by rw [ST.ndss]; exact List.nodup_nil, by rw [ST.ndss]; exact List.nodup_nil⟩
  | _, _, @Paired.cons _ _ _ k it ks its ⟨T, h1, h2, h3, h4, h5⟩ r, ap => by
    obtain ⟨ap1, ap2⟩ := List.pairwise_cons.mp ap
    obtain ⟨Ts, g1, g2, g3, g4, g5⟩ := its_spots r ap2
    have dis : ∀ n ∈ ST.ndss Ts, ∀ n' ∈ T.nds, n.a ≠ n'.a ∧ n.l ≠ n'.l := fun n hn n' hn' => by
      obtain ⟨T2, hT2, hn2⟩ := ST.ndss_of hn
      have := ap1 (V.ref T2.a, HA.spot C T2) (by rw [g1]; exact List.mem_map.mpr ⟨T2, hT2, rfl⟩)
      rw [h5] at this
      exact ⟨fun e => this n.a ⟨n, hn2, .inl rfl⟩ ⟨n', hn', .inl e⟩, fun e => this n.l ⟨n, hn2, .inr rfl⟩ ⟨n', hn', .inr e⟩⟩
    refine ⟨T :: Ts, ?_, by rw [ST.docs, h1, g2], by rw [ST.Fits]; exact ⟨h2, g3⟩, ?_, ?_⟩
    · rw [List.map_cons, ← g1, ← h4, ← h5]
    · rw [ST.ndss, List.map_append, List.nodup_append]
      refine ⟨h3.1, g4, fun x hx y hy e => ?_⟩
      obtain ⟨n', hn', rfl⟩ := List.mem_map.mp hx
      obtain ⟨n, hn, rfl⟩ := List.mem_map.mp hy
      exact (dis n hn n' hn').1 e.symm
    · rw [ST.ndss, List.map_append, List.nodup_append]
      refine ⟨h3.2, g5, fun x hx y hy e => ?_⟩
      obtain ⟨n', hn', rfl⟩ := List.mem_map.mp hx
      obtain ⟨n, hn, rfl⟩ := List.mem_map.mp hy
      exact (dis n hn n' hn').2 e.symm
section
variable {P : Program} {w : World} {K : PySem.W.Frag} {mg : Str → Option Value} {base : Heap} {f C : Addr} {fd : FuncData}
/-! ### spot_of -/
def postSpot (C : Addr) (b : M) (x : Doc) : RM := fun v k => ∃ T : ST, T.doc = x ∧ T.Fit b ∧ T.Nu ∧ v = V.ref T.a ∧ k = HA.spot C T
def preSpotOf (C : Addr) (h : Nat) (as : List A) (fp : Addr → Prop) (post : RM) : Prop := ∃ (b : M) (N : Nat) (x : Doc), b.Ok N ∧ x.ht ≤ h ∧ x.size ≤ 1000 ∧ as = [.d b.d, .d x.d] ∧ fp = (fun _ => False) ∧ post = postSpot C b x
theorem sc_spot_of : FnScope ["machine", "doc", "below", "child"] ["machine", "doc"] (defScope s_spot_of) := ⟨rfl, rfl, rfl, by decide +kernel, rfl, by decide +kernel, by decide +kernel⟩
theorem ok_spot_of (h : Nat) (F : FnP K "spot_of" "spot_of" s_spot_of f fd) (T : Txt mg) (cS : ClsS K C) (c_Spot : Mkc P w K mg base "Spot" C 1 ["self", "name", "state", "below"] (spM K (preSpot C))) (c_state_by : Cal P w K mg base "state_by" 2 ["machine", "name", "below"] (spD K (preSb C)))
    (c_spot_of : Cal P w K mg base "spot_of" (h + 2) ["machine", "doc"] (spM K (preSpotOf C h))) : FnOk P w K mg base CX0 (h + 3) f fd ["machine", "doc"] (spM K (preSpotOf C (h + 1))) := by
  refine fnM F sc_spot_of (n := 2) rfl (fun as fp post h => by obtain ⟨_, _, _, _, _, _, rfl, _⟩ := h; rfl) fun cdv A outer s0 H E hr => ⟨_,
    (pss_cons (ps_setLc (i := 2) (own := [("child", 3)]) (g := gName 3) (tt := tYes) rfl sc_spot_of.nd rfl rfl (sw_true rfl rfl rfl (by decide +kernel)) (pi_tupK K (pe_ix (ix_tupK K) (pv 1) pe_int (fun _ _ => rfl))) (blkOk_by (N := ["machine", "doc", "below", "child"]) (sc := defScope s_spot_of) (by decide +kernel)) (fun _ _ _ _ _ => pg_name (i := 3) sc_spot_of.nd rfl (Or.inl rfl)) (fun _ _ _ _ _ => pts_nil) (fun _ _ _ _ _ => (pe_cal c_spot_of hr (by rfl) (pa_cons (pv 0) (pa_cons (pv 3) pa_nil)))))
    (pss_one (ps_ret (pe_mkc c_Spot hr (by rfl) (pa_cons (pe_ix (ix_tupK K) (pv 1) pe_int (fun _ _ => rfl)) (pa_cons (pe_cal c_state_by hr (by rfl) (pa_cons (pv 0) (pa_cons (pe_ix (ix_tupK K) (pv 1) pe_int (fun _ _ => rfl)) (pa_cons (pv 2) pa_nil)))) (pa_cons (pv 2) pa_nil))))))), fun as fp post h kn => ?_⟩
  obtain ⟨b, N, ⟨n, ks⟩, hb, hh, hz, rfl, rfl, rfl⟩ := h
  rw [Doc.ht] at hh
  rw [Doc.size] at hz
  have hlk := Doc.len_le ks
  refine sdm_seq (sdm_setM (P := fun ss' v k => ss' = starts [.d b.d, .d (Doc.mk n ks).d] 2 ∧ ∃ (l : Addr) (its : List (V × HA)), v = .ref l ∧ k = HA.lstO l its ∧ Paired (fun kk it => postSpot C b kk it.1 it.2) ks its ∧ Apart its ∧ ∀ it ∈ its, ¬ it.2.fp l)
    (evm_lcC (e := Doc.d) (as := fun k => [.d b.d, .d k.d]) (post := postSpot C b) (ev_kids ev_v) (by omega) (fun k hk => ea_cons ev_v (ea_cons ev_v ea_nil)) (fun k hk => ?_) fun k v kk ⟨T, _, _, _, _, e⟩ H hφ a ha => ?_) fun ss' v k ⟨e1, l, its, e2, e3, hpr, hap, hnl⟩ hkf => ?_)
  · have m1 := Doc.ht_le hk
    have m2 := Doc.size_le hk
    exact ⟨b, N, k, hb, by omega, by omega, rfl, rfl, rfl⟩
  · subst e
    exact HA.spot_al hφ a ha
  subst e1 e2 e3
  obtain ⟨Ts, g1, g2, g3, g4, g5⟩ := its_spots hpr hap
  subst g1
  have hnl2 : ∀ nd ∈ ST.ndss Ts, nd.l ≠ l := fun nd hnd e => by
    obtain ⟨T2, hT2, hn2⟩ := ST.ndss_of hnd
    exact hnl _ (List.mem_map.mpr ⟨T2, hT2, rfl⟩) ⟨nd, hn2, .inr e.symm⟩
  have hfresh : ∀ a, (HA.spots C l Ts).fp a → H a = none := fun a ha => by
    have : (HA.lstO l (Ts.map fun T => (V.ref T.a, HA.spot C T))).fp a := by
      rcases ha with e | ⟨nd, hnd, e⟩
      · exact .inl e
      · obtain ⟨T2, hT2, hn2⟩ := ST.ndss_of hnd
        exact .inr ⟨_, List.mem_map.mpr ⟨T2, hT2, rfl⟩, nd, hn2, e⟩
    exact (hkf a this).elim (fun z => z.elim) id
  refine sdm_spec (i := 2) (Pk := fun k' => k' = HA.spots C l Ts) rfl (fun B ⟨h1, h2⟩ => ⟨_, rfl, by rw [h1, List.map_map] <;> rfl, fun nd hnd => ?_⟩) ?_
  · obtain ⟨T2, hT2, hn2⟩ := ST.ndss_of hnd
    exact h2 _ (List.mem_map.mpr ⟨T2, hT2, rfl⟩) nd hn2
  rintro _ rfl
  have hks : ∀ k ∈ Ts, k.st < N := fun k hk => by
    rw [ST.Fit.state ((ST.Fits_iff b Ts).mp g3 k hk)]
    exact hb.state_lt _
  have hTl : Ts.length ≤ 1000 := by
    have : (ST.docs Ts).length = Ts.length := by rw [ST.docs_map, List.length_map]
    rw [g2] at this
    omega
  refine sdm_retM (P := fun ss' v k => ss' = [.a (.d b.d), .a (.d (Doc.mk n ks).d), .a (.o (HA.spots C l Ts) (.ref l)), .no] ∧ ∃ x, v = .ref x ∧ k = HA.ins C [("name", .str n), ("state", .int (ST.calc b n Ts : Int)), ("below", .ref l)] x ∧ ∀ nd ∈ ST.ndss Ts, nd.a ≠ x)
    (evm_make (as := [.d (.str n), .d (nat (ST.calc b n Ts)), .o (HA.spots C l Ts) (.ref l)]) (ea_cons (ev_name ev_v) (ea_cons (ev_call (ea_cons ev_v (ea_cons (ev_name ev_v) (ea_cons ev_v ea_nil))) ⟨b, N, n, l, Ts, hb, hks, hTl, rfl, rfl⟩) (ea_cons ev_v ea_nil))) fun x ⟨B, knB, hB⟩ => ⟨_, ⟨x, l, n, ST.calc b n Ts, HA.spots C l Ts, rfl, rfl, rfl⟩, fun v k ⟨e0, e1⟩ => ⟨e0, rfl, x, rfl, e1, fun nd hnd e => ?_⟩⟩) fun ss' v k ⟨e1, x, e2, e3, hx⟩ => ⟨HA.spot C (.mk x l n (ST.calc b n Ts) Ts), ⟨.mk x l n (ST.calc b n Ts) Ts, ?_, ?_, ?_, e2, rfl⟩, fun B kn hk => ?_, fun hf a ha => ?_⟩
  · exact HA.spots_al (knB 2 _ _ rfl) x (.inr ⟨nd, hnd, .inl e.symm⟩) hB
  · rw [ST.doc, g2]
  · rw [ST.Fit]
    exact ⟨rfl, g3⟩
  · refine ⟨?_, ?_⟩
    · rw [ST.nds, List.map_cons, List.nodup_cons]
      exact ⟨fun h => by obtain ⟨nd, hnd, e⟩ := List.mem_map.mp h; exact hx nd hnd e, g4⟩
    · rw [ST.nds, List.map_cons, List.nodup_cons]
      exact ⟨fun h => by obtain ⟨nd, hnd, e⟩ := List.mem_map.mp h; exact hnl2 nd hnd e, g5⟩
  · subst e1 e3
    obtain ⟨h1, h2⟩ := kn 2 _ _ rfl
    obtain ⟨dx, hx⟩ := hk
    intro nd hnd
    rw [ST.nds] at hnd
    rcases List.mem_cons.mp hnd with rfl | hnd
    · exact ⟨dx, hx, by rw [h1, List.map_map] <;> rfl⟩
    · exact h2 nd hnd
  · subst e3
    obtain ⟨nd, hnd, e⟩ := ha
    rw [ST.nds] at hnd
    rcases List.mem_cons.mp hnd with rfl | hnd
    · rcases e with rfl | rfl
      · exact hf _ rfl
      · exact .inr (hfresh _ (.inl rfl))
    · exact .inr (hfresh a (.inr ⟨nd, hnd, e⟩))
end
end G
namespace G
open PySem L2
open Evl (Ex)
/-- the keeper's own things are none of the spots' -/
def Sp (T : ST) (g ll : Addr) : Prop := ∀ n ∈ T.nds, n.a ≠ g ∧ n.l ≠ ll
structure ClsK (K : PySem.W.Frag) (C : Addr) : Prop where
  c : Cls K C
  n1 : NoAttr K C "machine"
  n2 : NoAttr K C "top"
  n3 : NoAttr K C "last"
def fsK (vm : V) (T : ST) (ll : Addr) : List (Str × V) := [("machine", vm), ("top", .ref T.a), ("last", .ref ll)]
def HA.kept (CK C g ll : Addr) (b : M) (T : ST) (last : List (List Nat)) : HA := ⟨fun H => (∃ dx vm vs, H g = some (.ins CK dx (fsK vm T ll)) ∧ At H b.d vm ∧ H ll = some (.lst vs) ∧ AtL H (last.map plD) vs) ∧ (HA.spot C T).φ H, fun a => a = g ∨ a = ll ∨ (HA.spot C T).fp a,
  fun H H' ⟨⟨dx, vm, vs, h1, h2, h3, h4⟩, h5⟩ t e => ⟨⟨dx, vm, vs, e _ _ (.inl rfl) h1, At.mono t _ h2, e _ _ (.inr (.inl rfl)) h3, AtL.mono t _ h4⟩, (HA.spot C T).st H H' h5 t fun a o q => e a o (.inr (.inr q))⟩⟩
theorem HA.kept_al {CK C g ll : Addr} {b : M} {T : ST} {last : List (List Nat)} {H : Hp} (h : (HA.kept CK C g ll b T last).φ H) : ∀ a, (HA.kept CK C g ll b T last).fp a → H a ≠ none := fun a ha => by
  obtain ⟨⟨dx, vm, vs, h1, h2, h3, h4⟩, h5⟩ := h
  rcases ha with rfl | rfl | ha
  · rw [h1]; intro z; cases z
  · rw [h3]; intro z; cases z
  · exact HA.spot_al h5 a ha
abbrev KpS (CK C g ll : Addr) (b : M) (T : ST) (last : List (List Nat)) : Sl := .a (.o (HA.kept CK C g ll b T last) (.ref g))
/-- raw items -/
def HA.refs (l : Addr) (vs : List V) : HA := ⟨fun H => H l = some (.lst vs), fun a => a = l, fun H H' h t e => e _ _ rfl h⟩
def adr (T : ST) (p : List Nat) : Addr := ((ST.at p T).map ST.a).getD 0
def refsTo (T : ST) (q : List Nat) (n : Nat) : List V := (List.range (n + 1)).map fun i => V.ref (adr T (q.take i))
theorem adr_eq {T z : ST} {p : List Nat} (h : ST.at p T = some z) : adr T p = z.a := by unfold adr; rw [h]; rfl
theorem refsTo_get {T y : ST} {q : List Nat} {n i : Nat} (hi : i ≤ n) (h : ST.at (q.take i) T = some y) : (refsTo T q n)[i]? = some (V.ref y.a) := by
  unfold refsTo
  rw [List.getElem?_map, List.getElem?_range (by omega), ← adr_eq h]
  rfl
theorem refsTo_len (T : ST) (q : List Nat) (n : Nat) : (refsTo T q n).length = n + 1 := by
  unfold refsTo
  rw [List.length_map, List.length_range]
theorem refsTo_last {T y : ST} {q : List Nat} {n : Nat} (h : ST.at (q.take n) T = some y) : atI (refsTo T q n) (-1) = some (V.ref y.a) :=
  at_last1 (by rw [List.getLast?_eq_getElem?, refsTo_len]; exact refsTo_get (Nat.le_refl _) h)
section
variable {K : PySem.W.Frag} {CK C g ll : Addr} {b : M} {T : ST} {last : List (List Nat)} {ss : List Sl} {i : Nat}
theorem ev_kmachine (c : ClsK K CK) (h : ss[i]? = some (KpS CK C g ll b T last) := by rfl) : Ev K (tFld K (tVar i) "machine") ss (.d b.d) := ev_fld (ev_o h) c.c c.n1 fun B kn => by
  obtain ⟨⟨dx, vm, vs, h1, h2, h3, h4⟩, h5⟩ := kn i _ _ h
  exact ⟨dx, _, _, h1, rfl, h2⟩
theorem ev_ktop (c : ClsK K CK) (h : ss[i]? = some (KpS CK C g ll b T last) := by rfl) : Ev K (tFld K (tVar i) "top") ss (.o (HA.spot C T) (.ref T.a)) := ev_fld (ev_o h) c.c c.n2 fun B kn => by
  obtain ⟨⟨dx, vm, vs, h1, h2, h3, h4⟩, h5⟩ := kn i _ _ h
  exact ⟨dx, _, _, h1, rfl, rfl, h5⟩
theorem ev_ktopW (c : ClsK K CK) (h : ss[i]? = some (KpS CK C g ll b T last) := by rfl) : Ev K (tFld K (tVar i) "top") ss (.w (.ref T.a)) := ev_fld (ev_o h) c.c c.n2 fun B kn => by
  obtain ⟨⟨dx, vm, vs, h1, h2, h3, h4⟩, h5⟩ := kn i _ _ h
  exact ⟨dx, _, _, h1, rfl, rfl⟩
theorem ev_klast (c : ClsK K CK) (h : ss[i]? = some (KpS CK C g ll b T last) := by rfl) : Ev K (tFld K (tVar i) "last") ss (.l (last.map plD)) := ev_fld (ev_o h) c.c c.n3 fun B kn => by
  obtain ⟨⟨dx, vm, vs, h1, h2, h3, h4⟩, h5⟩ := kn i _ _ h
  exact ⟨dx, _, _, h1, rfl, ll, vs, rfl, h3, h4⟩
theorem kept_node {B : Hp} (h : (HA.kept CK C g ll b T last).φ B) {p : List Nat} {z : ST} (hz : ST.at p T = some z) : NdAt C B z.nd := h.2 _ (ST.at_mem hz)
/-- [e], e a raw value -/
theorem evm_lst1 {te : TE} {v : V} {F0 : Hp} {fp : Addr → Prop} {Pq : List Sl → V → HA → Prop} (h : Ev K te ss (.w v)) (c : ∀ l, F0 l = none → (∃ B, Kn B ss ∧ B l = none) → Pq ss (.ref l) (HA.refs l [v])) : EvM K fp F0 (tLst (tCons te tNil)) ss Pq := fun F H σ Q fr ok q =>
  h F F H σ _ ok fun u H1 e1 r1 => by
    cases r1
    refine ⟨Evl.sz_of (by show 1 ≤ 100000; decide), fun p hp => ?_⟩
    have okA := ok.mono e1
    have eN : Ex H1 (upd H1 p (.lst [v])) := Evl.Ex.new hp
    have hF : F p = none := Evl.fresh_back okA.ex hp
    have exF : Ex F (upd F p (.lst [v])) := Evl.Ex.new hF
    have ex2 : Ex (upd F p (.lst [v])) (upd H1 p (.lst [v])) := fun b o z => by
      by_cases hb : b = p
      · subst hb; rw [upd_same] at z ⊢; exact z
      · rw [upd_ne hb] at z ⊢; exact okA.ex _ _ z
    refine q ss (.ref p) (HA.refs p [v]) (upd F p (.lst [v])) _ (c p (fr.d _ hF) ⟨F, ok.kn, hF⟩) upd_same (fun a ha => .inr (by rw [show a = p from ha]; exact fr.d _ hF)) (fr.trans' (.of_ex exF)) ?_ ((TEx.of e1).trans (.of eN)) fun b ys z1 z2 => ⟨eN _ _ (e1 _ _ z2), by rw [upd_ne (by rintro rfl; rw [e1 _ _ z2] at hp; cases hp)]; exact z1⟩
    refine ⟨Ex.refl _, ex2, ok.len, fun i s hi => ?_, ok.sep⟩
    obtain ⟨o', ho', qs⟩ := (okA.mono eN).at_ i s hi
    refine ⟨o', ho', ?_⟩
    cases s with
    | no => trivial
    | a x =>
      cases x with
      | d x => exact qs
      | l xs => exact qs
      | r xs => obtain ⟨a, vs, r, h1, h2⟩ := qs; exact ⟨a, vs, r, Evl.ex_l exF h1, h2⟩
      | w u => exact qs
      | o kk u => exact ⟨qs.1, kk.ex exF qs.2⟩
    | own xs =>
      obtain ⟨_, ho1, a1, vs1, r1, g2, g3, _⟩ := okA.at_ i _ hi
      obtain ⟨a, vs, r, h2, h3, h4⟩ := qs
      subst r r1
      rw [ho'] at ho1
      cases ho1
      refine ⟨_, vs, rfl, ?_, h3, h4⟩
      rw [upd_ne (by rintro rfl; rw [g3] at hp; cases hp)]
      exact g2
/-- return an object that a slot knows -/
theorem sdm_retOb {k k2 : HA} {u : V} {F0 : Hp} {fp : Addr → Prop} {N Bk Ct : SN} {Rm : RM} (h : ss[i]? = some (.a (.o k u))) (hk : ∀ B, Kn B ss → k2.φ B) (hf : ∀ a, k2.fp a → fp a ∨ F0 a = none) (n : Rm u k2) : SdM K fp F0 (tRet (tVar i)) ss N Rm Bk Ct := fun F H σ D f ok e => by
  obtain ⟨v, ho, ha⟩ := ok.get h rfl
  obtain rfl := ha.1
  exact ⟨_, ho, e.rt _ _ F H n (hk F ok.kn) hf f ok.ex⟩
end
section
variable {P : Program} {w : World} {K : PySem.W.Frag} {mg : Str → Option Value} {base : Heap} {f CK C : Addr} {fd : FuncData}
/-! ### Kept.__init__ -/
def preKi (CK C : Addr) (as : List A) (fp : Addr → Prop) (post : RM) : Prop := ∃ (g : Addr) (b : M) (N : Nat) (x : Doc), b.Ok N ∧ x.ht ≤ 30 ∧ x.size ≤ 500 ∧ as = [.o (HA.ins CK [] g) (.ref g), .d b.d, .d x.d] ∧ fp = (fun a => a = g) ∧ post = fun v k => v = .non ∧ ∃ ll T, T.doc = x ∧ T.Fit b ∧ T.Nu ∧ Sp T g ll ∧ k = HA.kept CK C g ll b T []
theorem sc_Kept_init : FnScope ["self", "machine", "doc"] ["self", "machine", "doc"] (defScope s_Kept_init) := ⟨rfl, rfl, rfl, by decide +kernel, rfl, by decide +kernel, by decide +kernel⟩
theorem ok_Kept_init (F : FnP K "__init__" "Kept.__init__" s_Kept_init f fd) (T : Txt mg) (cK : ClsK K CK) (c_spot_of : Cal P w K mg base "spot_of" 32 ["machine", "doc"] (spM K (preSpotOf C 30))) : FnOk P w K mg base CX0 33 f fd ["self", "machine", "doc"] (spM K (preKi CK C)) := by
  refine fnM F sc_Kept_init (n := 0) rfl (fun as fp post h => by obtain ⟨_, _, _, _, _, _, _, rfl, _⟩ := h; rfl) fun cdv A outer s0 H E hr => ⟨_,
    (pss_cons (ps_fldK K (pv 0) (pv 1) rfl)
    (pss_cons (ps_fldK K (pv 0) (pe_cal c_spot_of hr (by rfl) (pa_cons (pv 1) (pa_cons (pv 2) pa_nil))) rfl)
    (pss_one (ps_fldK K (pv 0) (pe_lst pa_nil) rfl)))), fun as fp post h kn => ?_⟩
  obtain ⟨g, b, N, x, hb, hh, hz, rfl, rfl, rfl⟩ := h
  refine sdm_seq (sdm_fld (x := .d b.d) (a := g) (C := CK) ev_v (.inl ⟨_, rfl⟩) ev_o cK.c cK.n1 (fun B kn => by obtain ⟨dx, h⟩ := kn 0 _ _ rfl; exact ⟨dx, _, h, by show 0 < 1000; decide⟩) (.inl rfl) fun F dx fs vm kn hF hy => ⟨[InS CK [("machine", vm)] g (HA.val b.d vm), .a (.d b.d), .a (.d x.d)], ?_, ?_⟩)
  · obtain ⟨dx', h1⟩ := kn 0 _ _ rfl
    rw [h1] at hF
    cases hF
    exact .cons (.o ⟨⟨dx, upd_same⟩, HA.upd (k := HA.val b.d vm) hy h1 val_ne⟩) (.cons (.d _) (.cons (.d _) .nil))
  refine sdm_seq (sdm_fldM (a := g) (C := CK) (P := fun ss' v k => ∃ T : ST, T.doc = x ∧ T.Fit b ∧ T.Nu ∧ v = .ref T.a ∧ k = HA.spot C T ∧ ¬ (HA.spot C T).fp g ∧ ss' = [InS CK [("machine", vm)] g (HA.val b.d vm), .a (.d b.d), .a (.d x.d)]) (evm_call (ea_cons ev_v (ea_cons ev_v ea_nil)) ⟨fun _ => False, _, ⟨b, N, x, hb, hh, by omega, rfl, rfl, rfl⟩, fun a z => z.elim, fun B kn a z => z.elim, fun v k ⟨T, h1, h2, h3, h4, h5⟩ F F' kn fr hk hkf hd => ?_⟩) (fun ss' v k ⟨T, _, _, _, _, _, _, e⟩ => by subst e; exact ev_o) cK.c cK.n2 (.inl rfl) fun ss' v k ⟨T, h1, h2, h3, h4, h5, h6, h7⟩ hkf F kn hk => ?_)
  · obtain ⟨⟨dx, hg⟩, hv⟩ := kn 0 _ _ rfl
    refine ⟨[InS CK [("machine", vm)] g (HA.val b.d vm), .a (.d b.d), .a (.d x.d)], .cons (.o ⟨⟨dx, fr.k _ _ (fun z => z) hg⟩, At.mono fr.t _ hv⟩) (.cons (.d _) (.cons (.d _) .nil)), T, h1, h2, h3, h4, h5, fun z => ?_, rfl⟩
    subst h5
    rcases hkf g z with e | e
    · exact e
    · rw [hg] at e; cases e
  subst h4 h5 h7
  obtain ⟨⟨dx, hg⟩, hv⟩ := kn 0 _ _ rfl
  refine ⟨dx, _, hg, by show 1 < 1000; decide, [InS CK [("machine", vm), ("top", .ref T.a)] g ((HA.val b.d vm).and (HA.spot C T)), .a (.d b.d), .a (.d x.d)], .cons (.o ⟨⟨dx, upd_same⟩, HA.upd (k := HA.val b.d vm) hv hg val_ne, HA.upd hk hg h6⟩) (.cons (.d _) (.cons (.d _) .nil)), ?_⟩
  refine sdm_fldN (a := g) (C := CK) (Pl := (· = [])) (EvN.ne (evn_lst eds_nil (by decide))) ev_o cK.c cK.n3 (fun B kn => by obtain ⟨⟨dx, h⟩, _⟩ := kn 0 _ _ rfl; exact ⟨dx, _, h, by show 2 < 1000; decide⟩) (.inl rfl) fun F dx fs ll vs xs e kn hF hl hvs hl0 hfr => ?_
  subst e
  obtain ⟨⟨dx', h1'⟩, h2', h3'⟩ := kn 0 _ _ rfl
  rw [h1'] at hF
  cases hF
  have hls : (HA.lst [] (.ref ll)).φ F := ⟨ll, vs, rfl, hl, hvs⟩
  have hls2 := HA.upd (o' := .ins CK dx [("machine", vm), ("top", .ref T.a), ("last", .ref ll)]) hls h1' (lst_ne hls h1' (by intro vs z; cases z))
  have hsp : Sp T g ll := fun n hn => ⟨fun e => h6 ⟨n, hn, .inl e.symm⟩, fun e => by
    obtain ⟨B, knB, hB⟩ := hfr
    exact HA.spot_al (knB 0 _ _ rfl).2.2 ll ⟨n, hn, .inr e.symm⟩ hB⟩
  obtain ⟨l', vs', e1, q1, q2⟩ := hls2
  cases e1
  refine ⟨[KpS CK C g ll b T [], .a (.d b.d), .a (.d x.d)], .cons (.o ⟨⟨dx, vm, vs', upd_same, HA.upd (k := HA.val b.d vm) h2' h1' val_ne, q1, q2⟩, HA.upd h3' h1' h6⟩) (.cons (.d _) (.cons (.d _) .nil)), _, ⟨rfl, ll, T, h1, h2, h3, hsp, rfl⟩, fun B kn => kn 0 _ _ rfl, fun a ha => ?_⟩
  rcases ha with e | e | e
  · exact .inl e
  · exact .inr (by rw [show a = ll from e]; exact hl0)
  · rcases hkf a e with q | q
    · rw [show a = g from q] at e; exact absurd e h6
    · exact .inr q
/-! ### now, looked -/
def preNow (CK C : Addr) (as : List A) (r : R) : Prop := ∃ (g ll : Addr) (b : M) (T : ST) (last : List (List Nat)), T.doc.ht ≤ 30 ∧ T.doc.size ≤ 500 ∧ as = [.o (HA.kept CK C g ll b T last) (.ref g)] ∧ r = .d T.doc.d
theorem sc_Kept_now : FnScope ["self"] ["self"] (defScope s_Kept_now) := ⟨rfl, rfl, rfl, by decide +kernel, rfl, by decide +kernel, by decide +kernel⟩
theorem ok_now (F : FnP K "now" "Kept.now" s_Kept_now f fd) (T : Txt mg) (cK : ClsK K CK) (c_doc_of : Cal P w K mg base "doc_of" 30 ["spot"] (spD K (preDocOf C 30))) : FnOk P w K mg base CX0 31 f fd ["self"] (spD K (preNow CK C)) := by
  refine fnD F sc_Kept_now (n := 0) rfl (fun as r h => by obtain ⟨_, _, _, _, _, _, _, rfl, _⟩ := h; rfl) fun cdv A outer s H E hr => ⟨_,
    (pss_one (ps_ret (pe_cal c_doc_of hr (by rfl) (pa_cons (pe_fldK K (pv 0)) pa_nil)))), fun as r h => ?_⟩
  obtain ⟨g, ll, b, T, last, hh, hz, rfl, rfl⟩ := h
  exact sd_ret (ev_call (ea_cons (ev_ktop cK) ea_nil) ⟨T, hh, by omega, rfl, rfl⟩) rfl
def preLkd (CK C : Addr) (as : List A) (r : R) : Prop := ∃ (g ll : Addr) (b : M) (T : ST) (last : List (List Nat)), as = [.o (HA.kept CK C g ll b T last) (.ref g)] ∧ r = .l (last.map plD)
theorem sc_Kept_looked : FnScope ["self"] ["self"] (defScope s_Kept_looked) := ⟨rfl, rfl, rfl, by decide +kernel, rfl, by decide +kernel, by decide +kernel⟩
theorem ok_looked (F : FnP K "looked" "Kept.looked" s_Kept_looked f fd) (T : Txt mg) (cK : ClsK K CK) : FnOk P w K mg base CX0 1 f fd ["self"] (spD K (preLkd CK C)) := by
  refine fnD F sc_Kept_looked (n := 0) rfl (fun as r h => by obtain ⟨_, _, _, _, _, rfl, _⟩ := h; rfl) fun cdv A outer s H E hr => ⟨_,
    (pss_one (ps_ret (pe_callTy (call_listK K) (by rfl) T.list (by decide +kernel) (pa_cons (pe_fldK K (pv 0)) pa_nil)))), fun as r h => ?_⟩
  obtain ⟨g, ll, b, T, last, rfl, rfl⟩ := h
  exact sd_retN (evn_cb (ea_cons (ev_klast cK) ea_nil) rcl_listL) rfl
/-! ### spots -/
def preSpots (CK C : Addr) (as : List A) (fp : Addr → Prop) (post : RM) : Prop := ∃ (g ll : Addr) (b : M) (T X : ST) (last : List (List Nat)) (q : List Nat) (z : D), ST.at q T = some X ∧ q.length ≤ 1000 ∧ as = [.o (HA.kept CK C g ll b T last) (.ref g), .d (plD q), .d z] ∧ fp = (fun _ => False) ∧ post = fun v k => ∃ l, v = .ref l ∧ k = HA.refs l (refsTo T q q.length)
theorem refsTo_succ (T : ST) (q : List Nat) (n : Nat) : refsTo T q (n + 1) = refsTo T q n ++ [V.ref (adr T (q.take (n + 1)))] := by
  unfold refsTo
  rw [List.range_succ (n := n + 1), List.map_append]
  rfl
theorem sc_Kept_spots : FnScope ["self", "place", "asked", "found", "k"] ["self", "place", "asked"] (defScope s_Kept_spots) := ⟨rfl, rfl, rfl, by decide +kernel, rfl, by decide +kernel, by decide +kernel⟩
theorem ok_spots (F : FnP K "spots" "Kept.spots" s_Kept_spots f fd) (T : Txt mg) (cK : ClsK K CK) (cS : ClsS K C) : FnOk P w K mg base CX0 1 f fd ["self", "place", "asked"] (spM K (preSpots CK C)) := by
  refine fnM F sc_Kept_spots (n := 2) rfl (fun as fp post h => by obtain ⟨_, _, _, _, _, _, _, _, _, _, rfl, _⟩ := h; rfl) fun cdv A outer s0 H E hr => ⟨_,
    (pss_cons (ps_set (i := 3) sc_Kept_spots.nd rfl (Or.inl rfl) (pe_lst (pa_cons (pe_fldK K (pv 0)) pa_nil)))
    (pss_cons (ps_for PassesOwn.never rfl (pi_tupK K (pv 1)) (pg_name (i := 4) sc_Kept_spots.nd rfl (Or.inl rfl))
    (pss_cons (ps_if (PW.pt (pw_or (pt_cmpR op_lt (pv 4) pe_int (nomark _)) (pw_or1 (pt_cmpR op_ge (pv 4) (pe_callB (call_lenK K) (by rfl) T.len PySem.boot_len (pa_cons (pe_fldK K (pe_ix (ix_listK K) (pv 3) (pe_un un_neg pe_int) (fun _ _ => rfl))) pa_nil)) (nomark _)))))
    (pss_one ps_never)
    pss_nil)
    (pss_one (ps_expr (pe_app K (pv 3) (pe_ix (ix_listK K) (pe_fldK K (pe_ix (ix_listK K) (pv 3) (pe_un un_neg pe_int) (fun _ _ => rfl))) (pv 4) (fun _ _ => rfl)))))))
    (pss_one (ps_ret (pv 3))))), fun as fp post h kn => ?_⟩
  obtain ⟨g, ll, b, T, X, last, q, z, hX, hq, rfl, rfl, rfl⟩ := h
  refine sdm_seq (sdm_setM (P := fun ss' v k => ∃ l, H l = none ∧ ¬ (HA.kept CK C g ll b T last).fp l ∧ v = .ref l ∧ k = HA.refs l (refsTo T q 0) ∧ ss' = starts [.o (HA.kept CK C g ll b T last) (.ref g), .d (plD q), .d z] 2) (evm_lst1 (v := .ref T.a) (ev_ktopW cK) fun l hl ⟨B, knB, hB⟩ => ⟨l, hl, fun hf => HA.kept_al (knB 0 _ _ rfl) l hf hB, rfl, ?_, rfl⟩) fun ss' v k ⟨l, hl, hno, e1, e2, e3⟩ hkf => ?_)
  · unfold refsTo adr
    rw [List.range_one, List.map_cons, List.take_zero, ST.at]
    rfl
  subst e1 e2 e3
  have hnode : ∀ i, ∃ y, ST.at (q.take i) T = some y := fun i => ST.at_take hX i
  refine sdm_seq (sdm_forT (fp1 := fun a => a = l) (ks := q) (e := nat) (fun i ss => ∃ z4, ss = [KpS CK C g ll b T last, .a (.d (plD q)), .a (.d z), .a (.o (HA.refs l (refsTo T q i)) (.ref l)), z4]) (fun a e => .inr (by rw [show a = l from e]; exact hl)) ev_v ⟨.no, rfl⟩ ?_ ?_)
  · rintro F1 hF1 i c ss' hc ⟨z4, rfl⟩
    obtain ⟨y, hy⟩ := hnode i
    have hil : i < q.length := (List.getElem?_eq_some_iff.mp hc).1
    have hy2 : ST.at (q.take (i + 1)) T = (y.kids[c]?) := by
      rw [take_map_succ hc, ST.at_app, hy]
      cases y
      show ST.at [c] _ = _
      rw [ST.at]
      show ((_ : Option ST)).bind (ST.at []) = _
      cases h : (ST.kids _)[c]? with
      | none => exact congrArg (Option.bind · _) h
      | some k => refine (congrArg (Option.bind · _) h).trans ?_; show ST.at [] k = _; rw [ST.at]
    obtain ⟨y', hy'⟩ := hnode (i + 1)
    rw [hy2] at hy'
    have hcl : c < y.kids.length := (List.getElem?_eq_some_iff.mp hy').1
    have ref1 : ∀ {ss : List Sl}, ss[3]? = some (.a (.o (HA.refs l (refsTo T q i)) (.ref l))) → ss[0]? = some (KpS CK C g ll b T last) → Ev K (tOp (rIxL K) (tVar 3) (tUn (rU fun i => .int (-i)) (tC (.int 1)))) ss (.w (.ref y.nd.a)) := fun h3 h0 => ev_ixO (ev_o h3) ev_m1 fun B kn => ⟨_, _, kn 3 _ _ h3, by
      exact refsTo_last hy, by cases y; rfl⟩
    have bel : ∀ {ss : List Sl}, ss[3]? = some (.a (.o (HA.refs l (refsTo T q i)) (.ref l))) → ss[0]? = some (KpS CK C g ll b T last) → Ev K (tFld K (tOp (rIxL K) (tVar 3) (tUn (rU fun i => .int (-i)) (tC (.int 1)))) "below") ss (.w (.ref y.nd.l)) := fun h3 h0 => ev_sbelow cS (ref1 h3 h0) fun B kn => kept_node (kn 0 _ _ h0) hy
    have hlst : ∀ {ss : List Sl}, ss[0]? = some (KpS CK C g ll b T last) → ∀ B, Kn B ss → B y.nd.l = some (.lst (y.kids.map fun k => V.ref k.a)) := fun h0 B kn => by
      obtain ⟨dx, _, h2⟩ := kept_node (kn 0 _ _ h0) hy
      rw [h2]
      cases y
      simp [ST.nd, ST.kids]
    refine sdm_seq (sdm_if (b := false) (EvT.to (et_or (et_test (ev_op (x := .d (nat c)) ev_v ev_int rop_ib)) fun _ => et_test (ev_op (x := .d (nat c)) ev_v (ev_lenO (n := y.kids.length) (bel rfl rfl) fun B kn => ⟨_, hlst rfl B kn, by rw [List.length_map]⟩) rop_ib)) ?_) (fun h => nomatch h) fun _ => sdm_next ?_)
    · rw [Bool.or_eq_false_iff, decide_eq_false_iff_not, decide_eq_false_iff_not]
      omega
    · refine sdm_appO (l := l) (x := .w (.ref y'.a)) ev_o (ev_ixO (bel rfl rfl) ev_v fun B kn => ⟨_, _, hlst rfl B kn, atI_nat (by rw [List.getElem?_map, hy']; rfl), rfl⟩) (.inr ⟨_, rfl⟩) (fun B kn => ⟨_, kn 3 _ _ rfl, ?_⟩) (.inl rfl) fun F vs u kn hF hu => ⟨[KpS CK C g ll b T last, .a (.d (plD q)), .a (.d z), .a (.o (HA.refs l (refsTo T q (i + 1))) (.ref l)), .a (.d (nat c))], ?_, _, rfl⟩
      · unfold refsTo
        rw [List.length_map, List.length_range]
        omega
      · have h3 := kn 3 _ _ rfl
        have h3 : F l = some (.lst (refsTo T q i)) := h3
        rw [h3] at hF
        cases hF
        cases hu
        refine .cons (.o ((HA.kept CK C g ll b T last).st F _ (kn 0 _ _ rfl) (TEx.upd fun u e => by rw [h3] at e; cases e; rfl) fun a o ha e => by rw [upd_ne (by rintro rfl; exact hno ha)]; exact e)) (.cons (.d _) (.cons (.d _) (.cons (.o ?_) (.cons (.d _) .nil))))
        show upd F l _ l = _
        rw [upd_same, refsTo_succ]
        rw [hy2.symm] at hy'
        rw [adr_eq hy']
  · rintro ss' ⟨z4, rfl⟩
    exact sdm_retOb (i := 3) rfl (fun B kn => kn 3 _ _ rfl) (fun a e => .inr (by rw [show a = l from e]; exact hl)) ⟨l, rfl, rfl⟩
end
end G
/-! Changes along a path. -/
namespace G
open PySem L2
theorem Doc.put_app (z : Doc) : ∀ {p r : List Nat} {x y : Doc}, Doc.at p x = some y → Doc.put z (p ++ r) x = Doc.put (Doc.put z r y) p x ∧ Doc.at p (Doc.put z (p ++ r) x) = some (Doc.put z r y)
  | [], r, x, y, h => by rw [Doc.at] at h; cases h; rw [List.nil_append, Doc.put, Doc.at]; exact ⟨rfl, rfl⟩
  | i :: p, r, .mk n ks, y, h => by
    rw [Doc.at] at h
    cases hk : ks[i]? with
    | none => rw [hk] at h; cases h
    | some k =>
      rw [hk] at h
      obtain ⟨h1, h2⟩ := Doc.put_app z (r := r) h
      have hi := (List.getElem?_eq_some_iff.mp hk).1
      rw [List.cons_append, Doc.put, hk, Doc.put, hk, Doc.at]
      refine ⟨by simp only [h1], ?_⟩
      have : (ks.take i ++ [Doc.put z (p ++ r) k] ++ ks.drop (i + 1))[i]? = some (Doc.put z (p ++ r) k) := by
        rw [List.append_assoc, List.getElem?_append_right (by rw [List.length_take]; omega), List.length_take, Nat.min_eq_left (by omega), Nat.sub_self]
        rfl
      show ((ks.take i ++ [Doc.put z (p ++ r) k] ++ ks.drop (i + 1))[i]?).bind (Doc.at p) = _
      rw [this]
      exact h2
theorem Doc.put_self : ∀ {p : List Nat} {x y : Doc}, Doc.at p x = some y → Doc.put y p x = x
  | [], x, y, h => by rw [Doc.at] at h; cases h; rw [Doc.put]
  | i :: p, .mk n ks, y, h => by
    rw [Doc.at] at h
    cases hk : ks[i]? with
    | none => rw [hk] at h; cases h
    | some k =>
      rw [hk] at h
      rw [Doc.put, hk]
      show Doc.mk n (ks.take i ++ [Doc.put y p k] ++ ks.drop (i + 1)) = _
      rw [Doc.put_self h, ← ks_split hk]
/-- two documents alike but below a place: what is alike there is alike above -/
theorem alike_up {b : M} {x z : Doc} {q : List Nat} {n k : Nat} (hq : ∃ y, Doc.at q x = some y) (hn : n ≤ k) (hk : k ≤ q.length) (h : b.state (x.sub (q.take k)) = b.state ((Doc.put z q x).sub (q.take k))) : b.state (x.sub (q.take n)) = b.state ((Doc.put z q x).sub (q.take n)) := by
  obtain ⟨y, hy⟩ := hq
  obtain ⟨yn, hyn⟩ := Doc.at_take hy n
  obtain ⟨yk, hyk⟩ := Doc.at_take hy k
  have e1 : q.take k = q.take n ++ (q.take k).drop n := by
    conv => lhs; rw [← List.take_append_drop n (q.take k)]
    rw [List.take_take, Nat.min_eq_left hn]
  have p1 := (Doc.put_app z (r := q.drop n) hyn).2
  have p2 := (Doc.put_app z (r := q.drop k) hyk).2
  rw [List.take_append_drop] at p1 p2
  rw [Doc.sub_eq hyn, Doc.sub_eq p1]
  rw [Doc.sub_eq hyk, Doc.sub_eq p2] at h
  have hr : Doc.at ((q.take k).drop n) yn = some yk := by
    have := hyk
    rw [e1, Doc.at_app, hyn] at this
    exact this
  have e2 : q.drop n = (q.take k).drop n ++ q.drop k := by
    have : q = q.take k ++ q.drop k := (List.take_append_drop k q).symm
    conv => lhs; rw [this]
    rw [List.drop_append_of_le_length (by rw [List.length_take]; omega)]
  rw [e2, (Doc.put_app z (r := q.drop k) hr).1]
  exact (state_up hr h).symm
/-- above a change the spots are what they were -/
theorem ST.put_lt (y : ST) : ∀ {p : List Nat} {T z : ST} {n : Nat}, n < p.length → (∃ w, ST.at p T = some w) → ST.at (p.take n) (ST.put y p T) = some z → ∃ z', ST.at (p.take n) T = some z' ∧ z.st = z'.st ∧ z.a = z'.a
  | i :: p, .mk a l nm s ks, z, 0, h, _, e => by
    rw [List.take_zero, ST.put, ST.at] at e
    cases e
    exact ⟨.mk a l nm s ks, by rw [List.take_zero, ST.at], rfl, rfl⟩
  | i :: p, .mk a l nm s ks, z, n + 1, h, ⟨w, hw⟩, e => by
    rw [ST.at] at hw
    cases hk : ks[i]? with
    | none => rw [hk] at hw; cases hw
    | some k =>
      rw [hk] at hw
      have hi := (List.getElem?_eq_some_iff.mp hk).1
      rw [List.take_succ_cons, ST.put, hk, ST.at] at e
      have : (ks.take i ++ [ST.put y p k] ++ ks.drop (i + 1))[i]? = some (ST.put y p k) := by
        rw [List.append_assoc, List.getElem?_append_right (by rw [List.length_take]; omega), List.length_take, Nat.min_eq_left (by omega), Nat.sub_self]
        rfl
      have e : ((ks.take i ++ [ST.put y p k] ++ ks.drop (i + 1))[i]?).bind (ST.at (p.take n)) = some z := e
      rw [this] at e
      obtain ⟨z', h1, h2⟩ := ST.put_lt y (by rw [List.length_cons] at h; omega) ⟨w, hw⟩ e
      exact ⟨z', by rw [List.take_succ_cons, ST.at, hk]; exact h1, h2⟩
def ST.with (y : ST) (n : Str) (s : Nat) : ST := .mk y.a y.l n s y.kids
theorem ST.with_nds (y : ST) (n : Str) (s : Nat) : (y.with n s).nds = ⟨y.a, y.l, n, s, y.kids.map ST.a⟩ :: ST.ndss y.kids := by unfold ST.with; rw [ST.nds]
/-- a spot's own attributes are changed -/
theorem spot_with {C : Addr} {T y : ST} {p : List Nat} {F : Hp} {dx : Addr} {n : Str} {s : Nat} (h : (HA.spot C T).φ F) (hn : T.Nu) (hy : ST.at p T = some y) : (HA.spot C (ST.put (y.with n s) p T)).φ (upd F y.a (.ins C dx [("name", .str n), ("state", .int (s : Int)), ("below", .ref y.l)])) := by
  obtain ⟨u, v, h1, h2⟩ := ST.around p T y hy
  have h3 := h2 (y.with n s) rfl
  have hnu := hn.1
  rw [h1, ST.nds_eq y] at hnu
  obtain ⟨dy, hya, hyl⟩ := h y.nd (ST.at_mem hy)
  have ea : y.nd.a = y.a := by cases y; rfl
  have el : y.nd.l = y.l := by cases y; rfl
  have ek : y.nd.ks = y.kids.map ST.a := by cases y; rfl
  have oth : ∀ nd ∈ T.nds, nd.a ≠ y.a → NdAt C (upd F y.a (.ins C dx [("name", .str n), ("state", .int (s : Int)), ("below", .ref y.l)])) nd := fun nd hnd hne => by
    obtain ⟨d, g1, g2⟩ := h nd hnd
    refine ⟨d, by rw [upd_ne hne]; exact g1, ?_⟩
    rw [upd_ne (ne_of g2 (ea ▸ hya) (by intro z; cases z))]
    exact g2
  intro nd hnd
  rw [h3, ST.with_nds] at hnd
  simp only [List.map_append, List.map_cons, List.nodup_append, List.nodup_cons, List.mem_append, List.mem_cons, List.mem_map] at hnu
  have key : nd ∈ u ∨ nd ∈ ST.ndss y.kids ∨ nd ∈ v → nd.a ≠ y.a := fun hc e => by
    rw [← ea] at e
    rcases hc with hc | hc | hc
    · exact hnu.1.2.2 nd.a ⟨nd, hc, rfl⟩ y.nd.a (.inl rfl) e
    · exact hnu.1.2.1.1 ⟨nd, hc, e⟩
    · exact hnu.2.2 y.nd.a (.inr (.inl rfl)) nd.a ⟨nd, hc, rfl⟩ e.symm
  rw [List.mem_append, List.mem_append, List.mem_cons] at hnd
  rcases hnd with (hnd | rfl | hnd) | hnd
  · exact oth nd (by rw [h1, List.mem_append, List.mem_append]; exact .inl (.inl hnd)) (key (.inl hnd))
  · refine ⟨dx, upd_same, ?_⟩
    show upd F y.a _ y.l = some (.lst ((y.kids.map ST.a).map V.ref))
    rw [upd_ne (ne_of (el ▸ hyl) (ea ▸ hya) (by intro z; cases z)), ← el, hyl, ek]
  · exact oth nd (by rw [h1, ST.nds_eq y, List.mem_append, List.mem_append]; exact .inl (.inr (List.mem_cons_of_mem _ hnd))) (key (.inr (.inl hnd)))
  · exact oth nd (by rw [h1, List.mem_append]; exact .inr hnd) (key (.inr (.inr hnd)))
theorem with_maps {T y : ST} {p : List Nat} {n : Str} {s : Nat} (hy : ST.at p T = some y) : (ST.put (y.with n s) p T).nds.map Nd.a = T.nds.map Nd.a ∧ (ST.put (y.with n s) p T).nds.map Nd.l = T.nds.map Nd.l := by
  obtain ⟨u, v, h1, h2⟩ := ST.around p T y hy
  rw [h2 (y.with n s) rfl, h1, ST.with_nds, ST.nds_eq y]
  cases y
  simp [ST.nd, ST.a, ST.l, ST.kids]
end G
namespace G
open PySem L2
open Evl (Ex)
section
variable {P : Program} {w : World} {K : PySem.W.Frag} {mg : Str → Option Value} {base : Heap} {f CK C : Addr} {fd : FuncData}
/-! ### forms_at -/
theorem ev_spotState {ss : List Sl} {g ll : Addr} {b : M} {T X : ST} {last : List (List Nat)} {q : List Nat} {t1 t2 : TE} {E : XK} (cS : ClsS K C) (h0 : ss[0]? = some (KpS CK C g ll b T last)) (h1 : Ev K t1 ss (.d (plD q))) (h2 : Ev K t2 ss (.d (plD q))) (hX : ST.at q T = some X) (hq : q.length ≤ 1000) :
    Ev K (tFld K (tOp (rIxL K) (tMeth CK "spots" (spM K (preSpots CK C)) [] E (tVar 0) (tCons t1 (tCons t2 tNil))) (tUn (rU fun i => .int (-i)) (tC (.int 1)))) "state") ss (.d (nat X.st)) := fun B F H σ Q ok k => by
    unfold tFld tOp tMeth
    refine ev_o h0 B F H σ _ ok fun v H1 e1 r => ?_
    cases r
    have hB := ok.kn 0 _ _ h0
    have eB := (ok.bf.trans ok.ex).trans e1
    obtain ⟨⟨dx, vm, vs, g1, g2, g3, g4⟩, g5⟩ := hB
    refine ⟨g, dx, _, rfl, eB _ _ g1, rfl, ?_⟩
    refine (ea_cons h1 (ea_cons h2 ea_nil)) B F H1 σ _ (ok.mono e1) fun as H2 e2 r2 => ?_
    refine ⟨[.o (HA.kept CK C g ll b T last) (.ref g), .d (plD q), .d (plD q)], _, _, ⟨.ref g, as ++ [], rfl, ⟨rfl, (HA.kept CK C g ll b T last).ex (eB.trans e2) (ok.kn 0 _ _ h0)⟩, by rw [List.append_nil]; exact r2⟩, ⟨g, ll, b, T, X, last, q, plD q, hX, hq, rfl, rfl, rfl⟩, fun u kk F1 H3 ⟨l, eu, ek⟩ hk hkf fr ex => ?_⟩
    subst eu ek
    have e3 : Ex H2 H3 := fun a o z => ex a o (fr.k a o (fun y => y) z)
    have hl : H3 l = some (.lst (refsTo T q q.length)) := ex _ _ hk
    refine ev_m1 B F H3 σ _ (((ok.mono e1).mono e2).mono e3) fun u H4 e4 r4 => ?_
    have hlast := refsTo_last (T := T) (q := q) (n := q.length) (y := X) (by rw [List.take_length]; exact hX)
    refine ⟨l, _, -1, .ref X.a, rfl, un_int r4, SqL.of (e4 _ _ hl), hlast, ?_⟩
    obtain ⟨dy, q1, q2⟩ := g5 _ (ST.at_mem hX)
    have eA := ((eB.trans e2).trans e3).trans e4
    have ea : X.nd.a = X.a := by cases X; rfl
    have es : X.nd.st = X.st := by cases X; rfl
    refine ⟨X.a, C, dy, _, .int (X.nd.st : Int), rfl, eA _ _ (ea ▸ q1), cS.c, cS.n2, rfl, k _ H4 (((e1.trans e2).trans e3).trans e4) ?_⟩
    rw [es]
    exact ad_int
def preFa (CK C : Addr) (as : List A) (r : R) : Prop := ∃ (g ll : Addr) (b : M) (N : Nat) (T X : ST) (last : List (List Nat)) (q : List Nat), b.Ok N ∧ T.Fit b ∧ ST.at q T = some X ∧ q.length ≤ 1000 ∧ as = [.o (HA.kept CK C g ll b T last) (.ref g), .d (plD q)] ∧ r = .l ((bitsOf (b.marks.getD (b.state X.doc) 0) b.forms).map .str)
theorem sc_Kept_forms_at : FnScope ["self", "place"] ["self", "place"] (defScope s_Kept_forms_at) := ⟨rfl, rfl, rfl, by decide +kernel, rfl, by decide +kernel, by decide +kernel⟩
theorem ok_forms_at (F : FnP K "forms_at" "Kept.forms_at" s_Kept_forms_at f fd) (T : Txt mg) (cK : ClsK K CK) (cS : ClsS K C) (m_spots : MCal P w K mg base CK "spots" 1 ["self", "place", "asked"] (spM K (preSpots CK C))) (c_forms_of : Cal P w K mg base "forms_of" 1 ["machine", "state"] (spD K preForms)) :
    FnOk P w K mg base CX0 2 f fd ["self", "place"] (spD K (preFa CK C)) := by
  refine fnD F sc_Kept_forms_at (n := 0) rfl (fun as r h => by obtain ⟨_, _, _, _, _, _, _, _, _, _, _, _, rfl, _⟩ := h; rfl) fun cdv A outer s H E hr => ⟨_,
    (pss_one (ps_ret (pe_cal c_forms_of hr (by rfl) (pa_cons (pe_fldK K (pv 0)) (pa_cons (pe_fldK K (pe_ix (ix_listK K) (pe_mcal cK.c m_spots hr (pv 0) (pa_cons (pv 1) (pa_cons (pv 1) pa_nil))) (pe_un un_neg pe_int) (fun _ _ => rfl))) pa_nil))))), fun as r h => ?_⟩
  obtain ⟨g, ll, b, N, T, X, last, q, hb, hf, hX, hq, rfl, rfl⟩ := h
  have hs := (hf.at hX).state
  exact sd_retN (evn_call (ea_cons (ev_kmachine cK) (ea_cons (ev_spotState cS rfl ev_v ev_v hX hq) ea_nil)) ⟨b, N, X.st, hb, by rw [hs]; exact hb.state_lt _, rfl, by rw [hs]⟩) rfl
/-! ### look -/
def Alike (b : M) (T : ST) (old : Doc) (q : List Nat) : Prop := (∃ y, Doc.at q old = some y) ∧ (∃ z, T.doc = Doc.put z q old) ∧ ∀ (n : Nat) y, n ≤ q.length → ST.at (q.take n) T = some y → y.st = b.state (old.sub (q.take n))
def SameA (T T' : ST) : Prop := T'.nds.map Nd.a = T.nds.map Nd.a ∧ T'.nds.map Nd.l = T.nds.map Nd.l
theorem SameA.fp {C : Addr} {T T' : ST} (h : SameA T T') (a : Addr) (ha : (HA.spot C T').fp a) : (HA.spot C T).fp a := by
  obtain ⟨n, hn, e⟩ := ha
  rcases e with e | e
  · have : n.a ∈ T'.nds.map Nd.a := List.mem_map.mpr ⟨n, hn, rfl⟩
    rw [h.1] at this
    obtain ⟨n', hn', e'⟩ := List.mem_map.mp this
    exact ⟨n', hn', .inl (e.trans e'.symm)⟩
  · have : n.l ∈ T'.nds.map Nd.l := List.mem_map.mpr ⟨n, hn, rfl⟩
    rw [h.2] at this
    obtain ⟨n', hn', e'⟩ := List.mem_map.mp this
    exact ⟨n', hn', .inr (e.trans e'.symm)⟩
theorem SameA.nu {T T' : ST} (h : SameA T T') (hn : T.Nu) : T'.Nu := ⟨by rw [h.1]; exact hn.1, by rw [h.2]; exact hn.2⟩
theorem SameA.sp {T T' : ST} {g ll : Addr} (h : SameA T T') (hs : Sp T g ll) : Sp T' g ll := fun n hn => by
  constructor
  · have : n.a ∈ T'.nds.map Nd.a := List.mem_map.mpr ⟨n, hn, rfl⟩
    rw [h.1] at this
    obtain ⟨n', hn', e'⟩ := List.mem_map.mp this
    rw [← e']
    exact (hs n' hn').1
  · have : n.l ∈ T'.nds.map Nd.l := List.mem_map.mpr ⟨n, hn, rfl⟩
    rw [h.2] at this
    obtain ⟨n', hn', e'⟩ := List.mem_map.mp this
    rw [← e']
    exact (hs n' hn').2
/-- a spot's attributes change: the keeper -/
theorem kept_with {g ll : Addr} {b : M} {T y : ST} {last : List (List Nat)} {p : List Nat} {F : Hp} {dx : Addr} {n : Str} {s : Nat} (h : (HA.kept CK C g ll b T last).φ F) (hn : T.Nu) (hs : Sp T g ll) (hy : ST.at p T = some y) (ha : T.a = (ST.put (y.with n s) p T).a) :
    (HA.kept CK C g ll b (ST.put (y.with n s) p T) last).φ (upd F y.a (.ins C dx [("name", .str n), ("state", .int (s : Int)), ("below", .ref y.l)])) := by
  obtain ⟨⟨dk, vm, vs, h1, h2, h3, h4⟩, h5⟩ := h
  have hya := h5 _ (ST.at_mem hy)
  obtain ⟨dy, q1, q2⟩ := hya
  have ea : y.nd.a = y.a := by cases y; rfl
  rw [ea] at q1
  have tx : TEx F (upd F y.a (.ins C dx [("name", .str n), ("state", .int (s : Int)), ("below", .ref y.l)])) := TEx.upd fun u e => by rw [q1] at e; cases e; rfl
  refine ⟨⟨dk, vm, vs, ?_, At.mono tx _ h2, ?_, AtL.mono tx _ h4⟩, spot_with h5 hn hy⟩
  · rw [upd_ne fun e => (hs _ (ST.at_mem hy)).1 (ea.trans e.symm)]
    unfold fsK at h1 ⊢
    rw [← ha]
    exact h1
  · rw [upd_ne (ne_of h3 q1 (by intro z; cases z))]
    exact h3
def preLook (CK C : Addr) (as : List A) (fp : Addr → Prop) (post : RM) : Prop := ∃ (g ll ls : Addr) (b : M) (N : Nat) (T X : ST) (last : List (List Nat)) (q : List Nat) (old : Doc), b.Ok N ∧ T.Nu ∧ Sp T g ll ∧ T.Off b q ∧ ST.at q T = some X ∧ q.length ≤ 1000 ∧ T.doc.size ≤ 900 ∧ Alike b T old q ∧ ¬ (HA.kept CK C g ll b T last).fp ls ∧
  as = [.o (HA.kept CK C g ll b T last) (.ref g), .o (HA.refs ls (refsTo T q q.length)) (.ref ls), .d (plD q)] ∧ fp = (HA.kept CK C g ll b T last).fp ∧ post = fun v k => ∃ T' : ST, T'.doc = T.doc ∧ T'.Fit b ∧ SameA T T' ∧ T'.a = T.a ∧ (∀ a, v = .ref a → ¬ (HA.kept CK C g ll b T' last).fp a) ∧ k = (HA.lst ((climb b old T.doc q q.length).map plD) v).and (HA.kept CK C g ll b T' last)
theorem sc_Kept_look : FnScope ["self", "spots", "place", "told", "k", "spot", "state"] ["self", "spots", "place"] (defScope s_Kept_look) := ⟨rfl, rfl, rfl, by decide +kernel, rfl, by decide +kernel, by decide +kernel⟩
theorem ok_look (F : FnP K "look" "Kept.look" s_Kept_look f fd) (T : Txt mg) (cK : ClsK K CK) (cS : ClsS K C) (c_state_by : Cal P w K mg base "state_by" 2 ["machine", "name", "below"] (spD K (preSb C))) : FnOk P w K mg base CX0 3 f fd ["self", "spots", "place"] (spM K (preLook CK C)) := by
  refine fnM F sc_Kept_look (n := 4) rfl (fun as fp post h => by obtain ⟨_, _, _, _, _, _, _, _, _, _, _, _, _, _, _, _, _, _, _, rfl, _⟩ := h; rfl) fun cdv A outer s0 H E hr => ⟨_,
    (pss_cons (ps_set (i := 3) sc_Kept_look.nd rfl (Or.inl rfl) (pe_lst pa_nil))
    (pss_cons (ps_for PassesOwn.never rfl (pi_revR (by rfl) T.reversed (prg_1 (by rfl) T.range (pe_callB (call_lenK K) (by rfl) T.len PySem.boot_len (pa_cons (pv 1) pa_nil)))) (pg_name (i := 4) sc_Kept_look.nd rfl (Or.inl rfl))
    (pss_cons (ps_set (i := 5) sc_Kept_look.nd rfl (Or.inl rfl) (pe_ix (ix_listK K) (pv 1) (pv 4) (fun _ _ => rfl)))
    (pss_cons (ps_set (i := 6) sc_Kept_look.nd rfl (Or.inl rfl) (pe_cal c_state_by hr (by rfl) (pa_cons (pe_fldK K (pv 0)) (pa_cons (pe_fldK K (pv 5)) (pa_cons (pe_fldK K (pv 5)) pa_nil)))))
    (pss_cons (ps_expr (pe_app K (pv 3) (pe_slice (sl_tupK K) (pv 2) po_none (po_some (pv 4)))))
    (pss_cons (ps_if (pt_cmpR op_eq (pv 6) (pe_fldK K (pv 5)) (nomark _))
    (pss_one (ps_ret (pv 3)))
    pss_nil)
    (pss_one (ps_fldK K (pv 5) (pv 6) rfl)))))))
    (pss_one (ps_ret (pv 3))))), fun as fp post h kn => ?_⟩
  obtain ⟨g, ll, ls, b, N, T0, X, last, q, old, hb, hnu, hsp, hoff, hX, hql, hz, ⟨hold, ⟨zz, hzz⟩, hst⟩, hls, rfl, rfl, rfl⟩ := h
  have hset : ∀ i, ∃ y, ST.at (q.take i) T0 = some y := fun i => ST.at_take hX i
  refine sdm_seq (sdm_setN (evn_lst eds_nil (by decide)) ?_)
  refine sdm_seq (sdm_forRev (n := q.length + 1) (fun i ss => ∃ (T : ST) (acc : List (List Nat)) (z4 z5 z6 : Sl), T.doc = T0.doc ∧ SameA T0 T ∧ T.a = T0.a ∧ (i ≤ q.length → T.Off b (q.take (q.length - i)) ∧ (∃ y, ST.at (q.take (q.length - i)) T = some y) ∧ ∀ (n : Nat) y, n ≤ q.length - i → ST.at (q.take n) T = some y → y.st = b.state (old.sub (q.take n)) ∧ (refsTo T0 q q.length)[n]? = some (V.ref y.a)) ∧
      (q.length < i → T.Fit b) ∧ acc ++ climbAt b old T0.doc q i = climb b old T0.doc q q.length ∧ acc.length ≤ i ∧ (z4.rf = false ∧ z5.rf = false ∧ z6.rf = false) ∧ (∃ d4 d5 d6, (z4 = .no ∨ z4 = .a (.d d4)) ∧ (z5 = .no ∨ z5 = .a (.w d5)) ∧ (z6 = .no ∨ z6 = .a (.d d6))) ∧
      ss = [KpS CK C g ll b T last, .a (.o (HA.refs ls (refsTo T0 q q.length)) (.ref ls)), .a (.d (plD q)), .own (acc.map plD), z4, z5, z6])
    (ev_lenO (ev_o (i := 1)) fun B kn => ⟨_, kn 1 _ _ rfl, refsTo_len T0 q q.length⟩) (by omega) ⟨T0, [], .no, .no, .no, rfl, ⟨rfl, rfl⟩, rfl, fun _ => ⟨by rw [Nat.sub_zero, List.take_length]; exact hoff, ⟨X, by rw [Nat.sub_zero, List.take_length]; exact hX⟩, fun n y hn hy => ⟨hst n y (by omega) hy, refsTo_get (by omega) hy⟩⟩, fun h => by omega, by unfold climbAt; rw [if_pos (by omega), Nat.sub_zero]; rfl, Nat.le_refl _, ⟨rfl, rfl, rfl⟩, ⟨.non, .non, .non, .inl rfl, .inl rfl, .inl rfl⟩, rfl⟩ ?_ ?_)
  · rintro i ss' hi ⟨T, acc, z4, z5, z6, hdoc, hsa, hta, hpath, _, hacc, hal, ⟨hr4, hr5, hr6⟩, hz456, rfl⟩
    obtain ⟨hof, ⟨y, hy⟩, hps⟩ := hpath (by omega)
    have hkk : q.length + 1 - 1 - i = q.length - i := by omega
    rw [hkk]
    obtain ⟨kk, hk⟩ : ∃ kk, q.length - i = kk := ⟨_, rfl⟩
    rw [climbAt_step b old T0.doc q (by omega)] at hacc
    rw [hk] at hof hy hps hacc ⊢
    have hkl : kk ≤ q.length := by omega
    obtain ⟨hyst, hyref⟩ := hps kk y (Nat.le_refl _) hy
    have hkf := hof.kids hy
    have hnuT := hsa.nu hnu
    have hspT := hsa.sp hsp
    have eya : y.nd.a = y.a := by cases y; rfl
    have eyl : y.nd.l = y.l := by cases y; rfl
    have eyn : y.nd.name = y.name := by cases y; rfl
    have eys : y.nd.st = y.st := by cases y; rfl
    have hydoc : Doc.at (q.take kk) T.doc = some y.doc := by rw [ST.at_doc, hy]; rfl
    have hcalc : ST.calc b y.name y.kids = b.state (T0.doc.sub (q.take kk)) := by
      rw [← hdoc, Doc.sub_eq hydoc, ST.calc_eq hkf]
      cases y
      rw [ST.doc]
      rfl
    refine sdm_seq (sdm_setW (v := .ref y.a) (ev_ixO (ev_o (i := 1)) ev_v fun B kn => ⟨_, _, kn 1 _ _ rfl, atI_nat hyref, rfl⟩) ?_)
    have hnode : ∀ {ss : List Sl}, ss[0]? = some (KpS CK C g ll b T last) → ∀ B, Kn B ss → NdAt C B y.nd := fun h0 B kn => kept_node (kn 0 _ _ h0) hy
    have hspots : ∀ {ss : List Sl}, ss[0]? = some (KpS CK C g ll b T last) → ∀ B, Kn B ss → (HA.spots C y.l y.kids).φ B := fun h0 B kn => by
      have h5 := (kn 0 _ _ h0).2
      obtain ⟨u, v, h1, _⟩ := ST.around _ T y hy
      exact (HA.spot_spots (T := y) fun n hn => h5 n (by rw [h1, List.mem_append, List.mem_append]; exact .inl (.inr hn))).2
    have hst' : ∀ k ∈ y.kids, k.st < N := fun k hk => by
      rw [ST.Fit.state ((ST.Fits_iff b _).mp hkf k hk)]
      exact hb.state_lt _
    have hkz : y.kids.length ≤ 1000 := by
      have h1 := Doc.at_size hydoc
      rw [hdoc] at h1
      have h2 : y.doc.size = 1 + Doc.sizes (ST.docs y.kids) := by cases y; rw [ST.doc, Doc.size]; rfl
      have h3 := Doc.len_le (ST.docs y.kids)
      have h4 : (ST.docs y.kids).length = y.kids.length := by rw [ST.docs_map, List.length_map]
      omega
    refine sdm_seq (sdm_set (d := nat (ST.calc b y.name y.kids)) (ev_call (ea_cons (ev_kmachine cK) (ea_cons (Ev.to (ev_sname (n := y.nd) cS (Ev.to ev_v (by rw [eya])) (hnode rfl)) (by rw [eyn])) (ea_cons (Ev.kn (x := .o (HA.spots C y.l y.kids) (.ref y.l)) (Ev.to (ev_sbelow (n := y.nd) cS (Ev.to ev_v (by rw [eya])) (hnode rfl)) (by rw [eyl])) fun B kn => ⟨rfl, hspots rfl B kn⟩) ea_nil))) ⟨b, N, y.name, y.l, y.kids, hb, hst', hkz, rfl, rfl⟩) ?_)
    refine sdm_seq (sdm_of (sd_app rfl (d := plD (q.take kk)) (ev_slTo (xs := q) (e := nat) ev_v ev_v) (by simp; omega) ?_))
    rw [hcalc]
    by_cases heq : b.state (old.sub (q.take kk)) = b.state (T0.doc.sub (q.take kk))
    · rw [if_pos heq] at hacc
      refine sdm_seq (sdm_if (b := true) (EvT.to (et_test (ev_op ev_v (Ev.to (ev_sstate (n := y.nd) cS (Ev.to ev_v (by rw [eya])) (hnode rfl)) (by rw [eys, hyst])) rop_eqI)) (decide_eq_true (by rw [heq]))) (fun _ => ?_) fun h => nomatch h)
      have hfit : T.Fit b := hof.fit hy fun n z hn hz => by
        rw [List.length_take] at hn
        have hn : n ≤ kk := by omega
        rw [List.take_take, Nat.min_eq_left hn] at hz
        rw [(hps n z hn hz).1]
        rw [hzz] at heq
        have := alike_up hold hn hkl heq
        rw [this, ← hzz, ← hdoc]
        have hzd : Doc.at (q.take n) T.doc = some z.doc := by rw [ST.at_doc, hz]; rfl
        rw [Doc.sub_eq hzd]
      refine sdm_retO (i := 3) (k := HA.kept CK C g ll b T last) rfl (fun B kn => kn 0 _ _ rfl) (fun a ha => .inl ?_) fun v hv => ⟨T, hdoc, hfit, hsa, hta, fun a e hf => by obtain ⟨B, h1, h2⟩ := hv a e; exact HA.kept_al h1 a hf h2, ?_⟩
      · rcases ha with e | e | e
        · exact .inl e
        · exact .inr (.inl e)
        · exact .inr (.inr (hsa.fp a e))
      · rw [← hacc, List.map_append]
        rfl
    · rw [if_neg heq] at hacc
      refine sdm_seq (sdm_if (b := false) (EvT.to (et_test (ev_op ev_v (Ev.to (ev_sstate (n := y.nd) cS (Ev.to ev_v (by rw [eya])) (hnode rfl)) (by rw [eys, hyst])) rop_eqI)) (decide_eq_false (by omega))) (fun h => nomatch h) fun _ => sdm_next ?_)
      have hzero : ∀ {α : Type} (l : List α), l.take 0 = [] := fun l => rfl
      let s' := b.state (T0.doc.sub (q.take kk))
      have hdw : (y.with y.name s').doc = y.doc := by cases y; rw [ST.with, ST.doc, ST.doc] <;> rfl
      have hfw : (y.with y.name s').Fit b := ST.Fit.of (by show s' = ST.calc b y.name y.kids; rw [hcalc]) hkf
      have hTa : (ST.put (y.with y.name s') (q.take kk) T).a = T.a := ST.put_a _ _ _ _ hy rfl
      have hTd : (ST.put (y.with y.name s') (q.take kk) T).doc = T.doc := by rw [ST.put_doc, hdw, Doc.put_self hydoc]
      have hTm := with_maps (n := y.name) (s := s') hy
      have hlen : (q.take kk).length = kk := by rw [List.length_take]; omega
      have hoff' := hof.put (y := y.with y.name s') hkf hy
      have hat' := ST.put_at (y.with y.name s') hy
      refine sdm_fld (x := .d (nat s')) (a := y.a) (C := C) ev_v (.inl ⟨_, rfl⟩) ev_v cS.c cS.n2 (fun B kn => ?_) (.inl ?_) fun F dx fs yv kn hF hyv => ⟨[KpS CK C g ll b (ST.put (y.with y.name s') (q.take kk) T) last, .a (.o (HA.refs ls (refsTo T0 q q.length)) (.ref ls)), .a (.d (plD q)), .own ((acc ++ [q.take kk]).map plD), .a (.d (nat kk)), .a (.w (.ref y.a)), .a (.d (nat s'))], ?_, ?_⟩
      · obtain ⟨dx, h1, _⟩ := hnode rfl B kn
        exact ⟨dx, _, by rw [← eya]; exact h1, by show 3 < 1000; decide⟩
      · have : (HA.spot C T).fp y.a := ⟨y.nd, ST.at_mem hy, .inl eya.symm⟩
        exact .inr (.inr (hsa.fp _ this))
      · obtain ⟨dx', h1, _⟩ := hnode rfl F kn
        rw [eya, hF] at h1
        cases h1
        obtain rfl := at_int.mp (show At F (nat s') yv from hyv)
        have hkp := kept_with (dx := dx) (n := y.name) (s := s') (kn 0 _ _ rfl) hnuT hspT hy hTa.symm
        have hfs : putF "state" (V.int (s' : Int)) (fsS y.nd) = ([("name", V.str y.name), ("state", V.int (s' : Int)), ("below", V.ref y.l)] : List (Str × V)) := by cases y; rfl
        rw [hfs]
        refine .cons (.o hkp) (.cons (.o ?_) (.cons (.d _) (.cons ?_ (.cons (.d _) (.cons (.w _) (.cons (.d _) .nil))))))
        · have hls2 : F ls = some (.lst (refsTo T0 q q.length)) := kn 1 _ _ rfl
          show upd F y.a _ ls = _
          rw [upd_ne (ne_of hls2 hF (by intro z; cases z))]
          exact hls2
        · rw [List.map_append]
          exact .own _
      · refine ⟨_, acc ++ [q.take kk], _, _, _, hTd.trans hdoc, ⟨hTm.1.trans hsa.1, hTm.2.trans hsa.2⟩, hTa.trans hta, fun hi1 => ?_, fun hi1 => ?_, by rw [List.append_assoc]; exact hacc, by rw [List.length_append]; show acc.length + 1 ≤ i + 1; omega, ⟨rfl, rfl, rfl⟩, ⟨_, _, _, .inr rfl, .inr rfl, .inr rfl⟩, rfl⟩
        · have e1 : q.length - (i + 1) = kk - 1 := by omega
          have hk1 : kk - 1 < q.length := by omega
          have e2 : q.take kk = q.take (kk - 1) ++ [q[kk - 1]] := by
            have := take_map_succ (List.getElem?_eq_getElem hk1)
            rwa [show kk - 1 + 1 = kk by omega] at this
          rw [e1]
          refine ⟨?_, ?_, fun n z hn hz => ?_⟩
          · generalize ST.put (y.with y.name s') (q.take kk) T = T' at hoff' hat' ⊢
            rw [e2] at hoff' hat'
            exact hoff'.up hat' hfw
          · have := ST.at_take hat' (kk - 1)
            rwa [List.take_take, Nat.min_eq_left (by omega)] at this
          · have hz2 : ST.at ((q.take kk).take n) (ST.put (y.with y.name s') (q.take kk) T) = some z := by
              rw [List.take_take, Nat.min_eq_left (by omega)]; exact hz
            obtain ⟨z', h1, h2, h3⟩ := ST.put_lt (y.with y.name s') (by rw [hlen]; omega) ⟨_, hy⟩ hz2
            rw [List.take_take, Nat.min_eq_left (by omega)] at h1
            obtain ⟨g1, g2⟩ := hps n z' (by omega) h1
            exact ⟨h2.trans g1, by rw [h3]; exact g2⟩
        · have : kk = 0 := by omega
          subst this
          rw [List.take_zero, ST.put]
          exact hfw
  · rintro ss' ⟨T, acc, z4, z5, z6, hdoc, hsa, hta, _, hfit, hacc, hal, _, _, rfl⟩
    unfold climbAt at hacc
    rw [if_neg (by omega), List.append_nil] at hacc
    refine sdm_retO (i := 3) (k := HA.kept CK C g ll b T last) rfl (fun B kn => kn 0 _ _ rfl) (fun a ha => .inl ?_) fun v hv => ⟨T, hdoc, hfit (by omega), hsa, hta, fun a e hf => by obtain ⟨B, h1, h2⟩ := hv a e; exact HA.kept_al h1 a hf h2, by rw [hacc]⟩
    rcases ha with e | e | e
    · exact .inl e
    · exact .inr (.inl e)
    · exact .inr (.inr (hsa.fp a e))
end
end G
/-! The spots below a spot change. -/
namespace G
open PySem L2
open Evl (Ex)
def ST.withK (y : ST) (ks : List ST) : ST := .mk y.a y.l y.name y.st ks
theorem ST.withK_nds (y : ST) (ks : List ST) : (y.withK ks).nds = ⟨y.a, y.l, y.name, y.st, ks.map ST.a⟩ :: ST.ndss ks := by unfold ST.withK; rw [ST.nds]
/-- the list below a spot changes -/
theorem spot_kids {C : Addr} {T y : ST} {p : List Nat} {F : Hp} {ks : List ST} (h : (HA.spot C T).φ F) (hn : T.Nu) (hy : ST.at p T = some y) (hk : ∀ nd ∈ ST.ndss ks, NdAt C F nd ∧ nd.l ≠ y.l) : (HA.spot C (ST.put (y.withK ks) p T)).φ (upd F y.l (.lst (ks.map fun k => V.ref k.a))) := by
  obtain ⟨u, v, h1, h2⟩ := ST.around p T y hy
  have h3 := h2 (y.withK ks) rfl
  have hnu := hn.2
  rw [h1, ST.nds_eq y] at hnu
  obtain ⟨dy, hya, hyl⟩ := h y.nd (ST.at_mem hy)
  have ea : y.nd.a = y.a := by cases y; rfl
  have el : y.nd.l = y.l := by cases y; rfl
  have oth : ∀ nd, NdAt C F nd → nd.l ≠ y.l → NdAt C (upd F y.l (.lst (ks.map fun k => V.ref k.a))) nd := fun nd ⟨d, g1, g2⟩ hne => by
    refine ⟨d, ?_, by rw [upd_ne hne]; exact g2⟩
    rw [upd_ne (ne_of g1 (el ▸ hyl) (by intro z; cases z))]
    exact g1
  intro nd hnd
  rw [h3, ST.withK_nds] at hnd
  simp only [List.map_append, List.map_cons, List.nodup_append, List.nodup_cons, List.mem_append, List.mem_cons, List.mem_map] at hnu
  have key : nd ∈ u ∨ nd ∈ v → nd.l ≠ y.l := fun hc e => by
    rw [← el] at e
    rcases hc with hc | hc
    · exact hnu.1.2.2 nd.l ⟨nd, hc, rfl⟩ y.nd.l (.inl rfl) e
    · exact hnu.2.2 y.nd.l (.inr (.inl rfl)) nd.l ⟨nd, hc, rfl⟩ e.symm
  rw [List.mem_append, List.mem_append, List.mem_cons] at hnd
  rcases hnd with (hnd | rfl | hnd) | hnd
  · exact oth nd (h nd (by rw [h1, List.mem_append, List.mem_append]; exact .inl (.inl hnd))) (key (.inl hnd))
  · refine ⟨dy, ?_, ?_⟩
    · show upd F y.l _ y.a = _
      rw [upd_ne (ne_of (ea ▸ hya) (el ▸ hyl) (by intro z; cases z)), ← ea, hya]
      cases y
      rfl
    · show upd F y.l _ y.l = some (.lst ((ks.map ST.a).map V.ref))
      rw [upd_same, List.map_map] <;> rfl
  · exact oth nd (hk nd hnd).1 (hk nd hnd).2
  · exact oth nd (h nd (by rw [h1, List.mem_append]; exact .inr hnd)) (key (.inr hnd))
theorem kept_kids {CK C g ll : Addr} {b : M} {T y : ST} {last : List (List Nat)} {p : List Nat} {F : Hp} {ks : List ST} (h : (HA.kept CK C g ll b T last).φ F) (hn : T.Nu) (hs : Sp T g ll) (hy : ST.at p T = some y) (hk : ∀ nd ∈ ST.ndss ks, NdAt C F nd ∧ nd.l ≠ y.l) :
    (HA.kept CK C g ll b (ST.put (y.withK ks) p T) last).φ (upd F y.l (.lst (ks.map fun k => V.ref k.a))) := by
  obtain ⟨⟨dk, vm, vs, h1, h2, h3, h4⟩, h5⟩ := h
  obtain ⟨dy, q1, q2⟩ := h5 _ (ST.at_mem hy)
  have el : y.nd.l = y.l := by cases y; rfl
  rw [el] at q2
  have tx : TEx F (upd F y.l (.lst (ks.map fun k => V.ref k.a))) := TEx.upd fun u e => by rw [q2] at e; cases e; rfl
  refine ⟨⟨dk, vm, vs, ?_, At.mono tx _ h2, ?_, AtL.mono tx _ h4⟩, spot_kids h5 hn hy hk⟩
  · rw [upd_ne (ne_of h1 q2 (by intro z; cases z))]
    unfold fsK at h1 ⊢
    rw [ST.put_a (y.withK ks) _ _ _ hy rfl]
    exact h1
  · rw [upd_ne fun e => (hs _ (ST.at_mem hy)).2 (el.trans e.symm)]
    exact h3
/-- after a change below: what look wants -/
theorem alike_kids {b : M} {T y : ST} {p : List Nat} {ks : List ST} (hf : T.Fit b) (hy : ST.at p T = some y) (hk : ST.Fits b ks) : (ST.put (y.withK ks) p T).Off b p ∧ Alike b (ST.put (y.withK ks) p T) T.doc p := by
  refine ⟨(hf.off hy).put (y := y.withK ks) hk hy, ⟨y.doc, by rw [ST.at_doc, hy]; rfl⟩, ⟨(y.withK ks).doc, ST.put_doc _ _ _⟩, fun n z hn hz => ?_⟩
  rcases Nat.lt_or_ge n p.length with h | h
  · obtain ⟨z', h1, h2, _⟩ := ST.put_lt (y.withK ks) h ⟨y, hy⟩ hz
    rw [h2, (hf.at h1).state, Doc.sub_eq (by rw [ST.at_doc, h1]; rfl)]
  · have e : n = p.length := by omega
    subst e
    rw [List.take_length] at hz ⊢
    rw [ST.put_at _ hy] at hz
    cases hz
    rw [Doc.sub_eq (by rw [ST.at_doc, hy]; rfl)]
    show y.st = _
    rw [(hf.at hy).state]
theorem alike_with {b : M} {T y : ST} {p : List Nat} {n' : Str} (hf : T.Fit b) (hy : ST.at p T = some y) : (ST.put (y.with n' y.st) p T).Off b p ∧ Alike b (ST.put (y.with n' y.st) p T) T.doc p := by
  refine ⟨(hf.off hy).put (y := y.with n' y.st) (hf.at hy).kids hy, ⟨y.doc, by rw [ST.at_doc, hy]; rfl⟩, ⟨(y.with n' y.st).doc, ST.put_doc _ _ _⟩, fun n z hn hz => ?_⟩
  rcases Nat.lt_or_ge n p.length with h | h
  · obtain ⟨z', h1, h2, _⟩ := ST.put_lt (y.with n' y.st) h ⟨y, hy⟩ hz
    rw [h2, (hf.at h1).state, Doc.sub_eq (by rw [ST.at_doc, h1]; rfl)]
  · have e : n = p.length := by omega
    subst e
    rw [List.take_length] at hz ⊢
    rw [ST.put_at _ hy] at hz
    cases hz
    rw [Doc.sub_eq (by rw [ST.at_doc, hy]; rfl)]
    show y.st = _
    rw [(hf.at hy).state]
/-- the addresses along a path stay -/
theorem refsTo_put {T y z : ST} {p : List Nat} (hy : ST.at p T = some y) (hz : z.a = y.a) : refsTo (ST.put z p T) p p.length = refsTo T p p.length := by
  unfold refsTo
  refine List.map_congr_left fun n hn => ?_
  have hn := List.mem_range.mp hn
  rcases Nat.lt_or_ge n p.length with h | h
  · obtain ⟨w, hw⟩ := ST.at_take (ST.put_at z hy) n
    obtain ⟨z', h1, _, h2⟩ := ST.put_lt z h ⟨y, hy⟩ hw
    rw [adr_eq hw, adr_eq h1, h2]
  · have e : n = p.length := by omega
    subst e
    rw [List.take_length, adr_eq (ST.put_at z hy), adr_eq hy, hz]
/-- kids in, kids out: no address twice -/
theorem nu_ins {T y N : ST} {p : List Nat} {i : Nat} (hn : T.Nu) (hN : N.Nu) (hy : ST.at p T = some y) (hd : ∀ x ∈ N.nds, ∀ x' ∈ T.nds, x.a ≠ x'.a ∧ x.l ≠ x'.l) : (ST.put (y.withK (y.kids.take i ++ [N] ++ y.kids.drop i)) p T).Nu ∧ ∀ x ∈ (ST.put (y.withK (y.kids.take i ++ [N] ++ y.kids.drop i)) p T).nds, (∃ x' ∈ T.nds, x.a = x'.a ∧ x.l = x'.l) ∨ x ∈ N.nds := by
  obtain ⟨u, v, h1, h2⟩ := ST.around p T y hy
  have h3 := h2 (y.withK (y.kids.take i ++ [N] ++ y.kids.drop i)) rfl
  have hks : ST.ndss y.kids = ST.ndss (y.kids.take i) ++ ST.ndss (y.kids.drop i) := by rw [← ST.ndss_app, List.take_append_drop]
  have hT : T.nds = u ++ (y.nd :: (ST.ndss (y.kids.take i) ++ ST.ndss (y.kids.drop i))) ++ v := by rw [h1, ST.nds_eq y, hks]
  have hP : (ST.put (y.withK (y.kids.take i ++ [N] ++ y.kids.drop i)) p T).nds = u ++ (⟨y.a, y.l, y.name, y.st, (y.kids.take i ++ [N] ++ y.kids.drop i).map ST.a⟩ :: (ST.ndss (y.kids.take i) ++ N.nds ++ ST.ndss (y.kids.drop i))) ++ v := by
    rw [h3, ST.withK_nds, ST.ndss_app, ST.ndss_app, ST.ndss, ST.ndss, List.append_nil]
  have ea : y.nd.a = y.a := by cases y; rfl
  have el : y.nd.l = y.l := by cases y; rfl
  refine ⟨⟨?_, ?_⟩, fun x hx => ?_⟩
  · have hp : (((ST.put (y.withK (y.kids.take i ++ [N] ++ y.kids.drop i)) p T).nds.map Nd.a)).Perm (T.nds.map Nd.a ++ N.nds.map Nd.a) := by
      rw [hP, hT]
      refine List.perm_iff_count.mpr fun x => ?_
      simp only [List.map_append, List.map_cons, List.count_append, List.count_cons, ea]
      omega
    rw [hp.nodup_iff, List.nodup_append]
    refine ⟨hn.1, hN.1, fun a ha c hc e => ?_⟩
    obtain ⟨x', hx', rfl⟩ := List.mem_map.mp ha
    obtain ⟨x, hx, rfl⟩ := List.mem_map.mp hc
    exact (hd x hx x' hx').1 e.symm
  · have hp : (((ST.put (y.withK (y.kids.take i ++ [N] ++ y.kids.drop i)) p T).nds.map Nd.l)).Perm (T.nds.map Nd.l ++ N.nds.map Nd.l) := by
      rw [hP, hT]
      refine List.perm_iff_count.mpr fun x => ?_
      simp only [List.map_append, List.map_cons, List.count_append, List.count_cons, el]
      omega
    rw [hp.nodup_iff, List.nodup_append]
    refine ⟨hn.2, hN.2, fun a ha c hc e => ?_⟩
    obtain ⟨x', hx', rfl⟩ := List.mem_map.mp ha
    obtain ⟨x, hx, rfl⟩ := List.mem_map.mp hc
    exact (hd x hx x' hx').2 e.symm
  · rw [hP] at hx
    rw [hT]
    simp only [List.mem_append, List.mem_cons] at hx ⊢
    rcases hx with (hx | rfl | (hx | hx) | hx) | hx
    · exact .inl ⟨x, .inl (.inl hx), rfl, rfl⟩
    · exact .inl ⟨y.nd, .inl (.inr (.inl rfl)), ea.symm, el.symm⟩
    · exact .inl ⟨x, .inl (.inr (.inr (.inl hx))), rfl, rfl⟩
    · exact .inr hx
    · exact .inl ⟨x, .inl (.inr (.inr (.inr hx))), rfl, rfl⟩
    · exact .inl ⟨x, .inr hx, rfl, rfl⟩
theorem nu_cut {T y : ST} {p : List Nat} {i : Nat} (hn : T.Nu) (hy : ST.at p T = some y) (hi : i < y.kids.length) : (ST.put (y.withK (y.kids.eraseIdx i)) p T).Nu ∧ ∀ x ∈ (ST.put (y.withK (y.kids.eraseIdx i)) p T).nds, ∃ x' ∈ T.nds, x.a = x'.a ∧ x.l = x'.l := by
  obtain ⟨u, v, h1, h2⟩ := ST.around p T y hy
  have h3 := h2 (y.withK (y.kids.eraseIdx i)) rfl
  have hk := List.getElem?_eq_getElem hi
  have hks : ST.ndss y.kids = ST.ndss (y.kids.take i) ++ y.kids[i].nds ++ ST.ndss (y.kids.drop (i + 1)) := by
    conv => lhs; rw [ks_split hk]
    rw [ST.ndss_app, ST.ndss_app, ST.ndss, ST.ndss, List.append_nil]
  have hT : T.nds = u ++ (y.nd :: (ST.ndss (y.kids.take i) ++ y.kids[i].nds ++ ST.ndss (y.kids.drop (i + 1)))) ++ v := by rw [h1, ST.nds_eq y, hks]
  have hP : (ST.put (y.withK (y.kids.eraseIdx i)) p T).nds = u ++ (⟨y.a, y.l, y.name, y.st, (y.kids.eraseIdx i).map ST.a⟩ :: (ST.ndss (y.kids.take i) ++ ST.ndss (y.kids.drop (i + 1)))) ++ v := by
    rw [h3, ST.withK_nds, List.eraseIdx_eq_take_drop_succ, ST.ndss_app]
  have ea : y.nd.a = y.a := by cases y; rfl
  have el : y.nd.l = y.l := by cases y; rfl
  refine ⟨⟨?_, ?_⟩, fun x hx => ?_⟩
  · have hp : (T.nds.map Nd.a).Perm (((ST.put (y.withK (y.kids.eraseIdx i)) p T).nds.map Nd.a) ++ y.kids[i].nds.map Nd.a) := by
      rw [hP, hT]
      refine List.perm_iff_count.mpr fun x => ?_
      simp only [List.map_append, List.map_cons, List.count_append, List.count_cons, ea]
      omega
    exact (List.nodup_append.mp (hp.nodup_iff.mp hn.1)).1
  · have hp : (T.nds.map Nd.l).Perm (((ST.put (y.withK (y.kids.eraseIdx i)) p T).nds.map Nd.l) ++ y.kids[i].nds.map Nd.l) := by
      rw [hP, hT]
      refine List.perm_iff_count.mpr fun x => ?_
      simp only [List.map_append, List.map_cons, List.count_append, List.count_cons, el]
      omega
    exact (List.nodup_append.mp (hp.nodup_iff.mp hn.2)).1
  · rw [hP] at hx
    rw [hT]
    simp only [List.mem_append, List.mem_cons] at hx ⊢
    rcases hx with (hx | rfl | hx | hx) | hx
    · exact ⟨x, .inl (.inl hx), rfl, rfl⟩
    · exact ⟨y.nd, .inl (.inr (.inl rfl)), ea.symm, el.symm⟩
    · exact ⟨x, .inl (.inr (.inr (.inl (.inl hx)))), rfl, rfl⟩
    · exact ⟨x, .inl (.inr (.inr (.inr hx))), rfl, rfl⟩
    · exact ⟨x, .inr hx, rfl, rfl⟩
end G
namespace G
open PySem L2
open Evl (Ex)
/-- no slot of the script -/
def noR (ss : List Sl) : Prop := ∀ s ∈ ss, ∀ xs, s ≠ .a (.r xs)
theorem sr_forget {F' : Hp} : ∀ ss : List Sl, noR ss → ∃ ss', SRs F' ss ss'
  | [], _ => ⟨[], .nil⟩
  | s :: ss, h => by
    obtain ⟨ss', h'⟩ := sr_forget (F' := F') ss fun x hx => h x (List.mem_cons_of_mem _ hx)
    cases s with
    | no => exact ⟨_, .cons .no h'⟩
    | own xs => exact ⟨_, .cons (.own xs) h'⟩
    | a x =>
      cases x with
      | d x => exact ⟨_, .cons (.d x) h'⟩
      | w x => exact ⟨_, .cons (.w x) h'⟩
      | l xs => exact ⟨_, .cons .lno h'⟩
      | o k u => exact ⟨_, .cons .ow h'⟩
      | r xs => exact absurd rfl (h _ List.mem_cons_self xs)
section
variable {K : PySem.W.Frag} {CK C g ll : Addr} {b : M} {T : ST} {last told : List (List Nat)} {F F0 : Hp} {ss : List Sl} {fp : Addr → Prop} {N Bk Ct : SN} {Rm : RM}
theorem kept_last {l dx : Addr} {fs : List (Str × V)} (h : (HA.kept CK C g ll b T last).φ F) (hl : (HA.lst (told.map plD) (.ref l)).φ F) (hs : Sp T g ll) (hg : F g = some (.ins CK dx fs)) : (HA.kept CK C g l b T told).φ (upd F g (.ins CK dx (putF "last" (.ref l) fs))) := by
  obtain ⟨⟨dk, vm, vs, h1, h2, h3, h4⟩, h5⟩ := h
  obtain ⟨l', vs', e, g1, g2⟩ := hl
  cases e
  rw [hg] at h1
  cases h1
  have tx : TEx F (upd F g (.ins CK dx (putF "last" (.ref l) (fsK vm T ll)))) := TEx.upd fun u e => by rw [hg] at e; cases e; rfl
  refine ⟨⟨dx, vm, vs', by rw [upd_same] <;> rfl, At.mono tx _ h2, by rw [upd_ne (ne_of g1 hg (by intro z; cases z))]; exact g1, AtL.mono tx _ g2⟩, fun n hn => ?_⟩
  obtain ⟨d, q1, q2⟩ := h5 n hn
  exact ⟨d, by rw [upd_ne (hs n hn).1]; exact q1, by rw [upd_ne (ne_of q2 hg (by intro z; cases z))]; exact q2⟩
/-- self.last = e, the last statement -/
theorem sdm_last {tv : TE} {Qt : ST → Prop} {post : RM} (c : ClsK K CK) (hfp : fp g ∨ F0 g = none)
    (hv : EvM K fp F0 tv ss fun ss' v k => ∃ T' rest', Qt T' ∧ Sp T' g ll ∧ (∀ a, v = .ref a → ¬ (HA.kept CK C g ll b T' last).fp a) ∧ k = (HA.lst (told.map plD) v).and (HA.kept CK C g ll b T' last) ∧ ss' = KpS CK C g ll b T' last :: rest' ∧ noR rest') (hp : ∀ T' l, Qt T' → Sp T' g l → post .non (HA.kept CK C g l b T' told)) :
    SdM K fp F0 (sFld K (tVar 0) tv "last") ss (endM fp F0 post) Rm Bk Ct := by
  refine sdm_fldM (a := g) (C := CK) hv (fun ss' v k ⟨T', rest', _, _, _, _, e, _⟩ => by subst e; exact ev_o) c.c c.n3 hfp fun ss' v k ⟨T', rest', hq, hsp, hnl, ek, es, hnr⟩ hkf F kn hk => ?_
  subst ek es
  obtain ⟨hl, hkp⟩ := hk
  obtain ⟨l, vs, ev, g1, g2⟩ := id hl
  subst ev
  obtain ⟨⟨dk, vm, vs', h1, h2, h3, h4⟩, h5⟩ := id hkp
  have hsp' : Sp T' g l := fun n hn => ⟨(hsp n hn).1, fun e => hnl l rfl (.inr (.inr ⟨n, hn, .inr e.symm⟩))⟩
  obtain ⟨rest'', hr⟩ := sr_forget (F' := upd F g (.ins CK dk (putF "last" (.ref l) (fsK vm T' ll)))) rest' hnr
  refine ⟨dk, _, h1, by show 3 < 1000; decide, KpS CK C g l b T' told :: rest'', .cons (.o (kept_last hkp hl hsp h1)) hr, HA.kept CK C g l b T' told, hp T' l hq hsp', fun B kn => kn 0 _ _ rfl, fun a ha => ?_⟩
  rcases ha with e | e | e
  · exact hkf a (.inr (.inl e))
  · exact hkf a (.inl (by rw [show a = l from e]; rfl))
  · exact hkf a (.inr (.inr (.inr e)))
end
section
variable {P : Program} {w : World} {K : PySem.W.Frag} {mg : Str → Option Value} {base : Heap} {f CK C : Addr} {fd : FuncData}
/-- for c in a text -/
theorem sd_forStr {ss : List Sl} {N Bk Ct : SN} {Rt : R → Prop} {tl : TE} {tb : TS} {j : Nat} {l : List Nat} (Pv : Nat → SN) (h : Ev K tl ss (.d (.str (SX.S l)))) (h0 : Pv 0 ss) (hs : ∀ (i : Nat) c ss', l[i]? = some c → Pv i ss' → Sd K tb (ss'.set j (.a (.d (.str (SX.S [c]))))) (Pv (i + 1)) Rt N (Pv (i + 1))) (hd : ∀ ss', Pv l.length ss' → N ss') :
    Sd K (tFor (iStr tl) (gName j) tb) ss N Rt Bk Ct := fun B F H σ D ok e => by
  refine h B F H σ _ ok fun v H1 e1 r => ?_
  refine ⟨SX.S l, un_str r, ?_⟩
  refine ⟨fun i m σ H => m = l.length - i ∧ i ≤ l.length ∧ ∃ ss', Pv i ss' ∧ Ok K B F H ss' σ, ⟨l.length, by simp, Nat.zero_le _, ss, h0, ok.mono e1⟩, ?_⟩
  rintro i m σ' H' ⟨rfl, hi, ss', hp, ok'⟩
  have hsz : (SX.S l).cps.size = l.length := SX.S_len l
  by_cases hlt : i < l.length
  · refine .inr ⟨show i < (SX.S l).cps.size by omega, fun σ H => ∃ ss', Pv (i + 1) ss' ∧ Ok K B F H ss' σ, fun σ2 H2 q => ⟨l.length - (i + 1), by omega, rfl, hlt, q⟩, fun x H2 y => ?_⟩
    obtain ⟨rfl, c, hc, rfl⟩ := y
    have hc' : l[i]? = some c := by
      have : (SX.S l).cps[i]? = l[i]? := by
        rw [← Array.getElem?_toList]
      rw [← this]; exact hc
    exact hs i c ss' hc' hp B F H2 _ _ (ok'.setD (d := .str (SX.S [c])) (at_str.mpr rfl)) (e.body (Ex.refl _) ok.bf fun ss3 H3 σ3 n3 ok3 => ⟨ss3, n3, ok3⟩)
  · have ei : i = l.length := by omega
    subst ei
    exact .inl ⟨show (SX.S l).cps.size ≤ _ by omega, e.nx _ _ _ (hd ss' hp) ok'⟩
/-! ### is_name -/
def preNm (as : List A) (r : R) : Prop := ∃ x : Str, Nm x ∧ as = [.d (.str x)] ∧ r = .d (.bl true)
theorem lw_in {c : Nat} (h : 97 ≤ c ∧ c < 123) : (!decide (c ∈ ("abcdefghijklmnopqrstuvwxyz" : Str).cps.toList)) = false := by
  rw [letters_eq]
  show (!decide (c ∈ List.range' 97 26)) = false
  rw [decide_eq_true (List.mem_range'_1.mpr (by omega))]
  rfl
theorem sc_is_name : FnScope ["thing", "sign"] ["thing"] (defScope s_is_name) := ⟨rfl, rfl, rfl, by decide +kernel, rfl, by decide +kernel, by decide +kernel⟩
theorem ok_is_name (F : FnP K "is_name" "is_name" s_is_name f fd) (T : Txt mg) : FnOk P w K mg base CX0 1 f fd ["thing"] (spD K preNm) := by
  refine fnD F sc_is_name (n := 1) rfl (fun as r h => by obtain ⟨_, _, rfl, _⟩ := h; rfl) fun cdv A outer s H E hr => ⟨_,
    (pss_cons (ps_if (PW.pt (pw_or (pt_not (pt_val (pe_callB (call_isiK' K) (by rfl) T.isinstance (by decide +kernel) (pa_cons (pv 0) (pa_cons (pe_bltn (v := .ty "str") (by rfl) T.str (by decide +kernel) rfl) pa_nil))))) (pw_or (pt_cmpR op_lt (pe_callB call_lenT (by rfl) T.len PySem.boot_len (pa_cons (pv 0) pa_nil)) pe_int (nomark _)) (pw_or1 (pt_cmpR op_gt (pe_callB call_lenT (by rfl) T.len PySem.boot_len (pa_cons (pv 0) pa_nil)) pe_int (nomark _))))))
    (pss_one (ps_ret pe_bl))
    pss_nil)
    (pss_cons (ps_for PassesOwn.never rfl (pi_str (pv 0)) (pg_name (i := 1) sc_is_name.nd rfl (Or.inl rfl))
    (pss_one (ps_if (pt_cmpR op_notInS (pv 1) (pe_gS T.LETTERS (by rfl)) (by rfl))
    (pss_one (ps_ret pe_bl))
    pss_nil)))
    (pss_one (ps_ret pe_bl)))), fun as r h => ?_⟩
  obtain ⟨x, hx, rfl, rfl⟩ := h
  obtain ⟨l, rfl, h1, h8, hw⟩ := hx
  have hlen : (SX.S l).length = l.length := SX.S_len l
  have evl : ∀ {ss : List Sl}, Ev K (tVar 0) ss (.d (.str (SX.S l))) → Ev K (tCB rLenT (tCons (tVar 0) tNil)) ss (.d (nat l.length)) := fun h => (ev_cb (ea_cons h ea_nil) (rcl_lenS (s := SX.S l) (by omega))).to (by rw [hlen])
  refine sd_seq (sd_if (b := false) (EvT.to (et_or (et_not (et_test (b := true) ?_)) fun _ => et_or (et_test (ev_op (evl ev_v) ev_int rop_ib)) fun _ => et_test (ev_op (evl ev_v) ev_int rop_ib)) ?_) (fun h => nomatch h) fun _ => sd_next ?_)
  · exact fun B F H σ Q ok q => (ea_cons ev_v (ea_cons ev_clsC ea_nil)) B F H σ _ ok fun vs H2 e2 r => by
      obtain ⟨v1, v2, rfl, r1, r2⟩ := aatL2 r
      cases r2
      rw [un_str r1]
      exact ⟨.str (SX.S l), .ty "str", .type "str", .type "str", true, rfl, .ty "str", .base (.str _), kit_ty (by decide +kernel), q _ H2 e2 ad_bl⟩
  · rw [Bool.or_eq_false_iff, Bool.or_eq_false_iff, decide_eq_false_iff_not, decide_eq_false_iff_not]
    exact ⟨rfl, by omega, by omega⟩
  · refine sd_seq (sd_forStr (fun i ss => ∃ z, ss = [.a (.d (.str (SX.S l))), z]) ev_v ⟨.no, rfl⟩ ?_ ?_)
    · rintro i c ss' hc ⟨z, rfl⟩
      have hcl := hw c (List.mem_of_getElem? hc)
      refine sd_if (b := false) (EvT.to (et_test (ev_op (z := .d (.bl (!decide (c ∈ ("abcdefghijklmnopqrstuvwxyz" : Str).cps.toList)))) ev_v ev_str fun H v u Q r1 r2 q => ⟨c, _, un_str r1, un_str r2, q _ H (Ex.refl H) ad_bl⟩)) (lw_in hcl)) (fun h => nomatch h) fun _ => sd_next ⟨_, rfl⟩
    · rintro ss' ⟨z, rfl⟩
      exact sd_ret ev_bl rfl
end
end G
namespace G
open PySem L2
open Evl (Ex)
/-- slots that a call that changes nothing leaves as they are -/
def keepS : Sl → Bool
  | .a (.l _) => false
  | .a (.r _) => false
  | _ => true
theorem sr_refl {F' : Hp} : ∀ ss : List Sl, ss.all keepS = true → Kn F' ss → SRs F' ss ss
  | [], _, _ => .nil
  | s :: ss, h, kn => by
    rw [List.all_cons, Bool.and_eq_true] at h
    have ih := sr_refl ss h.2 fun i k u hi => kn (i + 1) k u (by rw [List.getElem?_cons_succ]; exact hi)
    cases s with
    | no => exact .cons .no ih
    | own xs => exact .cons (.own xs) ih
    | a x =>
      cases x with
      | d x => exact .cons (.d x) ih
      | w x => exact .cons (.w x) ih
      | l xs => cases h.1
      | o k u => exact .cons (.o (kn 0 k u rfl)) ih
      | r xs => cases h.1
/-- arguments that are not known before -/
def EvAE (K : PySem.W.Frag) (t : TA) (ss : List Sl) (Pa : List A → Prop) : Prop := ∀ F H σ (Q : List V → Hp → Prop), Ok K F F H ss σ → (∀ as vs H2, Pa as → Ex H H2 → AAtL K H2 as vs → Q vs H2) → t σ H Q
section
variable {K : PySem.W.Frag} {F0 : Hp} {ss : List Sl} {fp : Addr → Prop} {te t1 t2 to : TE} {E : XK} {t : TA} {pre : List A → (Addr → Prop) → RM → Prop} {P : List Sl → V → HA → Prop}
theorem evae_of {as : List A} (h : EvAs K t ss as) : EvAE K t ss (· = as) := fun F H σ Q ok q => h F F H σ _ ok fun vs H2 e2 r => q as vs H2 rfl e2 r
theorem EvAE.imp {Pa Pb : List A → Prop} (h : EvAE K t ss Pa) (n : ∀ as, Pa as → Pb as) : EvAE K t ss Pb := fun F H σ Q ok q => h F H σ Q ok fun as vs H2 p => q as vs H2 (n as p)
/-- (l[:-1], e) -/
theorem evae_init {l : Addr} {vs : List V} {x : A} (h1 : Ev K t1 ss (.w (.ref l))) (hk : ∀ B, Kn B ss → B l = some (.lst vs)) (hne : vs ≠ []) (h2 : Ev K t2 ss x) : EvAE K (tCons (tSl (rSlL K) t1 tNoPart (tPart (tUn (rU fun i => .int (-i)) (tC (.int 1))))) (tCons t2 tNil)) ss fun as => ∃ ls, as = [.o (HA.refs ls vs.dropLast) (.ref ls), x] ∧ ∃ B, Kn B ss ∧ B ls = none := fun F H σ Q ok q => by
  refine h1 F F H σ _ ok fun v H1 e1 r1 => ?_
  cases r1
  have hl := (ok.ex.trans e1) _ _ (hk F ok.kn)
  refine eo_none F F H1 σ _ (ok.mono e1) fun H1' e1' => eo_some ev_m1 F F H1' σ _ ((ok.mono e1).mono e1') fun H2 e2' => ?_
  have e2 := e1'.trans e2'
  refine ⟨l, vs, rfl, SqL.of (e2 _ _ hl), fun p hp => ?_⟩
  have e3 : Ex H2 (upd H2 p (.lst (cutV vs none (some (-1))))) := Evl.Ex.new hp
  have hc : cutV vs none (some (-1)) = vs.dropLast := cut_init vs hne
  rw [hc] at e3 ⊢
  refine h2 F F _ σ _ (((ok.mono e1).mono e2).mono e3) fun y H4 e4 r4 => ?_
  have hF : F p = none := Evl.fresh_back ((ok.ex.trans e1).trans e2) hp
  exact q _ [.ref p, y] H4 ⟨p, rfl, F, ok.kn, hF⟩ (((e1.trans e2).trans e3).trans e4) ⟨_, _, rfl, ⟨rfl, e4 _ _ upd_same⟩, _, _, rfl, r4, rfl⟩
theorem evm_methE {C a : Addr} {m : Str} {k0 : HA} {Pa : List A → Prop} (ho : Ev K to ss (.w (.ref a))) (h : EvAE K t ss Pa) (hm : ∀ B, Kn B ss → ∃ dx fs, B a = some (.ins C dx fs) ∧ fs.lookup m = none) (hs : ∀ B, Kn B ss → k0.φ B) (c : ∀ as, Pa as → CallOk fp F0 ss pre (.o k0 (.ref a) :: as) P) :
    EvM K fp F0 (tMeth C m (spM K pre) [] E to t) ss P := fun F H σ Q fr ok q =>
  ho F F H σ _ ok fun u H1 e1 r1 => by
    cases r1
    obtain ⟨dx, fs, h1, h2⟩ := hm F ok.kn
    refine ⟨a, dx, fs, rfl, (ok.ex.trans e1) _ _ h1, h2, ?_⟩
    exact h F H1 σ _ (ok.mono e1) fun as vs H2 pa e2 r => call_core (E := E) (c as pa) fr ((ok.mono e1).mono e2) ⟨.ref a, vs ++ [], rfl, ⟨rfl, k0.ex ((ok.ex.trans e1).trans e2) (hs F ok.kn)⟩, by rw [List.append_nil]; exact r⟩ fun ss' v k F' H' p hk hf f' ok' tx rs => q ss' v k F' H' p hk hf f' ok' (((TEx.of e1).trans (.of e2)).trans tx) ((rs.step e2).step e1)
end
section
variable {K : PySem.W.Frag} {CK C g ll : Addr} {b : M} {T X : ST} {last : List (List Nat)} {F0 : Hp} {ss : List Sl} {fp : Addr → Prop} {t1 t2 to : TE} {E : XK}
theorem kept_meth {B : Hp} (h : (HA.kept CK C g ll b T last).φ B) {m : Str} (hm : m ≠ "machine") (h2 : m ≠ "top") (h3 : m ≠ "last") : ∃ dx fs, B g = some (.ins CK dx fs) ∧ fs.lookup m = none := by
  obtain ⟨⟨dx, vm, vs, h1, _⟩, _⟩ := h
  refine ⟨dx, _, h1, ?_⟩
  unfold fsK
  rw [List.lookup, beq_false_of_ne hm, List.lookup, beq_false_of_ne h2, List.lookup, beq_false_of_ne h3, List.lookup]
theorem evm_spots {q : List Nat} {z : D} (h0 : ss[0]? = some (KpS CK C g ll b T last)) (hk : ss.all keepS = true) (h1 : Ev K t1 ss (.d (plD q))) (h2 : Ev K t2 ss (.d z)) (hX : ST.at q T = some X) (hq : q.length ≤ 1000) :
    EvM K fp F0 (tMeth CK "spots" (spM K (preSpots CK C)) [] E (tVar 0) (tCons t1 (tCons t2 tNil))) ss fun ss' v k => ∃ l, ss' = ss ∧ v = .ref l ∧ k = HA.refs l (refsTo T q q.length) ∧ ¬ (HA.kept CK C g ll b T last).fp l :=
  evm_meth (k0 := HA.kept CK C g ll b T last) (ev_o h0) (ea_cons h1 (ea_cons h2 ea_nil)) (fun B kn => kept_meth (kn 0 _ _ h0) (by decide) (by decide) (by decide)) (fun B kn => kn 0 _ _ h0)
    ⟨fun _ => False, _, ⟨g, ll, b, T, X, last, q, z, hX, hq, rfl, rfl, rfl⟩, fun a y => y.elim, fun B kn a y => y.elim, fun v k ⟨l, ev, ek⟩ F F' kn fr hk' hkf hd => ⟨ss, sr_refl ss hk fun i k u hi => k.fr fr (kn i k u hi) fun a _ y => y, l, rfl, ev, ek, fun y => by
      subst ek
      rcases hkf l rfl with e | e
      · exact e
      · exact HA.kept_al (kn 0 _ _ h0) l y e⟩⟩
/-- look, after a change -/
theorem evm_look {t : TA} {rest : List Sl} {N : Nat} {q : List Nat} {old : Doc} (hss : ss = KpS CK C g ll b T last :: rest) (hr : noR rest) (h : EvAE K t ss fun as => ∃ ls, as = [.o (HA.refs ls (refsTo T q q.length)) (.ref ls), .d (plD q)] ∧ ¬ (HA.kept CK C g ll b T last).fp ls)
    (hb : b.Ok N) (hn : T.Nu) (hs : Sp T g ll) (hof : T.Off b q) (hX : ST.at q T = some X) (hq : q.length ≤ 1000) (hz : T.doc.size ≤ 900) (hal : Alike b T old q) (hfp : ∀ a, (HA.kept CK C g ll b T last).fp a → fp a ∨ F0 a = none) :
    EvM K fp F0 (tMeth CK "look" (spM K (preLook CK C)) [] E (tVar 0) t) ss fun ss' v k => ∃ T' rest', (T'.doc = T.doc ∧ T'.Fit b ∧ SameA T T') ∧ Sp T' g ll ∧ (∀ a, v = .ref a → ¬ (HA.kept CK C g ll b T' last).fp a) ∧ k = (HA.lst ((climb b old T.doc q q.length).map plD) v).and (HA.kept CK C g ll b T' last) ∧ ss' = KpS CK C g ll b T' last :: rest' ∧ noR rest' := by
  subst hss
  refine evm_methE (k0 := HA.kept CK C g ll b T last) (ev_o rfl) h (fun B kn => kept_meth (kn 0 _ _ rfl) (by decide) (by decide) (by decide)) (fun B kn => kn 0 _ _ rfl) ?_
  rintro as ⟨ls, rfl, hls⟩
  refine ⟨(HA.kept CK C g ll b T last).fp, _, ⟨g, ll, ls, b, N, T, X, last, q, old, hb, hn, hs, hof, hX, hq, hz, hal, hls, rfl, rfl, rfl⟩, hfp, fun B kn a y => HA.kept_al (kn 0 _ _ rfl) a y, fun v k ⟨T', e1, e2, e3, e4, e5, e6⟩ F F' kn fr hk' hkf hd => ?_⟩
  obtain ⟨rest', hr'⟩ := sr_forget (F' := F') rest hr
  subst e6
  refine ⟨KpS CK C g ll b T' last :: rest', .cons (.o hk'.2) hr', T', rest', ⟨e1, e2, e3⟩, e3.sp hs, e5, rfl, rfl, ?_⟩
  intro s hs xs e
  obtain ⟨i, hi⟩ := List.mem_iff_getElem?.mp hs
  obtain ⟨s0, g1, g2⟩ := Paired.get hr' hi
  subst e
  cases g2
end
section
variable {P : Program} {w : World} {K : PySem.W.Frag} {mg : Str → Option Value} {base : Heap} {f CK C : Addr} {fd : FuncData}
def postK (CK C g : Addr) (b : M) (D' : Doc) (told : List (List Nat)) : RM := fun v k => v = .non ∧ ∃ ll' T', T'.doc = D' ∧ T'.Fit b ∧ T'.Nu ∧ Sp T' g ll' ∧ k = HA.kept CK C g ll' b T' told
/-! ### rename -/
def preRen (CK C : Addr) (as : List A) (fp : Addr → Prop) (post : RM) : Prop := ∃ (g ll : Addr) (b : M) (N : Nat) (T X : ST) (last : List (List Nat)) (q : List Nat) (x : Str), b.Ok N ∧ T.Nu ∧ Sp T g ll ∧ T.Fit b ∧ ST.at q T = some X ∧ q.length ≤ 1000 ∧ Nm x ∧ (Doc.put (.mk x (ST.docs X.kids)) q T.doc).size ≤ 900 ∧
  as = [.o (HA.kept CK C g ll b T last) (.ref g), .d (plD q), .d (.str x)] ∧ fp = (HA.kept CK C g ll b T last).fp ∧ post = postK CK C g b (Doc.put (.mk x (ST.docs X.kids)) q T.doc) (climb b T.doc (Doc.put (.mk x (ST.docs X.kids)) q T.doc) q q.length)
theorem sc_Kept_rename : FnScope ["self", "place", "name", "spots"] ["self", "place", "name"] (defScope s_Kept_rename) := ⟨rfl, rfl, rfl, by decide +kernel, rfl, by decide +kernel, by decide +kernel⟩
theorem ok_rename (F : FnP K "rename" "Kept.rename" s_Kept_rename f fd) (T : Txt mg) (cK : ClsK K CK) (cS : ClsS K C) (m_spots : MCal P w K mg base CK "spots" 1 ["self", "place", "asked"] (spM K (preSpots CK C))) (m_look : MCal P w K mg base CK "look" 3 ["self", "spots", "place"] (spM K (preLook CK C))) (c_is_name : Cal P w K mg base "is_name" 1 ["thing"] (spD K preNm)) :
    FnOk P w K mg base CX0 4 f fd ["self", "place", "name"] (spM K (preRen CK C)) := by
  refine fnM F sc_Kept_rename (n := 1) rfl (fun as fp post h => by obtain ⟨_, _, _, _, _, _, _, _, _, _, _, _, _, _, _, _, _, rfl, _⟩ := h; rfl) fun cdv A outer s0 H E hr => ⟨_,
    (pss_cons (ps_set (i := 3) sc_Kept_rename.nd rfl (Or.inl rfl) (pe_mcal cK.c m_spots hr (pv 0) (pa_cons (pv 1) (pa_cons (pv 1) pa_nil))))
    (pss_cons (ps_if (pt_not (pt_val (pe_cal c_is_name hr (by rfl) (pa_cons (pv 2) pa_nil))))
    (pss_one ps_never)
    pss_nil)
    (pss_cons (ps_fldK K (pe_ix (ix_listK K) (pv 3) (pe_un un_neg pe_int) (fun _ _ => rfl)) (pv 2) rfl)
    (pss_one (ps_fldK K (pv 0) (pe_mcal cK.c m_look hr (pv 0) (pa_cons (pv 3) (pa_cons (pv 1) pa_nil))) rfl))))), fun as fp post h kn => ?_⟩
  obtain ⟨g, ll, b, N, T, X, last, q, x, hb, hnu, hsp, hfit, hX, hq, hx, hz, rfl, rfl, rfl⟩ := h
  refine sdm_seq' (M := fun ss => ∃ ls, ¬ (HA.kept CK C g ll b T last).fp ls ∧ ss = [KpS CK C g ll b T last, .a (.d (plD q)), .a (.d (.str x)), .a (.o (HA.refs ls (refsTo T q q.length)) (.ref ls))]) (sdm_setM (evm_spots rfl rfl ev_v ev_v hX hq) fun ss' v k ⟨l, e1, e2, e3, e4⟩ hkf => by subst e1 e2 e3; exact ⟨l, e4, rfl⟩) ?_
  rintro ss ⟨ls, hls, rfl⟩
  refine sdm_seq (sdm_if (b := false) (et_not (a := true) (et_test (ev_call (ea_cons ev_v ea_nil) ⟨x, hx, rfl, rfl⟩))) (fun h => nomatch h) fun _ => sdm_next ?_)
  have ea : X.nd.a = X.a := by cases X; rfl
  have hXm := ST.at_mem hX
  have hTa := ST.put_a (X.with x X.st) _ _ _ hX rfl
  have hTm := with_maps (n := x) (s := X.st) hX
  obtain ⟨hoff, hal⟩ := alike_with (n' := x) hfit hX
  have hdoc : (ST.put (X.with x X.st) q T).doc = Doc.put (.mk x (ST.docs X.kids)) q T.doc := by
    rw [ST.put_doc]
    unfold ST.with
    rw [ST.doc]
  have hsa : SameA T (ST.put (X.with x X.st) q T) := ⟨hTm.1, hTm.2⟩
  refine sdm_seq' (M := fun ss => ss = [KpS CK C g ll b (ST.put (X.with x X.st) q T) last, .a (.d (plD q)), .a (.d (.str x)), .a (.o (HA.refs ls (refsTo T q q.length)) (.ref ls))]) (sdm_fld (x := .d (.str x)) (a := X.a) (C := C) ev_v (.inl ⟨_, rfl⟩) (ev_ixO (ev_o (i := 3)) ev_m1 fun B kn => ⟨_, _, kn 3 _ _ rfl, refsTo_last (by rw [List.take_length]; exact hX), rfl⟩) cS.c cS.n1 (fun B kn => ?_) (.inl (.inr (.inr ⟨X.nd, hXm, .inl ea.symm⟩))) fun F dx fs yv kn hF hyv => ⟨_, ?_, rfl⟩) ?_
  · obtain ⟨dx, h1, _⟩ := kept_node (kn 0 _ _ rfl) hX
    exact ⟨dx, _, by rw [← ea]; exact h1, by show 3 < 1000; decide⟩
  · obtain ⟨dx', h1, _⟩ := kept_node (kn 0 _ _ rfl) hX
    rw [ea, hF] at h1
    cases h1
    obtain rfl := at_str.mp (show At F (.str x) yv from hyv)
    have hkp := kept_with (dx := dx) (n := x) (s := X.st) (kn 0 _ _ rfl) hnu hsp hX hTa.symm
    have hfs : putF "name" (V.str x) (fsS X.nd) = ([("name", V.str x), ("state", V.int (X.st : Int)), ("below", V.ref X.l)] : List (Str × V)) := by cases X; rfl
    rw [hfs]
    refine .cons (.o hkp) (.cons (.d _) (.cons (.d _) (.cons (.o ?_) .nil)))
    have hl0 := kn 3 _ _ rfl
    show upd F X.a _ ls = _
    rw [upd_ne (by rintro rfl; exact hls (.inr (.inr ⟨X.nd, hXm, .inl ea.symm⟩)))]
    exact hl0
  rintro ss rfl
  have hls' : ¬ (HA.kept CK C g ll b (ST.put (X.with x X.st) q T) last).fp ls := fun h => hls (by
    rcases h with e | e | e
    · exact .inl e
    · exact .inr (.inl e)
    · exact .inr (.inr (hsa.fp _ e)))
  rw [← hdoc] at hz ⊢
  refine sdm_last (Qt := fun T' => T'.doc = (ST.put (X.with x X.st) q T).doc ∧ T'.Fit b ∧ SameA (ST.put (X.with x X.st) q T) T') cK (.inl (.inl rfl)) (evm_look rfl (fun s hs xs e => ?_) (EvAE.imp (evae_of (ea_cons ev_v (ea_cons ev_v ea_nil))) fun as e => ⟨ls, by rw [e, refsTo_put (z := X.with x X.st) hX rfl], hls'⟩) hb (hsa.nu hnu) (hsa.sp hsp) hoff (ST.put_at _ hX) hq hz hal fun a h => .inl ?_) fun T' l ⟨q1, q2, q3⟩ hs' => ⟨rfl, l, T', q1, q2, q3.nu (hsa.nu hnu), hs', rfl⟩
  · subst e
    simp at hs
  · rcases h with e | e | e
    · exact .inl e
    · exact .inr (.inl e)
    · exact .inr (.inr (hsa.fp _ e))
end
end G
namespace G
open PySem L2
open Evl (Ex)
theorem refsTo_init (T : ST) (q : List Nat) (i : Nat) : refsTo T (q ++ [i]) (q ++ [i]).length = refsTo T q q.length ++ [V.ref (adr T (q ++ [i]))] := by
  rw [List.length_append, List.length_singleton, refsTo_succ, List.take_of_length_le (by simp)]
  congr 1
  unfold refsTo
  refine List.map_congr_left fun n hn => ?_
  have := List.mem_range.mp hn
  rw [List.take_append_of_le_length (by omega)]
theorem eraseIdx_map {α β : Type} (f : α → β) (l : List α) (i : Nat) : (l.map f).eraseIdx i = (l.eraseIdx i).map f := by
  rw [List.eraseIdx_eq_take_drop_succ, List.eraseIdx_eq_take_drop_succ, List.map_append, List.map_take, List.map_drop]
/-- the spots below a spot -/
theorem kid_nd {C : Addr} {T X : ST} {q : List Nat} {B : Hp} {nd : Nd} (h : (HA.spot C T).φ B) (hn : T.Nu) (hX : ST.at q T = some X) (hm : nd ∈ ST.ndss X.kids) : NdAt C B nd ∧ nd.l ≠ X.l := by
  obtain ⟨u, v, h1, _⟩ := ST.around q T X hX
  have h2 := hn.2
  have el : X.nd.l = X.l := by cases X; rfl
  rw [h1, ST.nds_eq X] at h2
  refine ⟨h nd (by rw [h1, ST.nds_eq X]; simp [hm]), fun e => ?_⟩
  simp only [List.map_append, List.map_cons, List.nodup_append, List.nodup_cons] at h2
  exact h2.1.2.1.1 (by rw [el, ← e]; exact List.mem_map.mpr ⟨nd, hm, rfl⟩)
section
variable {P : Program} {w : World} {K : PySem.W.Frag} {mg : Str → Option Value} {base : Heap} {f CK C : Addr} {fd : FuncData}
/-! ### cut -/
def preCut (CK C : Addr) (as : List A) (fp : Addr → Prop) (post : RM) : Prop := ∃ (g ll : Addr) (b : M) (N : Nat) (T X : ST) (last : List (List Nat)) (q : List Nat) (i : Nat), b.Ok N ∧ T.Nu ∧ Sp T g ll ∧ T.Fit b ∧ ST.at q T = some X ∧ i < X.kids.length ∧ q.length ≤ 900 ∧ X.kids.length ≤ 900 ∧ (Doc.put (.mk X.name (ST.docs (X.kids.eraseIdx i))) q T.doc).size ≤ 900 ∧
  as = [.o (HA.kept CK C g ll b T last) (.ref g), .d (plD (q ++ [i]))] ∧ fp = (HA.kept CK C g ll b T last).fp ∧ post = postK CK C g b (Doc.put (.mk X.name (ST.docs (X.kids.eraseIdx i))) q T.doc) (climb b T.doc (Doc.put (.mk X.name (ST.docs (X.kids.eraseIdx i))) q T.doc) q q.length)
theorem sc_Kept_cut : FnScope ["self", "place", "spots"] ["self", "place"] (defScope s_Kept_cut) := ⟨rfl, rfl, rfl, by decide +kernel, rfl, by decide +kernel, by decide +kernel⟩
theorem ok_cut (F : FnP K "cut" "Kept.cut" s_Kept_cut f fd) (T : Txt mg) (cK : ClsK K CK) (cS : ClsS K C) (m_spots : MCal P w K mg base CK "spots" 1 ["self", "place", "asked"] (spM K (preSpots CK C))) (m_look : MCal P w K mg base CK "look" 3 ["self", "spots", "place"] (spM K (preLook CK C))) :
    FnOk P w K mg base CX0 4 f fd ["self", "place"] (spM K (preCut CK C)) := by
  refine fnM F sc_Kept_cut (n := 1) rfl (fun as fp post h => by obtain ⟨_, _, _, _, _, _, _, _, _, _, _, _, _, _, _, _, _, _, rfl, _⟩ := h; rfl) fun cdv A outer s0 H E hr => ⟨_,
    (pss_cons (ps_if (pt_cmpR (op_eqK K hr) (pv 1) (pe_tup pa_nil) (nomark _))
    (pss_one ps_never)
    pss_nil)
    (pss_cons (ps_set (i := 2) sc_Kept_cut.nd rfl (Or.inl rfl) (pe_mcal cK.c m_spots hr (pv 0) (pa_cons (pv 1) (pa_cons (pv 1) pa_nil))))
    (pss_cons (ps_expr (pe_popK K (pe_fldK K (pe_ix (ix_listK K) (pv 2) (pe_un un_neg pe_int) (fun _ _ => rfl))) (pe_ix (ix_tupK K) (pv 1) (pe_un un_neg pe_int) (fun _ _ => rfl))))
    (pss_one (ps_fldK K (pv 0) (pe_mcal cK.c m_look hr (pv 0) (pa_cons (pe_slice (sl_listK K) (pv 2) po_none (po_some (pe_un un_neg pe_int))) (pa_cons (pe_slice (sl_tupK K) (pv 1) po_none (po_some (pe_un un_neg pe_int))) pa_nil))) rfl))))), fun as fp post h kn => ?_⟩
  obtain ⟨g, ll, b, N, T, X, last, q, i, hb, hnu, hsp, hfit, hX, hi, hq, hkz, hz, rfl, rfl, rfl⟩ := h
  have hkid := List.getElem?_eq_getElem hi
  have hXi : ST.at (q ++ [i]) T = some X.kids[i] := by
    rw [ST.at_app, hX]
    cases X
    show ST.at [i] _ = _
    rw [ST.at]
    refine (congrArg (Option.bind · _) hkid).trans ?_
    show ST.at [] _ = _
    rw [ST.at]
  refine sdm_seq (sdm_if (b := false) (EvT.to (et_test (ev_op ev_v (Ev.to (y := .d (plD [])) (ev_tup eds_nil (by decide)) rfl) rop_top)) (by simp)) (fun h => nomatch h) fun _ => sdm_next ?_)
  refine sdm_seq' (M := fun ss => ∃ ls, ¬ (HA.kept CK C g ll b T last).fp ls ∧ ss = [KpS CK C g ll b T last, .a (.d (plD (q ++ [i]))), .a (.o (HA.refs ls (refsTo T (q ++ [i]) (q ++ [i]).length)) (.ref ls))]) (sdm_setM (evm_spots rfl rfl ev_v ev_v hXi (by simp; omega)) fun ss' v k ⟨l, e1, e2, e3, e4⟩ hkf => by subst e1 e2 e3; exact ⟨l, e4, rfl⟩) ?_
  rintro ss ⟨ls, hls, rfl⟩
  have ea : X.nd.a = X.a := by cases X; rfl
  have el : X.nd.l = X.l := by cases X; rfl
  have hXm := ST.at_mem hX
  have hlf : (HA.kept CK C g ll b T last).fp X.l := .inr (.inr ⟨X.nd, hXm, .inr el.symm⟩)
  obtain ⟨hnu', hsub⟩ := nu_cut hnu hX hi
  have hks : ∀ k ∈ X.kids.eraseIdx i, k ∈ X.kids := fun k hk => List.mem_of_mem_eraseIdx hk
  have hfits : ST.Fits b (X.kids.eraseIdx i) := (ST.Fits_iff b _).mpr fun k hk => (ST.Fits_iff b _).mp (hfit.at hX).kids k (hks k hk)
  obtain ⟨hoff, hal⟩ := alike_kids hfit hX hfits
  have hdoc : (ST.put (X.withK (X.kids.eraseIdx i)) q T).doc = Doc.put (.mk X.name (ST.docs (X.kids.eraseIdx i))) q T.doc := by
    rw [ST.put_doc]
    unfold ST.withK
    rw [ST.doc]
  have hlstX : ∀ {ss : List Sl}, ss[0]? = some (KpS CK C g ll b T last) → ∀ B, Kn B ss → B X.l = some (.lst (X.kids.map fun k => V.ref k.a)) := fun h0 B kn => by
    obtain ⟨dx, _, h2⟩ := kept_node (kn 0 _ _ h0) hX
    rw [el] at h2
    rw [h2]
    cases X
    simp [ST.nd, ST.kids]
  refine sdm_seq' (M := fun ss => ss = [KpS CK C g ll b (ST.put (X.withK (X.kids.eraseIdx i)) q T) last, .a (.d (plD (q ++ [i]))), .a (.o (HA.refs ls (refsTo T (q ++ [i]) (q ++ [i]).length)) (.ref ls))]) (sdm_popO (l := X.l) (i := i) (Ev.to (ev_sbelow (n := X.nd) cS (Ev.to (ev_ixO (x := .w (.ref X.a)) (ev_o (i := 2)) (ev_neg ev_int) fun B kn => ⟨_, _, kn 2 _ _ rfl, ?_, rfl⟩) (by rw [ea])) fun B kn => kept_node (kn 0 _ _ rfl) hX) (by rw [el])) (ev_lastp ev_v) (fun B kn => ⟨_, hlstX rfl B kn, by rw [List.length_map]; exact hi, by rw [List.length_map]; omega⟩) (.inl hlf) fun F vs kn hF => ⟨_, ?_, rfl⟩) ?_
  · rw [refsTo_init]
    have hg := refsTo_get (T := T) (q := q) (n := q.length) (Nat.le_refl _) (by rw [List.take_length]; exact hX)
    have hlen : (refsTo T q q.length).length = q.length + 1 := refsTo_len T q q.length
    have : ((refsTo T q q.length ++ [V.ref (adr T (q ++ [i]))])[q.length]?) = some (V.ref X.a) := by rw [List.getElem?_append_left (by omega)]; exact hg
    have e : ixN (refsTo T q q.length ++ [V.ref (adr T (q ++ [i]))]).length (-2) = some q.length := by
      unfold ixN
      rw [List.length_append, hlen, List.length_singleton, if_neg (by decide), if_pos (by omega)]
      congr 1
      omega
    show atI _ (-2) = _
    unfold atI
    rw [e]
    exact this
  · rw [hlstX rfl F kn] at hF
    cases hF
    rw [eraseIdx_map]
    refine .cons (.o (kept_kids (kn 0 _ _ rfl) hnu hsp hX fun nd hnd => ?_)) (.cons (.d _) (.cons (.o ?_) .nil))
    · obtain ⟨k, hk, hx⟩ := ST.ndss_of hnd
      exact kid_nd (kn 0 _ _ rfl).2 hnu hX (ST.ndss_mem (hks k hk) hx)
    · have hl0 := kn 2 _ _ rfl
      show upd F X.l _ ls = _
      rw [upd_ne (by rintro rfl; exact hls hlf)]
      exact hl0
  rintro ss rfl
  have hfpT : ∀ a, (HA.kept CK C g ll b (ST.put (X.withK (X.kids.eraseIdx i)) q T) last).fp a → (HA.kept CK C g ll b T last).fp a := fun a h => by
    rcases h with e | e | ⟨n, hn, e⟩
    · exact .inl e
    · exact .inr (.inl e)
    · obtain ⟨x', h1, h2, h3⟩ := hsub n hn
      exact .inr (.inr ⟨x', h1, by rw [← h2, ← h3]; exact e⟩)
  have hsp' : Sp (ST.put (X.withK (X.kids.eraseIdx i)) q T) g ll := fun n hn => by
    obtain ⟨x', h1, h2, h3⟩ := hsub n hn
    rw [h2, h3]
    exact hsp x' h1
  rw [← hdoc] at hz ⊢
  refine sdm_last (Qt := fun T' => T'.doc = (ST.put (X.withK (X.kids.eraseIdx i)) q T).doc ∧ T'.Fit b ∧ SameA (ST.put (X.withK (X.kids.eraseIdx i)) q T) T') cK (.inl (.inl rfl)) (evm_look rfl (fun s hs xs e => ?_) (EvAE.imp (evae_init (x := .d (plD q)) (ev_o (i := 2)) (fun B kn => kn 2 _ _ rfl) (fun e => ?_) (ev_init ev_v)) fun as ⟨ls', e, B, knB, hB⟩ => ⟨ls', ?_, fun hf => HA.kept_al (knB 0 _ _ rfl) _ hf hB⟩) hb hnu' hsp' hoff (ST.put_at _ hX) (by omega) hz hal fun a h => .inl (hfpT a h)) fun T' l ⟨q1, q2, q3⟩ hs' => ⟨rfl, l, T', q1, q2, q3.nu hnu', hs', rfl⟩
  · subst e
    simp at hs
  · have := congrArg List.length e
    rw [refsTo_len] at this
    simp at this
  · rw [e, refsTo_init, List.dropLast_concat, refsTo_put (z := X.withK (X.kids.eraseIdx i)) hX rfl]
end
end G
namespace G
open PySem L2
open Evl (Ex)
section
variable {K : PySem.W.Frag} {CK C g ll : Addr} {b : M} {T X : ST} {last : List (List Nat)} {F F0 H : Hp} {ss : List Sl} {σ : L2.St} {fp : Addr → Prop} {te t1 t2 to : TE} {E : XK} {t : TA} {d : D} {xs : List D}
/-- one more object is frozen -/
theorem Ok.newF {p : Addr} {o : HO} (ok : Ok K F F H ss σ) (hp : H p = none) : Ok K (upd F p o) (upd F p o) (upd H p o) ss σ := by
  have eN : Ex H (upd H p o) := Evl.Ex.new hp
  have hF : F p = none := Evl.fresh_back ok.ex hp
  have exF : Ex F (upd F p o) := Evl.Ex.new hF
  have ex2 : Ex (upd F p o) (upd H p o) := fun b o' z => by
    by_cases hb : b = p
    · subst hb; rw [upd_same] at z ⊢; exact z
    · rw [upd_ne hb] at z ⊢; exact ok.ex _ _ z
  refine ⟨Ex.refl _, ex2, ok.len, fun i s hi => ?_, ok.sep⟩
  obtain ⟨o', ho', qs⟩ := (ok.mono eN).at_ i s hi
  refine ⟨o', ho', ?_⟩
  cases s with
  | no => trivial
  | a x =>
    cases x with
    | d x => exact qs
    | l xs => exact qs
    | r xs => obtain ⟨a, vs, r, h1, h2⟩ := qs; exact ⟨a, vs, r, Evl.ex_l exF h1, h2⟩
    | w u => exact qs
    | o kk u => exact ⟨qs.1, kk.ex exF qs.2⟩
  | own xs =>
    obtain ⟨_, ho1, a1, vs1, r1, g2, g3, _⟩ := ok.at_ i _ hi
    obtain ⟨a, vs, r, h2, h3, h4⟩ := qs
    subst r r1
    rw [ho'] at ho1
    cases ho1
    refine ⟨_, vs, rfl, ?_, h3, h4⟩
    rw [upd_ne (by rintro rfl; rw [g3] at hp; cases hp)]
    exact g2
/-- all that never changes is frozen -/
theorem Ok.rebT (ok : Ok K F F H ss σ) : ∃ F', Ex F F' ∧ Ok K F' F' H ss σ ∧ TEx H F' ∧ ∀ a ys, F a = none → H a = some (.lst ys) → F' a = none := by
  classical
  let F' : Hp := fun c => if ∃ o, H c = some o ∧ isT o = true then H c else F c
  have f1 : ∀ c o, H c = some o → isT o = true → F' c = some o := fun c o h t => by
    show (if _ then _ else _) = _
    rw [if_pos ⟨o, h, t⟩]
    exact h
  have f2 : ∀ c, (¬ ∃ o, H c = some o ∧ isT o = true) → F' c = F c := fun c h => if_neg h
  have e1 : Ex F F' := fun c o h => by
    by_cases z : ∃ o, H c = some o ∧ isT o = true
    · obtain ⟨o', z1, z2⟩ := z
      rw [f1 c o' z1 z2, ← z1]
      exact ok.ex _ _ h
    · rw [f2 c z]; exact h
  have e2 : Ex F' H := fun c o h => by
    by_cases z : ∃ o, H c = some o ∧ isT o = true
    · obtain ⟨o', z1, z2⟩ := z
      rw [f1 c o' z1 z2, ← z1] at h
      exact h
    · rw [f2 c z] at h; exact ok.ex _ _ h
  have e3 : ∀ a ys, F a = none → H a = some (.lst ys) → F' a = none := fun a ys h1 h2 => by
    rw [f2 a fun ⟨o, z1, z2⟩ => by rw [h2] at z1; cases z1; cases z2]
    exact h1
  refine ⟨F', e1, ⟨Ex.refl _, e2, ok.len, fun i s hi => ?_, ok.sep⟩, fun c u t h => f1 c u h t, e3⟩
  obtain ⟨o', ho', qs⟩ := ok.at_ i s hi
  refine ⟨o', ho', ?_⟩
  cases s with
  | no => trivial
  | a x =>
    cases x with
    | d x => exact qs
    | l xs => exact qs
    | r xs => obtain ⟨a, vs, r, h1, h2⟩ := qs; exact ⟨a, vs, r, Evl.ex_l e1 h1, h2⟩
    | w u => exact qs
    | o kk u => exact ⟨qs.1, kk.ex e1 qs.2⟩
  | own xs =>
    obtain ⟨a, vs, r, h2, h3, h4⟩ := qs
    exact ⟨a, vs, r, e3 a vs h2 h3, h3, h4⟩
/-- l + e, e an expression that changes -/
theorem evm_catL {P1 P : List Sl → V → HA → Prop} (h1 : EvN K t1 ss xs) (h2 : EvM K fp F0 t2 ss P1) (n : ∀ ss' v k, P1 ss' v k → ∃ ys k', k = (HA.lst ys v).and k' ∧ xs.length + ys.length ≤ 100000 ∧ ∀ l, (∃ B, k'.φ B ∧ B l = none) → P ss' (.ref l) ((HA.lst (xs ++ ys) (.ref l)).and k')) :
    EvM K fp F0 (tOp rCat t1 t2) ss P := fun F H σ Q fr ok q =>
  h1 F F H σ _ ok fun a vs H1 ha e1 hv hl => h2 F H1 σ _ fr (ok.mono e1) fun ss' v k F1 H' hp hk hkf f1 ok1 tx rs1 => by
    obtain ⟨F', ex1, ok', tx1, hr1⟩ := ok1.rebT
    have f' := f1.trans' (.of_ex ex1)
    have hk := k.ex ex1 hk
    have rs : Rest F H1 F' H' := fun c ws y1 y2 => ⟨(rs1 c ws y1 y2).1, hr1 c ws (rs1 c ws y1 y2).2 (rs1 c ws y1 y2).1⟩
    obtain ⟨ys, k', rfl, hz, n⟩ := n ss' v k hp
    obtain ⟨⟨l2, vs2, rfl, g1, g2⟩, hk'⟩ := hk
    have hFa : F a = none := Evl.fresh_back ok.ex ha
    obtain ⟨z1, z2⟩ := rs a vs hFa hv
    refine ⟨a, l2, vs, vs2, rfl, rfl, z1, ok'.ex _ _ g1, Evl.sz_of (by rw [hl.length, g2.length]; exact hz), fun p hp => ?_⟩
    have hF' : F' p = none := Evl.fresh_back ok'.ex hp
    have e3 : Ex H' (upd H' p (.lst (vs ++ vs2))) := Evl.Ex.new hp
    have exF : Ex F' (upd F' p (.lst (vs ++ vs2))) := Evl.Ex.new hF'
    have ok2 := ok'.newF (o := .lst (vs ++ vs2)) hp
    have tF : TEx H' (upd F' p (.lst (vs ++ vs2))) := tx1.trans (.of exF)
    refine q ss' (.ref p) _ (upd F' p (.lst (vs ++ vs2))) _ (n p ⟨F', hk', hF'⟩) ⟨⟨p, vs ++ vs2, rfl, upd_same, ?_⟩, k'.ex exF hk'⟩ (fun c hc => ?_) (f'.trans' (.of_ex exF)) ok2 (((TEx.of e1).trans tx).trans (.of e3)) fun c ws y1 y2 => ?_
    · exact (AtL.mono tF _ (AtL.mono tx _ hl)).append (AtL.ex exF g2)
    · rcases hc with hc | hc
      · cases hc
        exact .inr (f'.d _ hF')
      · exact hkf c (.inr hc)
    · obtain ⟨x1, x2⟩ := rs c ws y1 (e1 _ _ y2)
      refine ⟨e3 _ _ x1, ?_⟩
      rw [upd_ne (by rintro rfl; rw [x1] at hp; cases hp)]
      exact x2
/-- o.m(..), data -/
theorem ev_meth {C a : Addr} {m : Str} {k0 : HA} {as : List A} {pre : List A → R → Prop} (ho : Ev K to ss (.w (.ref a))) (h : EvAs K t ss as) (hm : ∀ B, Kn B ss → ∃ dx fs, B a = some (.ins C dx fs) ∧ fs.lookup m = none) (hs : ∀ B, Kn B ss → k0.φ B) (hp : pre (.o k0 (.ref a) :: as) (.d d)) :
    Ev K (tMeth C m (spD K pre) [] E to t) ss (.d d) := fun B F H σ Q ok q =>
  ho B F H σ _ ok fun u H1 e1 r1 => by
    cases r1
    obtain ⟨dx, fs, h1, h2⟩ := hm B ok.kn
    have eB := (ok.bf.trans ok.ex).trans e1
    exact ⟨a, dx, fs, rfl, eB _ _ h1, h2, h B F H1 σ _ (ok.mono e1) fun vs H2 e2 r => ⟨.o k0 (.ref a) :: as, .d d, ⟨.ref a, vs ++ [], rfl, ⟨rfl, k0.ex (eB.trans e2) (hs B ok.kn)⟩, by rw [List.append_nil]; exact r⟩, hp, fun v H3 e3 hv => q v H3 ((e1.trans e2).trans e3) hv⟩⟩
theorem evn_meth {C a : Addr} {m : Str} {k0 : HA} {as : List A} {pre : List A → R → Prop} (ho : Ev K to ss (.w (.ref a))) (h : EvAs K t ss as) (hm : ∀ B, Kn B ss → ∃ dx fs, B a = some (.ins C dx fs) ∧ fs.lookup m = none) (hs : ∀ B, Kn B ss → k0.φ B) (hp : pre (.o k0 (.ref a) :: as) (.l xs)) :
    EvN K (tMeth C m (spD K pre) [] E to t) ss xs := fun B F H σ Q ok q =>
  ho B F H σ _ ok fun u H1 e1 r1 => by
    cases r1
    obtain ⟨dx, fs, h1, h2⟩ := hm B ok.kn
    have eB := (ok.bf.trans ok.ex).trans e1
    exact ⟨a, dx, fs, rfl, eB _ _ h1, h2, h B F H1 σ _ (ok.mono e1) fun vs H2 e2 r => ⟨.o k0 (.ref a) :: as, .l xs, ⟨.ref a, vs ++ [], rfl, ⟨rfl, k0.ex (eB.trans e2) (hs B ok.kn)⟩, by rw [List.append_nil]; exact r⟩, hp, fun a' vs' H3 ha e3 g1 g2 => q a' vs' H3 (Evl.fresh_back (e1.trans e2) ha) ((e1.trans e2).trans e3) g1 g2⟩⟩
end
end G
namespace G
open PySem L2
open Evl (Ex)
section
variable {P : Program} {w : World} {K : PySem.W.Frag} {mg : Str → Option Value} {base : Heap} {f CK C : Addr} {fd : FuncData}
/-! ### put -/
def putD (X : ST) (i : Nat) (new : Doc) : Doc := .mk X.name ((ST.docs X.kids).take i ++ [new] ++ (ST.docs X.kids).drop i)
def prePut (CK C : Addr) (as : List A) (fp : Addr → Prop) (post : RM) : Prop := ∃ (g ll : Addr) (b : M) (N : Nat) (T X : ST) (last : List (List Nat)) (q : List Nat) (i : Nat) (new : Doc), b.Ok N ∧ T.Nu ∧ Sp T g ll ∧ T.Fit b ∧ ST.at q T = some X ∧ i ≤ X.kids.length ∧ q.length ≤ 100 ∧ X.kids.length ≤ 900 ∧ T.doc.ht ≤ 20 ∧ T.doc.size ≤ 100 ∧ new.ht ≤ 20 ∧ new.size ≤ 100 ∧ (Doc.put (putD X i new) q T.doc).size ≤ 900 ∧
  as = [.o (HA.kept CK C g ll b T last) (.ref g), .d (plD (q ++ [i])), .d new.d] ∧ fp = (HA.kept CK C g ll b T last).fp ∧ post = postK CK C g b (Doc.put (putD X i new) q T.doc) (new.up (q ++ [i]) ++ climb b T.doc (Doc.put (putD X i new) q T.doc) q q.length)
theorem sc_Kept_put : FnScope ["self", "place", "new", "spots", "below", "size"] ["self", "place", "new"] (defScope s_Kept_put) := ⟨rfl, rfl, rfl, by decide +kernel, rfl, by decide +kernel, by decide +kernel⟩
theorem ok_put (F : FnP K "put" "Kept.put" s_Kept_put f fd) (T : Txt mg) (cK : ClsK K CK) (cS : ClsS K C) (m_spots : MCal P w K mg base CK "spots" 1 ["self", "place", "asked"] (spM K (preSpots CK C))) (m_look : MCal P w K mg base CK "look" 3 ["self", "spots", "place"] (spM K (preLook CK C)))
    (m_now : MCal P w K mg base CK "now" 31 ["self"] (spD K (preNow CK C))) (c_spot_of : Cal P w K mg base "spot_of" 32 ["machine", "doc"] (spM K (preSpotOf C 30))) (c_size_of : Cal P w K mg base "size_of" 20 ["doc"] (spD K (preSize 20))) (c_upward_places : Cal P w K mg base "upward_places" 20 ["doc", "place"] (spD K (preUp 20))) :
    FnOk P w K mg base CX0 33 f fd ["self", "place", "new"] (spM K (prePut CK C)) := by
  refine fnM F sc_Kept_put (n := 3) rfl (fun as fp post h => by obtain ⟨_, _, _, _, _, _, _, _, _, _, _, _, _, _, _, _, _, _, _, _, _, _, _, rfl, _⟩ := h; rfl) fun cdv A outer s0 H E hr => ⟨_,
    (pss_cons (ps_if (pt_cmpR (op_eqK K hr) (pv 1) (pe_tup pa_nil) (nomark _))
    (pss_one ps_never)
    pss_nil)
    (pss_cons (ps_set (i := 3) sc_Kept_put.nd rfl (Or.inl rfl) (pe_mcal cK.c m_spots hr (pv 0) (pa_cons (pe_slice (sl_tupK K) (pv 1) po_none (po_some (pe_un un_neg pe_int))) (pa_cons (pv 1) pa_nil))))
    (pss_cons (ps_set (i := 4) sc_Kept_put.nd rfl (Or.inl rfl) (pe_fldK K (pe_ix (ix_listK K) (pv 3) (pe_un un_neg pe_int) (fun _ _ => rfl))))
    (pss_cons (ps_if (PW.pt (pw_or (pt_cmpR op_lt (pe_ix (ix_tupK K) (pv 1) (pe_un un_neg pe_int) (fun _ _ => rfl)) pe_int (nomark _)) (pw_or1 (pt_cmpR op_gt (pe_ix (ix_tupK K) (pv 1) (pe_un un_neg pe_int) (fun _ _ => rfl)) (pe_callB (call_lenK K) (by rfl) T.len PySem.boot_len (pa_cons (pv 4) pa_nil)) (nomark _)))))
    (pss_one ps_never)
    pss_nil)
    (pss_cons (ps_set (i := 5) sc_Kept_put.nd rfl (Or.inl rfl) (pe_op op_add (pe_cal c_size_of hr (by rfl) (pa_cons (pe_mcal0 cK.c m_now hr (pv 0)) pa_nil)) (pe_cal c_size_of hr (by rfl) (pa_cons (pv 2) pa_nil))))
    (pss_cons (ps_if (pt_cmpR op_gt (pv 5) (pe_gI T.PLACES (by rfl)) (nomark _))
    (pss_one ps_never)
    pss_nil)
    (pss_cons (ps_expr (pe_ins K (pv 4) (pe_ix (ix_tupK K) (pv 1) (pe_un un_neg pe_int) (fun _ _ => rfl)) (pe_cal c_spot_of hr (by rfl) (pa_cons (pe_fldK K (pv 0)) (pa_cons (pv 2) pa_nil)))))
    (pss_one (ps_fldK K (pv 0) (pe_op op_cat (pe_cal c_upward_places hr (by rfl) (pa_cons (pv 2) (pa_cons (pv 1) pa_nil))) (pe_mcal cK.c m_look hr (pv 0) (pa_cons (pv 3) (pa_cons (pe_slice (sl_tupK K) (pv 1) po_none (po_some (pe_un un_neg pe_int))) pa_nil)))) rfl))))))))), fun as fp post h kn => ?_⟩
  obtain ⟨g, ll, b, N, T, X, last, q, i, new, hb, hnu, hsp, hfit, hX, hi, hq, hkz, hTh, hTz, hnh, hnz, hz, rfl, rfl, rfl⟩ := h
  refine sdm_seq (sdm_if (b := false) (EvT.to (et_test (ev_op ev_v (Ev.to (y := .d (plD [])) (ev_tup eds_nil (by decide)) rfl) rop_top)) (by simp)) (fun h => nomatch h) fun _ => sdm_next ?_)
  refine sdm_seq' (M := fun ss => ∃ ls, ¬ (HA.kept CK C g ll b T last).fp ls ∧ ss = [KpS CK C g ll b T last, .a (.d (plD (q ++ [i]))), .a (.d new.d), .a (.o (HA.refs ls (refsTo T q q.length)) (.ref ls)), .no, .no]) (sdm_setM (evm_spots rfl rfl (ev_init ev_v) ev_v hX (by omega)) fun ss' v k ⟨l, e1, e2, e3, e4⟩ hkf => by subst e1 e2 e3; exact ⟨l, e4, rfl⟩) ?_
  rintro ss ⟨ls, hls, rfl⟩
  have ea : X.nd.a = X.a := by cases X; rfl
  have el : X.nd.l = X.l := by cases X; rfl
  have hXm := ST.at_mem hX
  have hlf : (HA.kept CK C g ll b T last).fp X.l := .inr (.inr ⟨X.nd, hXm, .inr el.symm⟩)
  have hlstX : ∀ {ss : List Sl}, ss[0]? = some (KpS CK C g ll b T last) → ∀ B, Kn B ss → B X.l = some (.lst (X.kids.map fun k => V.ref k.a)) := fun h0 B kn => by
    obtain ⟨dx, _, h2⟩ := kept_node (kn 0 _ _ h0) hX
    rw [el] at h2
    rw [h2]
    cases X
    simp [ST.nd, ST.kids]
  refine sdm_seq (sdm_setW (v := .ref X.l) (Ev.to (ev_sbelow (n := X.nd) cS (Ev.to (ev_ixO (x := .w (.ref X.a)) (ev_o (i := 3)) ev_m1 fun B kn => ⟨_, _, kn 3 _ _ rfl, refsTo_last (by rw [List.take_length]; exact hX), rfl⟩) (by rw [ea])) fun B kn => kept_node (kn 0 _ _ rfl) hX) (by rw [el])) ?_)
  refine sdm_seq (sdm_if (b := false) (EvT.to (et_or (et_test (ev_op (x := .d (nat i)) (ev_lastp ev_v) ev_int rop_ib)) fun _ => et_test (ev_op (x := .d (nat i)) (ev_lastp ev_v) (ev_lenO (n := X.kids.length) (ev_v (i := 4)) fun B kn => ⟨_, hlstX rfl B kn, by rw [List.length_map]⟩) rop_ib)) ?_) (fun h => nomatch h) fun _ => sdm_next ?_)
  · rw [Bool.or_eq_false_iff, decide_eq_false_iff_not, decide_eq_false_iff_not]
    omega
  refine sdm_seq (sdm_set (d := nat (T.doc.size + new.size)) (ev_addN (ev_call (ea_cons (ev_meth (k0 := HA.kept CK C g ll b T last) (ev_o rfl) ea_nil (fun B kn => kept_meth (kn 0 _ _ rfl) (by decide) (by decide) (by decide)) (fun B kn => kn 0 _ _ rfl) ⟨g, ll, b, T, last, by omega, by omega, rfl, rfl⟩) ea_nil) ⟨T.doc, by omega, rfl, rfl⟩) (ev_call (ea_cons ev_v ea_nil) ⟨new, by omega, rfl, rfl⟩)) ?_)
  refine sdm_seq (sdm_if (b := false) (EvT.to (et_test (ev_op (x := .d (nat (T.doc.size + new.size))) ev_v ev_int rop_ib)) ?_) (fun h => nomatch h) fun _ => sdm_next ?_)
  · rw [decide_eq_false_iff_not]
    omega
  let ks' : ST → List ST := fun n => X.kids.take i ++ [n] ++ X.kids.drop i
  refine sdm_seq' (M := fun ss => ∃ n : ST, n.doc = new ∧ n.Fit b ∧ n.Nu ∧ (∀ x ∈ n.nds, ∀ x' ∈ T.nds, x.a ≠ x'.a ∧ x.l ≠ x'.l) ∧ (∀ a, (HA.spot C n).fp a → H a = none ∧ ¬ (HA.kept CK C g ll b T last).fp a ∧ a ≠ ls) ∧ ss = [KpS CK C g ll b (ST.put (X.withK (ks' n)) q T) last, .a (.d (plD (q ++ [i]))), .a (.d new.d), .a (.o (HA.refs ls (refsTo T q q.length)) (.ref ls)), .a (.w (.ref X.l)), .a (.d (nat (T.doc.size + new.size)))])
    (sdm_insM (l := X.l) (i := i) (P := fun ss' v k => ∃ n : ST, n.doc = new ∧ n.Fit b ∧ n.Nu ∧ v = .ref n.a ∧ k = HA.spot C n ∧ (∀ a, (HA.spot C n).fp a → (¬ (HA.kept CK C g ll b T last).fp a ∧ a ≠ ls) ∧ H a = none) ∧ ss' = [KpS CK C g ll b T last, .a (.d (plD (q ++ [i]))), .a (.d new.d), .a (.o (HA.refs ls (refsTo T q q.length)) (.ref ls)), .a (.w (.ref X.l)), .a (.d (nat (T.doc.size + new.size)))]) (ev_v (i := 4)) (ev_lastp ev_v) (by omega)
      (evm_call (ea_cons (ev_kmachine cK) (ea_cons ev_v ea_nil)) ⟨fun _ => False, _, ⟨b, N, new, hb, by omega, by omega, rfl, rfl, rfl⟩, fun a z => z.elim, fun B kn a z => z.elim, fun v k ⟨n, h1, h2, h3, h4, h5⟩ F F' kn fr hk hkf hd => ⟨_, sr_refl _ rfl fun i k u hi => k.fr fr (kn i k u hi) fun a _ y => y, n, h1, h2, h3, h4, h5, fun a ha => ?_, rfl⟩⟩)
      (fun B kn => ⟨_, hlstX rfl B kn⟩) (fun ss' v k ⟨n, _, _, _, _, _, _, e⟩ B kn => ⟨_, hlstX (by rw [e]; rfl) B kn, by rw [List.length_map]; omega⟩) (.inl hlf)
      fun ss' v k ⟨n, h1, h2, h3, h4, h5, h6, h7⟩ hkf F vs kn hk hF => ?_) ?_
  · subst h5
    rcases hkf a ha with e | e
    · exact e.elim
    · exact ⟨⟨fun z => HA.kept_al (kn 0 _ _ rfl) a z e, fun z => by
        have h3 : F ls = _ := kn 3 _ _ rfl
        rw [z, h3] at e
        cases e⟩, hd a e⟩
  · subst h4 h5 h7
    rw [hlstX rfl F kn] at hF
    cases hF
    have hks : ((X.kids.map fun k => V.ref k.a).take i ++ [V.ref n.a] ++ (X.kids.map fun k => V.ref k.a).drop i) = (ks' n).map fun k => V.ref k.a := by
      simp [ks']
    rw [hks]
    have hdis : ∀ x ∈ n.nds, ∀ x' ∈ T.nds, x.a ≠ x'.a ∧ x.l ≠ x'.l := fun x hx x' hx' => ⟨fun e => (h6 x.a ⟨x, hx, .inl rfl⟩).1.1 (.inr (.inr ⟨x', hx', .inl e⟩)), fun e => (h6 x.l ⟨x, hx, .inr rfl⟩).1.1 (.inr (.inr ⟨x', hx', .inr e⟩))⟩
    refine ⟨_, .cons (.o (kept_kids (kn 0 _ _ rfl) hnu hsp hX fun nd hnd => ?_)) (.cons (.d _) (.cons (.d _) (.cons (.o ?_) (.cons (.w _) (.cons (.d _) .nil))))), n, h1, h2, h3, hdis, fun a ha => ⟨(h6 a ha).2, (h6 a ha).1⟩, rfl⟩
    · obtain ⟨k, hk', hx⟩ := ST.ndss_of hnd
      have hk' : k ∈ X.kids.take i ++ [n] ++ X.kids.drop i := hk'
      simp only [List.mem_append, List.mem_singleton] at hk'
      rcases hk' with (hk' | rfl) | hk'
      · exact kid_nd (kn 0 _ _ rfl).2 hnu hX (ST.ndss_mem (List.mem_of_mem_take hk') hx)
      · exact ⟨hk nd hx, by rw [← el]; exact (hdis nd hx _ hXm).2⟩
      · exact kid_nd (kn 0 _ _ rfl).2 hnu hX (ST.ndss_mem (List.mem_of_mem_drop hk') hx)
    · have hl0 := kn 3 _ _ rfl
      show upd F X.l _ ls = _
      rw [upd_ne (by rintro rfl; exact hls hlf)]
      exact hl0
  rintro ss ⟨n, hnd, hnf, hnn, hdis, hnew, rfl⟩
  obtain ⟨hnu', hsub⟩ := nu_ins (i := i) hnu hnn hX hdis
  have hfits : ST.Fits b (ks' n) := (ST.Fits_iff b _).mpr fun k hk => by
    have hk : k ∈ X.kids.take i ++ [n] ++ X.kids.drop i := hk
    simp only [List.mem_append, List.mem_singleton] at hk
    rcases hk with (hk | rfl) | hk
    · exact (ST.Fits_iff b _).mp (hfit.at hX).kids k (List.mem_of_mem_take hk)
    · exact hnf
    · exact (ST.Fits_iff b _).mp (hfit.at hX).kids k (List.mem_of_mem_drop hk)
  obtain ⟨hoff, hal⟩ := alike_kids hfit hX hfits
  have hdoc : (ST.put (X.withK (ks' n)) q T).doc = Doc.put (putD X i new) q T.doc := by
    rw [ST.put_doc]
    unfold ST.withK putD
    rw [ST.doc, ST.docs_map, ST.docs_map, ← hnd]
    simp [ks']
  have hnewS : ∀ x ∈ n.nds, (H x.a = none ∧ ¬ (HA.kept CK C g ll b T last).fp x.a) ∧ H x.l = none ∧ ¬ (HA.kept CK C g ll b T last).fp x.l := fun x hx => ⟨⟨(hnew _ ⟨x, hx, .inl rfl⟩).1, (hnew _ ⟨x, hx, .inl rfl⟩).2.1⟩, (hnew _ ⟨x, hx, .inr rfl⟩).1, (hnew _ ⟨x, hx, .inr rfl⟩).2.1⟩
  have hfpT : ∀ a, (HA.kept CK C g ll b (ST.put (X.withK (ks' n)) q T) last).fp a → (HA.kept CK C g ll b T last).fp a ∨ H a = none := fun a h => by
    rcases h with e | e | ⟨n', hn, e⟩
    · exact .inl (.inl e)
    · exact .inl (.inr (.inl e))
    · rcases hsub n' hn with ⟨x', h1, h2, h3⟩ | h1
      · exact .inl (.inr (.inr ⟨x', h1, by rw [← h2, ← h3]; exact e⟩))
      · exact .inr (hnew a ⟨n', h1, e⟩).1
  have hsp' : Sp (ST.put (X.withK (ks' n)) q T) g ll := fun n' hn => by
    rcases hsub n' hn with ⟨x', h1, h2, h3⟩ | h1
    · rw [h2, h3]
      exact hsp x' h1
    · exact ⟨fun e => (hnewS n' h1).1.2 (.inl e), fun e => (hnewS n' h1).2.2 (.inr (.inl e))⟩
  have hls' : ¬ (HA.kept CK C g ll b (ST.put (X.withK (ks' n)) q T) last).fp ls := fun h => by
    rcases h with e | e | ⟨n', hn, e⟩
    · exact hls (.inl e)
    · exact hls (.inr (.inl e))
    · rcases hsub n' hn with ⟨x', h1, h2, h3⟩ | h1
      · exact hls (.inr (.inr ⟨x', h1, by rw [← h2, ← h3]; exact e⟩))
      · exact (hnew ls ⟨n', h1, e⟩).2.2 rfl
  rw [← hdoc] at hz ⊢
  refine sdm_last (Qt := fun T' => T'.doc = (ST.put (X.withK (ks' n)) q T).doc ∧ T'.Fit b ∧ SameA (ST.put (X.withK (ks' n)) q T) T') cK (.inl (.inl rfl)) (evm_catL (xs := (new.up (q ++ [i])).map plD) (evn_call (ea_cons ev_v (ea_cons ev_v ea_nil)) ⟨new, q ++ [i], by omega, by simp; omega, by omega, rfl, rfl⟩) (evm_look rfl (fun s hs xs e => ?_) (EvAE.imp (evae_of (ea_cons ev_v (ea_cons (ev_init ev_v) ea_nil))) fun as e => ⟨ls, by rw [e, refsTo_put (z := X.withK (ks' n)) hX rfl], hls'⟩) hb hnu' hsp' hoff (ST.put_at _ hX) (by omega) hz hal fun a h => hfpT a h) fun ss' v k ⟨T', rest', q1, q2, q3, q4, q5, q6⟩ => ⟨_, _, q4, ?_, fun l ⟨B, hB, hl⟩ => ⟨T', rest', q1, q2, fun a e hf => ?_, by rw [List.map_append], q5, q6⟩⟩) fun T' l ⟨q1, q2, q3⟩ hs' => ⟨rfl, l, T', q1, q2, q3.nu hnu', hs', rfl⟩
  · subst e
    simp at hs
  · have h1 := climb_len b T.doc (ST.put (X.withK (ks' n)) q T).doc q q.length
    rw [List.length_map, List.length_map, Doc.up_len]
    omega
  · cases e
    exact HA.kept_al hB _ hf hl
end
end G
namespace G
open PySem L2
open Evl (Ex)
mutual
theorem D.eqv_self : ∀ d : D, PyData.eqv d.toP d.toP = true
  | .non => by simp [D.toP, PyData.eqv]
  | .bl b => by simp [D.toP, PyData.eqv]
  | .int i => by simp [D.toP, PyData.eqv]
  | .str s => by simp [D.toP, PyData.eqv]
  | .tu f l => by rw [D.toP, PyData.eqv]; exact D.eqvs_self l
theorem D.eqvs_self : ∀ l : List D, PyData.eqvAll (D.toPs l) (D.toPs l) = true
  | [] => by rw [D.toPs, PyData.eqvAll]
  | d :: l => by rw [D.toPs, PyData.eqvAll, D.eqv_self d, D.eqvs_self l]; rfl
end
theorem strs_lay : ∀ l : List Str, (∀ x ∈ l, PyData.strOk x = true) → PyData.canLayAll0 (D.toPs (l.map .str)) = true ∧ PyData.depthAll (D.toPs (l.map .str)) = 0
  | [], _ => by rw [List.map_nil, D.toPs, PyData.canLayAll0, PyData.depthAll]; exact ⟨rfl, rfl⟩
  | x :: l, h => by
    obtain ⟨h1, h2⟩ := strs_lay l fun y hy => h y (List.mem_cons_of_mem _ hy)
    rw [List.map_cons, D.toPs, PyData.canLayAll0, PyData.depthAll, D.toP, PyData.canLay0, PyData.depth, h1, h2, h x List.mem_cons_self]
    exact ⟨rfl, rfl⟩
theorem strs_shaped {l : List Str} (h : ∀ x ∈ l, PyData.strOk x = true) : SeqAt.shaped (.list (D.toPs (l.map .str))) = true := by
  obtain ⟨h1, h2⟩ := strs_lay l h
  exact shaped_of (by rw [PyData.canLay0]; exact h1) (by rw [PyData.depth, h2]; decide)
theorem pls_lay : ∀ l : List (List Nat), PyData.canLayAll0 (D.toPs (l.map plD)) = true ∧ PyData.depthAll (D.toPs (l.map plD)) ≤ 1
  | [] => by rw [List.map_nil, D.toPs, PyData.canLayAll0, PyData.depthAll]; exact ⟨rfl, by decide⟩
  | x :: l => by
    obtain ⟨h1, h2⟩ := pls_lay l
    obtain ⟨h3, h4⟩ := plD_lay x
    rw [List.map_cons, D.toPs, PyData.canLayAll0, PyData.depthAll, h1, h3, h4]
    exact ⟨rfl, by omega⟩
theorem pls_shaped (l : List (List Nat)) : SeqAt.shaped (.list (D.toPs (l.map plD))) = true := by
  obtain ⟨h1, h2⟩ := pls_lay l
  exact shaped_of (by rw [PyData.canLay0]; exact h1) (by rw [PyData.depth]; omega)
section
variable {K : PySem.W.Frag} {ss : List Sl} {te : TE} {xs : List D}
theorem rop_neSame (h : SeqAt.shaped (.list (D.toPs xs)) = true) : ROp K (rNeD K) (.l xs) (.l xs) (.d (.bl false)) := rop_neL h h (D.eqvs_self xs)
theorem rop_eqSame (h : SeqAt.shaped (.list (D.toPs xs)) = true) : ROp K (rEqD K) (.l xs) (.l xs) (.d (.bl true)) := rop_eqL h h (D.eqvs_self xs)
theorem ev_isList (h : Ev K te ss (.l xs)) : Ev K (tCB (rIsi K) (tCons te (tCons (tC (.ty "list")) tNil))) ss (.d (.bl true)) := fun B F H σ Q ok q => (ea_cons h (ea_cons ev_clsC ea_nil)) B F H σ _ ok fun vs H2 e2 r => by
  obtain ⟨v1, v2, rfl, r1, r2⟩ := aatL2 r
  cases r2
  obtain ⟨a, vs, rfl, ha, _⟩ := r1
  exact ⟨.ref a, .ty "list", .type "list", .type "list", true, rfl, .ty "list", .base (.lst ha), kit_ty (by decide +kernel), q _ H2 e2 ad_bl⟩
end
section
variable {P : Program} {w : World} {K : PySem.W.Frag} {mg : Str → Option Value} {base : Heap} {f CK C : Addr} {fd : FuncData}
/-! ### _law_seen -/
/-- what the tables tell is what turning tells -/
def Same (b m : M) (t : Tr) : Prop := ∀ x : Doc, x.okS = true → t.tsz x ≤ 300 → bitsOf (b.marks.getD (b.state x) 0) b.forms = lawForms m t x
def preSeen (CK C : Addr) (as : List A) (r : R) : Prop := ∃ (g ll : Addr) (b m : M) (N n : Nat) (t : Tr) (T : ST) (last : List (List Nat)) (c : Nat), b.Ok N ∧ m.Ok n ∧ m.forms.length ≤ 20 ∧ (∀ x ∈ m.forms, PyData.strOk x = true) ∧ t.Ok ∧ Same b m t ∧ T.Fit b ∧ T.doc.okS = true ∧ T.doc.ht ≤ 20 ∧ T.doc.size ≤ 400 ∧
  as = [.o (HA.kept CK C g ll b T last) (.ref g), .d m.d, .d t.d, .d T.doc.d, .d (nat c)] ∧ r = .d (.bl true)
theorem sc__law_seen : FnScope ["_law_kept", "_law_machine_here", "_law_turner_here", "_law_doc_here", "_law_cell", "_law_places_here", "_law_place", "_law_here", "_law_found"] ["_law_kept", "_law_machine_here", "_law_turner_here", "_law_doc_here", "_law_cell"] (defScope s__law_seen) := ⟨rfl, rfl, rfl, by decide +kernel, rfl, by decide +kernel, by decide +kernel⟩
theorem lawForms_mem {m : M} {t : Tr} {x : Doc} {s : Str} (h : s ∈ lawForms m t x) : s ∈ m.forms := by
  have key : ∀ (fs : List Str) (r : Nat), s ∈ bitsOf r fs → s ∈ fs := fun fs => by
    induction fs with
    | nil => intro r h; rw [bitsOf] at h; exact h
    | cons f fs ih =>
      intro r h
      rw [bitsOf] at h
      split at h
      · rcases List.mem_cons.mp h with rfl | h
        · exact List.mem_cons_self
        · exact List.mem_cons_of_mem _ (ih _ h)
      · exact List.mem_cons_of_mem _ (ih _ h)
  unfold lawForms at h
  split at h
  · exact key _ _ h
  · cases h
theorem ok_law_seen (F : FnP K "_law_seen" "_law_seen" s__law_seen f fd) (T : Txt mg) (cK : ClsK K CK) (cS : ClsS K C) (m_now : MCal P w K mg base CK "now" 31 ["self"] (spD K (preNow CK C))) (m_forms_at : MCal P w K mg base CK "forms_at" 2 ["self", "place"] (spD K (preFa CK C)))
    (c_l_turned_size : Cal P w K mg base "_law_turned_size" 26 ["_law_rules", "_law_doc_here"] (spD K (preTsz 20))) (c_l_forms : Cal P w K mg base "_law_forms" 41 ["_law_machine_here", "_law_turner_here", "_law_doc_here"] (spD K preLForms)) (c_l_at : Cal P w K mg base "_law_at" 1 ["_law_doc_here", "_law_place"] (spD K preAt)) (c_l_places : Cal P w K mg base "_law_places" 20 ["_law_doc_here", "_law_place"] (spD K (prePl 20))) :
    FnOk P w K mg base CX0 42 f fd ["_law_kept", "_law_machine_here", "_law_turner_here", "_law_doc_here", "_law_cell"] (spD K (preSeen CK C)) := by
  refine fnD F sc__law_seen (n := 4) rfl (fun as r h => by obtain ⟨_, _, _, _, _, _, _, _, _, _, _, _, _, _, _, _, _, _, _, _, rfl, _⟩ := h; rfl) fun cdv A outer s H E hr => ⟨_,
    (pss_cons (ps_set (i := 5) sc__law_seen.nd rfl (Or.inl rfl) (pe_cal c_l_places hr (by rfl) (pa_cons (pv 3) (pa_cons (pe_tup pa_nil) pa_nil))))
    (pss_cons (ps_for PassesOwn.never rfl (pi_listK K (pe_lst (pa_cons (pe_tup pa_nil) (pa_cons (pe_ix (ix_listK K) (pv 5) (pe_op op_mod (pe_op op_fdiv (pv 4) pe_int) (pe_callB (call_lenK K) (by rfl) T.len PySem.boot_len (pa_cons (pv 5) pa_nil))) (fun _ _ => rfl)) pa_nil)))) (pg_name (i := 6) sc__law_seen.nd rfl (Or.inl rfl))
    (pss_cons (ps_set (i := 7) sc__law_seen.nd rfl (Or.inl rfl) (pe_cal c_l_at hr (by rfl) (pa_cons (pv 3) (pa_cons (pv 6) pa_nil))))
    (pss_one (ps_if (pt_cmpR op_le (pe_cal c_l_turned_size hr (by rfl) (pa_cons (pv 2) (pa_cons (pv 7) pa_nil))) pe_int (nomark _))
    (pss_cons (ps_set (i := 8) sc__law_seen.nd rfl (Or.inl rfl) (pe_mcal cK.c m_forms_at hr (pv 0) (pa_cons (pv 6) pa_nil)))
    (pss_one (ps_if (PW.pt (pw_or (pt_not (pt_val (pe_callB (call_isiK' K) (by rfl) T.isinstance (by decide +kernel) (pa_cons (pv 8) (pa_cons (pe_bltn (v := .ty "list") (by rfl) T.list (by decide +kernel) rfl) pa_nil))))) (pw_or1 (pt_cmpR (op_neK K hr) (pv 8) (pe_cal c_l_forms hr (by rfl) (pa_cons (pv 1) (pa_cons (pv 2) (pa_cons (pv 7) pa_nil)))) (nomark _)))))
    (pss_one (ps_ret pe_bl))
    pss_nil)))
    pss_nil))))
    (pss_one (ps_ret (pe_cmpR (op_eqK K hr) (pe_mcal0 cK.c m_now hr (pv 0)) (pv 3) (nomark _)))))), fun as r h => ?_⟩
  obtain ⟨g, ll, b, m, N, n, t, T, last, c, hb, hm, hmf, hms, ht, hsame, hfit, hok, hh, hz, rfl, rfl⟩ := h
  refine sd_seq (sd_setN (xs := (T.doc.pl []).map plD) (evn_call (ea_cons ev_v (ea_cons (Ev.to (y := .d (plD [])) (ev_tup eds_nil (by decide)) rfl) ea_nil)) ⟨T.doc, [], hh, by simp, by omega, rfl, rfl⟩) ?_)
  have hj := Nat.mod_lt (c / 8192) (Doc.pl_pos T.doc [])
  obtain ⟨y, hy⟩ := Doc.pl_get T.doc (c / 8192)
  let p := (T.doc.pl []).getD (c / 8192 % (T.doc.pl []).length) []
  refine sd_seq (sd_forN (xs := [[], p].map plD) (fun i ss => ∃ z6 z7 z8, ss = [KpS CK C g ll b T last, .a (.d m.d), .a (.d t.d), .a (.d T.doc.d), .a (.d (nat c)), .own ((T.doc.pl []).map plD), z6, z7, z8]) (evn_lst (eds_cons (Ev.to (y := .d (plD [])) (ev_tup eds_nil (by decide)) rfl) (eds_cons (d := plD p) (ev_op ev_v (ev_modN (ev_divN ev_v (ev_n 8192) (by decide) (by decide)) (ev_lenL (ks := T.doc.pl []) ev_v) (Doc.pl_pos T.doc [])) (rop_ixL (atI_nat ?_))) eds_nil)) (by show 2 ≤ 100000; decide)) ⟨_, _, _, rfl⟩ ?_ ?_)
  · rw [List.getElem?_map, List.getElem?_eq_getElem hj]
    show _ = some (plD ((T.doc.pl []).getD _ []))
    rw [List.getD_eq_getElem?_getD, List.getElem?_eq_getElem hj]
    rfl
  · rintro i d ss' hi ⟨z6, z7, z8, rfl⟩
    obtain ⟨q, x, rfl, hx⟩ : ∃ q x, d = plD q ∧ ST.at q T = some x := by
      have : d = plD [] ∨ d = plD p := by
        have := List.mem_of_getElem? hi
        simpa using this
      rcases this with rfl | rfl
      · exact ⟨[], T, rfl, by rw [ST.at]⟩
      · have hp : Doc.at p T.doc = some y := hy
        rw [ST.at_doc] at hp
        cases h : ST.at p T with
        | none => rw [h] at hp; cases hp
        | some x => exact ⟨p, x, rfl, h⟩
    have hxd : Doc.at q T.doc = some x.doc := by rw [ST.at_doc, hx]; rfl
    have h1 := Doc.at_ht hxd
    have h2 := Doc.at_size hxd
    have h3 := Doc.at_okS hok hxd
    refine sd_seq (sd_set (d := x.doc.d) (ev_at ev_v ev_v hxd) ?_)
    refine sd_if (b := decide (t.tsz x.doc ≤ 300)) (EvT.to (et_test (ev_op (x := .d (nat (t.tsz x.doc))) (ev_call (ea_cons ev_v (ea_cons ev_v ea_nil)) ⟨t, x.doc, ht, by omega, h3, by omega, rfl, rfl⟩) ev_int rop_ib)) (decide_eq_decide.mpr (by omega))) (fun hle => ?_) fun _ => sd_next ⟨_, _, _, rfl⟩
    have hle := of_decide_eq_true hle
    refine sd_seq (sd_setN (xs := (lawForms m t x.doc).map .str) (EvN.to (evn_meth (k0 := HA.kept CK C g ll b T last) (ev_o rfl) (ea_cons ev_v ea_nil) (fun B kn => kept_meth (kn 0 _ _ rfl) (by decide) (by decide) (by decide)) (fun B kn => kn 0 _ _ rfl) ⟨g, ll, b, N, T, x, last, q, hb, hfit, hx, by omega, rfl, rfl⟩) (by rw [hsame x.doc h3 hle])) ?_)
    refine sd_if (b := false) (EvT.to (et_or (et_not (et_test (b := true) (ev_isList ev_v))) fun _ => et_test (b := false) (ev_op (y := .l ((lawForms m t x.doc).map .str)) ev_v (EvN.l (evn_call (ea_cons ev_v (ea_cons ev_v (ea_cons ev_v ea_nil))) ⟨m, n, t, x.doc, hm, hmf, ht, by omega, h3, by omega, hle, rfl, rfl⟩)) (rop_neSame (strs_shaped fun s hs => hms s (lawForms_mem hs))))) rfl) (fun h => nomatch h) fun _ => sd_next ⟨_, _, _, rfl⟩
  · rintro ss' ⟨z6, z7, z8, rfl⟩
    exact sd_ret (ev_op (x := .d T.doc.d) (ev_meth (k0 := HA.kept CK C g ll b T last) (ev_o rfl) ea_nil (fun B kn => kept_meth (kn 0 _ _ rfl) (by decide) (by decide) (by decide)) (fun B kn => kn 0 _ _ rfl) ⟨g, ll, b, T, last, by omega, by omega, rfl, rfl⟩) ev_v (rop_eqD (Doc.shaped hok (by omega)) (Doc.shaped hok (by omega)) (D.eqv_self _))) rfl
end
end G
namespace G
open PySem L2
open Evl (Ex)
section
variable {P : Program} {w : World} {K : PySem.W.Frag} {mg : Str → Option Value} {base : Heap} {f CK C : Addr} {fd : FuncData}
theorem at_spot {T : ST} {q : List Nat} {y : Doc} (h : Doc.at q T.doc = some y) : ∃ X, ST.at q T = some X ∧ X.doc = y := by
  rw [ST.at_doc] at h
  cases hX : ST.at q T with
  | none => rw [hX] at h; cases h
  | some X => rw [hX] at h; cases h; exact ⟨X, rfl, rfl⟩
theorem spot_len (X : ST) : X.kids.length = X.doc.kids.length := by cases X; rw [ST.doc, Doc.kids, ST.docs_map, List.length_map]; rfl
/-! ### _law_change -/
def preCh (CK C : Addr) (as : List A) (fp : Addr → Prop) (post : RM) : Prop := ∃ (g ll : Addr) (b : M) (N : Nat) (T : ST) (last : List (List Nat)) (e : Dd) (new : Doc) (tag : Str), b.Ok N ∧ T.Nu ∧ Sp T g ll ∧ T.Fit b ∧ e.Ok T.doc ∧ T.doc.okS = true ∧ T.doc.ht ≤ 20 ∧ T.doc.size ≤ 100 ∧ new.okS = true ∧ new.ht ≤ 2 ∧ new.size ≤ 2 ∧ Nm tag ∧ PyData.strOk tag = true ∧
  as = [.o (HA.kept CK C g ll b T last) (.ref g), .d e.d, .d new.d, .d (.str tag)] ∧ fp = (HA.kept CK C g ll b T last).fp ∧ post = postK CK C g b (e.done T.doc new tag) (lawDue b T.doc (e.done T.doc new tag) new e)
theorem sc__law_change : FnScope ["_law_kept", "_law_deed_here", "_law_new", "_law_tag"] ["_law_kept", "_law_deed_here", "_law_new", "_law_tag"] (defScope s__law_change) := ⟨rfl, rfl, rfl, by decide +kernel, rfl, by decide +kernel, by decide +kernel⟩
theorem sdm_method {K : PySem.W.Frag} {CK C g ll : Addr} {b : M} {T : ST} {last told : List (List Nat)} {F0 : Hp} {rest : List Sl} {D' : Doc} {fp : Addr → Prop} {Rm : RM} {Bk Ct : SN} {t : TA} {m : Str} {E : XK} {as : List A} {pre : List A → (Addr → Prop) → RM → Prop}
    (hm1 : m ≠ "machine") (hm2 : m ≠ "top") (hm3 : m ≠ "last") (hr : noR rest) (h : EvAs K t (KpS CK C g ll b T last :: rest) as) (hp : pre (.o (HA.kept CK C g ll b T last) (.ref g) :: as) (HA.kept CK C g ll b T last).fp (postK CK C g b D' told)) (hfp : ∀ a, (HA.kept CK C g ll b T last).fp a → fp a ∨ F0 a = none) {N : SN}
    (n : ∀ ll' T' rest', T'.doc = D' → T'.Fit b → T'.Nu → Sp T' g ll' → (∀ a, (HA.kept CK C g ll' b T' told).fp a → fp a ∨ F0 a = none) → N (KpS CK C g ll' b T' told :: rest')) :
    SdM K fp F0 (tDrop (tMeth CK m (spM K pre) [] E (tVar 0) t)) (KpS CK C g ll b T last :: rest) N Rm Bk Ct := by
  refine sdm_dropM (P := fun ss' v k => ∃ ll' T' rest', T'.doc = D' ∧ T'.Fit b ∧ T'.Nu ∧ Sp T' g ll' ∧ (∀ a, (HA.kept CK C g ll' b T' told).fp a → fp a ∨ F0 a = none) ∧ ss' = KpS CK C g ll' b T' told :: rest') (evm_meth (k0 := HA.kept CK C g ll b T last) (ev_o rfl) h (fun B kn => kept_meth (kn 0 _ _ rfl) hm1 hm2 hm3) (fun B kn => kn 0 _ _ rfl)
    ⟨(HA.kept CK C g ll b T last).fp, _, hp, hfp, fun B kn a y => HA.kept_al (kn 0 _ _ rfl) a y, fun v k ⟨ev, ll', T', e1, e2, e3, e4, e5⟩ F F' kn fr hk' hkf hd => ?_⟩) fun ss' v k ⟨ll', T', rest', e1, e2, e3, e4, e5, e6⟩ hkf => by subst e6; exact n ll' T' rest' e1 e2 e3 e4 e5
  subst e5
  obtain ⟨rest', hr'⟩ := sr_forget (F' := F') rest hr
  exact ⟨_, .cons (.o hk') hr', ll', T', rest', e1, e2, e3, e4, fun a ha => (hkf a ha).elim (hfp a) fun z => .inr (hd a z), rfl⟩
theorem ok_law_change (F : FnP K "_law_change" "_law_change" s__law_change f fd) (T : Txt mg) (cK : ClsK K CK) (m_put : MCal P w K mg base CK "put" 33 ["self", "place", "new"] (spM K (prePut CK C))) (m_cut : MCal P w K mg base CK "cut" 4 ["self", "place"] (spM K (preCut CK C))) (m_rename : MCal P w K mg base CK "rename" 4 ["self", "place", "name"] (spM K (preRen CK C))) :
    FnOk P w K mg base CX0 34 f fd ["_law_kept", "_law_deed_here", "_law_new", "_law_tag"] (spM K (preCh CK C)) := by
  refine fnM F sc__law_change (n := 0) rfl (fun as fp post h => by obtain ⟨_, _, _, _, _, _, _, _, _, _, _, _, _, _, _, _, _, _, _, _, _, _, rfl, _⟩ := h; rfl) fun cdv A outer s0 H E hr => ⟨_,
    (pss_one (ps_if (pt_cmpR op_eq (pe_ix (ix_tupK K) (pv 1) pe_int (fun _ _ => rfl)) pe_str (nomark _))
    (pss_one (ps_expr (pe_mcal cK.c m_put hr (pv 0) (pa_cons (pe_ix (ix_tupK K) (pv 1) pe_int (fun _ _ => rfl)) (pa_cons (pv 2) pa_nil)))))
    (pss_one (ps_if (pt_cmpR op_eq (pe_ix (ix_tupK K) (pv 1) pe_int (fun _ _ => rfl)) pe_str (nomark _))
    (pss_one (ps_expr (pe_mcal cK.c m_cut hr (pv 0) (pa_cons (pe_ix (ix_tupK K) (pv 1) pe_int (fun _ _ => rfl)) pa_nil))))
    (pss_one (ps_expr (pe_mcal cK.c m_rename hr (pv 0) (pa_cons (pe_ix (ix_tupK K) (pv 1) pe_int (fun _ _ => rfl)) (pa_cons (pv 3) pa_nil))))))))), fun as fp post h kn => ?_⟩
  obtain ⟨g, ll, b, N, T, last, e, new, tag, hb, hnu, hsp, hfit, he, hok, hh, hz, hnk, hnh, hnz, htag, hts, rfl, rfl, rfl⟩ := h
  obtain ⟨h1, h2, h3⟩ := Dd.done_ok he hok hnk hts hnh hnz
  have hnr : noR [.a (.d e.d), .a (.d new.d), .a (.d (.str tag))] := fun s hs xs e => by subst e; simp at hs
  have w0 : ∀ {ss : List Sl}, ss[1]? = some (.a (.d e.d)) → Ev K (tOp (rIxT K) (tVar 1) (tC (.int 0))) ss (.d (.str e.w)) := fun h => ev_ixc (f := false) (Ev.to (ev_v h) rfl) rfl
  have w1 : ∀ {ss : List Sl}, ss[1]? = some (.a (.d e.d)) → Ev K (tOp (rIxT K) (tVar 1) (tC (.int 1))) ss (.d (plD e.p)) := fun h => ev_ixc (f := false) (Ev.to (ev_v h) rfl) rfl
  have fin : ∀ {D' : Doc} {told}, D' = e.done T.doc new tag → told = lawDue b T.doc (e.done T.doc new tag) new e → ∀ ll' T' rest', T'.doc = D' → T'.Fit b → T'.Nu → Sp T' g ll' → (∀ a, (HA.kept CK C g ll' b T' told).fp a → (HA.kept CK C g ll b T last).fp a ∨ H a = none) → endM (HA.kept CK C g ll b T last).fp H (postK CK C g b (e.done T.doc new tag) (lawDue b T.doc (e.done T.doc new tag) new e)) (KpS CK C g ll' b T' told :: rest') := by
    rintro _ _ rfl rfl ll' T' rest' e1 e2 e3 e4 e5
    exact ⟨_, ⟨rfl, ll', T', e1, e2, e3, e4, rfl⟩, fun B kn => kn 0 _ _ rfl, e5⟩
  cases e with
  | put p =>
    obtain ⟨q, i, y, rfl, hq, hi⟩ := he
    obtain ⟨X, hX, rfl⟩ := at_spot hq
    have hD : Doc.put (putD X i new) q T.doc = Dd.done T.doc new tag (.put (q ++ [i])) := by
      simp only [Dd.done, List.dropLast_concat, getLastD_concat, Doc.sub_eq hq]
      cases X
      rw [putD, ST.doc]
      rfl
    have hql := Doc.at_ht hq
    have hqz := Doc.at_size hq
    have hkl : X.kids.length ≤ 900 := by
      rw [spot_len]
      have := Doc.len_le X.doc.kids
      have h4 : X.doc.size = 1 + Doc.sizes X.doc.kids := by cases X; rw [ST.doc, Doc.size, Doc.kids]
      omega
    refine sdm_if (b := true) (EvT.to (et_test (ev_op (w0 rfl) ev_str rop_eqS)) (by show decide (("put" : Str) = ("put" : Str)) = true; decide +kernel)) (fun _ => ?_) fun h => nomatch h
    refine sdm_method (D' := Doc.put (putD X i new) q T.doc) (told := new.up (q ++ [i]) ++ climb b T.doc (Doc.put (putD X i new) q T.doc) q q.length) (by decide) (by decide) (by decide) hnr (ea_cons (w1 rfl) (ea_cons ev_v ea_nil)) ⟨g, ll, b, N, T, X, last, q, i, new, hb, hnu, hsp, hfit, hX, by rw [spot_len]; exact hi, by omega, hkl, by omega, by omega, by omega, by omega, by rw [hD]; omega, rfl, rfl, rfl⟩ (fun a h => .inl h) (fin hD ?_)
    rw [hD]
    simp only [lawDue, Dd.first, Dd.q, List.dropLast_concat]
  | cut p =>
    obtain ⟨q, i, y, rfl, hq, hi⟩ := he
    obtain ⟨X, hX, rfl⟩ := at_spot hq
    have hD : Doc.put (.mk X.name (ST.docs (X.kids.eraseIdx i))) q T.doc = Dd.done T.doc new tag (.cut (q ++ [i])) := by
      simp only [Dd.done, List.dropLast_concat, getLastD_concat, Doc.sub_eq hq]
      cases X
      rw [ST.doc, ST.docs_map, ST.docs_map, ← eraseIdx_map, List.eraseIdx_eq_take_drop_succ]
      rfl
    have hql := Doc.at_ht hq
    have hqz := Doc.at_size hq
    have hkl : X.kids.length ≤ 900 := by
      rw [spot_len]
      have := Doc.len_le X.doc.kids
      have h4 : X.doc.size = 1 + Doc.sizes X.doc.kids := by cases X; rw [ST.doc, Doc.size, Doc.kids]
      omega
    refine sdm_if (b := false) (EvT.to (et_test (ev_op (w0 rfl) ev_str rop_eqS)) (by show decide (("cut" : Str) = ("put" : Str)) = false; decide +kernel)) (fun h => nomatch h) fun _ => ?_
    refine sdm_if (b := true) (EvT.to (et_test (ev_op (w0 rfl) ev_str rop_eqS)) (by show decide (("cut" : Str) = ("cut" : Str)) = true; decide +kernel)) (fun _ => ?_) fun h => nomatch h
    refine sdm_method (D' := Doc.put (.mk X.name (ST.docs (X.kids.eraseIdx i))) q T.doc) (told := climb b T.doc (Doc.put (.mk X.name (ST.docs (X.kids.eraseIdx i))) q T.doc) q q.length) (by decide) (by decide) (by decide) hnr (ea_cons (w1 rfl) ea_nil) ⟨g, ll, b, N, T, X, last, q, i, hb, hnu, hsp, hfit, hX, by rw [spot_len]; exact hi, by omega, hkl, by rw [hD]; omega, rfl, rfl, rfl⟩ (fun a h => .inl h) (fin hD ?_)
    rw [hD]
    simp only [lawDue, Dd.first, Dd.q, List.dropLast_concat, List.nil_append]
  | ren p =>
    obtain ⟨y, hq⟩ := he
    obtain ⟨X, hX, rfl⟩ := at_spot hq
    have hD : Doc.put (.mk tag (ST.docs X.kids)) p T.doc = Dd.done T.doc new tag (.ren p) := by
      simp only [Dd.done, Doc.sub_eq hq]
      cases X
      rw [ST.doc]
      rfl
    have hql := Doc.at_ht hq
    refine sdm_if (b := false) (EvT.to (et_test (ev_op (w0 rfl) ev_str rop_eqS)) (by show decide (("rename" : Str) = ("put" : Str)) = false; decide +kernel)) (fun h => nomatch h) fun _ => ?_
    refine sdm_if (b := false) (EvT.to (et_test (ev_op (w0 rfl) ev_str rop_eqS)) (by show decide (("rename" : Str) = ("cut" : Str)) = false; decide +kernel)) (fun h => nomatch h) fun _ => ?_
    refine sdm_method (D' := Doc.put (.mk tag (ST.docs X.kids)) p T.doc) (told := climb b T.doc (Doc.put (.mk tag (ST.docs X.kids)) p T.doc) p p.length) (by decide) (by decide) (by decide) hnr (ea_cons (w1 rfl) (ea_cons ev_v ea_nil)) ⟨g, ll, b, N, T, X, last, p, tag, hb, hnu, hsp, hfit, hX, by omega, htag, by rw [hD]; omega, rfl, rfl, rfl⟩ (fun a h => .inl h) (fin hD ?_)
    rw [hD]
    simp only [lawDue, Dd.first, Dd.q, List.nil_append]
end
end G
namespace G
open PySem L2
open Evl (Ex)
/-- the script: a list of the written part, or one on the heap -/
def HA.sq (K : PySem.W.Frag) (inH : Bool) (a : Addr) (vs : List V) : HA := ⟨fun H => if inH = true then Rd H a (.lst vs) else ∀ H', SqL K H' a vs, fun b => inH = true ∧ b = a, fun H H' h t e => by
  by_cases hb : inH = true
  · rw [if_pos hb] at h ⊢
    rcases h with h | ⟨o, h⟩
    · exact .inl (e a _ ⟨hb, rfl⟩ h)
    · exact .inr ⟨o, e a _ ⟨hb, rfl⟩ h⟩
  · rw [if_neg hb] at h ⊢
    exact h⟩
theorem HA.sq_l {K : PySem.W.Frag} {inH : Bool} {a : Addr} {vs : List V} {H : Hp} (h : (HA.sq K inH a vs).φ H) : SqL K H a vs := by
  have h : if inH = true then Rd H a (.lst vs) else ∀ H', SqL K H' a vs := h
  by_cases hb : inH = true
  · rw [if_pos hb] at h; exact .inl h
  · rw [if_neg hb] at h; exact h H
theorem HA.sq_al {K : PySem.W.Frag} {inH : Bool} {a : Addr} {vs : List V} {H : Hp} (h : (HA.sq K inH a vs).φ H) : ∀ b, (HA.sq K inH a vs).fp b → H b ≠ none := fun b ⟨hb, e⟩ => by
  subst e
  have h : if inH = true then Rd H b (.lst vs) else ∀ H', SqL K H' b vs := h
  rw [if_pos hb] at h
  rcases h with h | ⟨o, h⟩
  · rw [h]; intro z; cases z
  · rw [h]; intro z; cases z
theorem HA.sq_of {K : PySem.W.Frag} {a : Addr} {vs : List V} {H : Hp} (h : SqL K H a vs) : ∃ inH, (HA.sq K inH a vs).φ H := by
  rcases h with h | h
  · exact ⟨true, by show (if true = true then Rd H a (.lst vs) else ∀ H', SqL K H' a vs); rw [if_pos rfl]; exact h⟩
  · exact ⟨false, by show (if false = true then Rd H a (.lst vs) else ∀ H', SqL K H' a vs); rw [if_neg Bool.false_ne_true]; exact fun H' => .inr h⟩
section
variable {K : PySem.W.Frag} {ss : List Sl} {F0 : Hp} {fp fp1 : Addr → Prop} {te tl : TE} {tb : TS} {N Bk Ct : SN} {Rm : RM} {xs : List D}
theorem ev_sq {i : Nat} {inH : Bool} {a : Addr} {ns : List Int} (h : ss[i]? = some (.a (.o (HA.sq K inH a (ns.map V.int)) (.ref a)))) : Ev K (tVar i) ss (.r (ns.map .int)) := Ev.kn (ev_o h) fun B kn => ⟨a, _, rfl, HA.sq_l (kn i _ _ h), atL_ints.mpr rfl⟩
/-- for over a new list of data; what holds may tell of the heap at the start -/
theorem sdm_forNF {j : Nat} (Pv : Hp → Nat → SN) (hfp : ∀ a, fp1 a → fp a ∨ F0 a = none) (hal : ∀ B, Kn B ss → ∀ a, fp1 a → B a ≠ none) (h : EvN K tl ss xs) (h0 : ∀ F1, (∀ a, F1 a = none → F0 a = none) → Kn F1 ss → Pv F1 0 ss)
    (hs : ∀ F1, (∀ a, F1 a = none → F0 a = none) → ∀ (i : Nat) x ss', xs[i]? = some x → Pv F1 i ss' → SdM K fp1 F1 tb (ss'.set j (.a (.d x))) (Pv F1 (i + 1)) Rm N (Pv F1 (i + 1))) (hd : ∀ F1, (∀ a, F1 a = none → F0 a = none) → ∀ ss', Pv F1 xs.length ss' → N ss') :
    SdM K fp F0 (tFor (iList K tl) (gName j) tb) ss N Rm Bk Ct := fun F H σ D fr ok en => by
  refine h F F H σ _ ok fun a vs H1 hn e1 ha hl => ?_
  have hno : ¬ fp1 a := fun z => hal F ok.kn a z (Evl.fresh_back ok.ex hn)
  obtain ⟨F1, ex, ok1, tx, hp⟩ := (ok.mono e1).rebB
  have ha' := hp _ _ ha fun i t hi ht => ok.newNe hn hi ht
  have fr1 : Fr fp F0 F1 := fr.trans' (.of_ex ex)
  refine ⟨a, rfl, ⟨vs, SqL.of ha⟩, ?_⟩
  refine for_list (xs := vs) (fun i σ H => ∃ ss' F', Pv F1 i ss' ∧ Fr fp1 F1 F' ∧ Ok K F' F' H ss' σ) ⟨ss, F1, h0 F1 fr1.d ok1.kn, Fr.refl F1, ok1⟩ (fun i σ H _ ⟨_, _, _, f, o⟩ => SqL.of (o.ex _ _ (f.k a _ hno ha'))) (fun i x σ' H' hi p => ?_) fun σ' H' p => ?_
  · obtain ⟨ss', F', hp', f', ok'⟩ := p
    obtain ⟨d, hd', hx⟩ := hl.back hi
    exact hs F1 fr1.d i d ss' hd' hp' F' H' _ _ f' (ok'.setD (At.mono (tx.trans (f'.t.trans (TEx.of ok'.ex))) _ hx)) (en.rebase fr1 hfp fun ss3 F3 H3 σ3 n3 f3 ok3 => ⟨ss3, F3, n3, f3, ok3⟩)
  · obtain ⟨ss', F', hp', f', ok'⟩ := p
    rw [hl.length] at hp'
    exact en.nx _ _ _ _ (hd F1 fr1.d ss' hp') (fr1.trans f' hfp) ok'
/-- a, b = f(..), f's answer a pair of which post tells -/
theorem sd_callX2 {ta : TA} {as : List A} {pre : List A → Prop} {post : List A → R → Prop} {E : XK} {i j : Nat} {Rt : R → Prop} (h : EvAs K ta ss as) (hp : pre as) (k : ∀ r, post as r → ∃ a b, r = .d (.tup [a, b]) ∧ N ((ss.set i (.a (.d a))).set j (.a (.d b)))) :
    Sd K (tAsg (tCall (spX K pre post) [] E ta) (gTup K 2 (gCons (gName i) (gCons (gName j) gNil)))) ss N Rt Bk Ct := fun B F H σ D ok e =>
  h B F H σ _ ok fun vs H2 e2 r => ⟨as, by rw [List.append_nil]; exact r, hp, fun r hr => by
    obtain ⟨a, b, rfl, hn⟩ := k r hr
    intro v H3 e3 hv
    obtain ⟨p, vs, rfl, hp, hl⟩ := at_tup.mp hv
    obtain ⟨va, ws, rfl, h1, hl⟩ := atL_cons.mp hl
    obtain ⟨vb, ws, rfl, h2, hl⟩ := atL_cons.mp hl
    rw [atL_nil.mp hl] at hp
    exact ⟨p, [va, vb], rfl, SqT.of hp, rfl, va, [vb], rfl, vb, [], rfl, rfl, e.nx _ _ _ hn (((ok.mono (e2.trans e3)).setD h1).setD h2)⟩⟩
end
end G
/-! The plain law: the tables of the machine drawn back tell what turning tells. -/
namespace G
open PySem L2
def lastOf (m : M) : List Doc → Int
  | [] => -1
  | [x] => (m.state x : Int)
  | _ => -2
theorem lastOf_ne (m : M) (x : Doc) : ∀ xs : List Doc, lastOf m (x :: xs) ≠ -1
  | [] => by show (m.state x : Int) ≠ -1; omega
  | y :: ys => by show (-2 : Int) ≠ -1; decide
theorem lastOf_two (m : M) (x y : Doc) (ys : List Doc) : ∀ xs : List Doc, lastOf m (x :: (xs ++ y :: ys)) = -2
  | [] => rfl
  | z :: zs => rfl
/-- the way of a row of documents -/
def wayOf (m : M) (row : List Doc) : Way := ⟨(List.range m.steps.length).map fun s => m.run s row, lastOf m row⟩
section
variable {m : M} {n : Nat}
theorem wayOf_nil (m : M) : wayOf m [] = Way.none m := by
  refine Way.ext' ?_ rfl
  show ((List.range m.steps.length).map fun s => m.run s []) = List.range m.steps.length
  have e : (fun s => m.run s []) = id := funext fun s => by rw [M.run]; rfl
  rw [e, List.map_id]
theorem wayOf_one (m : M) (x : Doc) : wayOf m [x] = Way.one m (m.state x) := by
  refine Way.ext' ?_ rfl
  show ((List.range m.steps.length).map fun s => m.run s [x]) = m.steps.map fun r => r.getD (m.state x) 0
  apply List.ext_getElem?
  intro i
  rw [List.getElem?_map, List.getElem?_map]
  by_cases h : i < m.steps.length
  · rw [List.getElem?_range h, List.getElem?_eq_getElem h, Option.map_some, Option.map_some, M.run, M.run]
    unfold M.step
    rw [List.getD_eq_getElem?_getD (l := m.steps), List.getElem?_eq_getElem h]
    rfl
  · rw [List.getElem?_eq_none (by simpa using h), List.getElem?_eq_none (by simpa using h)]
    rfl
theorem wayOf_get (hm : m.Ok n) (row : List Doc) {s : Nat} (hs : s < n) : (wayOf m row).f.getD s 0 = m.run s row := by
  show ((List.range m.steps.length).map fun s => m.run s row).getD s 0 = _
  rw [List.getD_eq_getElem?_getD, List.getElem?_map, List.getElem?_range (by rw [hm.sp]; exact hs)]
  rfl
theorem wayOf_app (hm : m.Ok n) (a b : List Doc) : (wayOf m a).behind (wayOf m b) = wayOf m (a ++ b) := by
  refine Way.ext' ?_ ?_
  · show ((List.range m.steps.length).map fun s => m.run s a).map (fun s => (wayOf m b).f.getD s 0) = (List.range m.steps.length).map fun s => m.run s (a ++ b)
    rw [List.map_map]
    refine List.map_congr_left fun s hs => ?_
    rw [List.mem_range, hm.sp] at hs
    show (wayOf m b).f.getD (m.run s a) 0 = _
    rw [wayOf_get hm b (hm.run_lt a hs), M.run_app]
  · show (if lastOf m b = -1 then lastOf m a else if lastOf m a = -1 then lastOf m b else -2) = lastOf m (a ++ b)
    cases b with
    | nil => rw [List.append_nil, if_pos (show lastOf m [] = -1 from rfl)]
    | cons y ys =>
      rw [if_neg (lastOf_ne m y ys)]
      cases a with
      | nil => rw [List.nil_append, if_pos (show lastOf m [] = -1 from rfl)]
      | cons x xs => rw [if_neg (lastOf_ne m x xs), List.cons_append, lastOf_two]
mutual
theorem wst_eq (hm : m.Ok n) (row : List Doc) : ∀ (k : Item) (y : Doc), k.isHole = false → Item.fill row k = [y] → Item.wst m (wayOf m row) k = m.state y
  | .hole, _, h, _ => by cases h
  | .el x is, y, _, e => by
    rw [Item.fill] at e
    have e : Doc.mk x (Item.fills row is) = y := by injection e
    subst e
    rw [Item.wst, M.state, ← wayOf_nil, wf_eq hm row is [], List.nil_append, wayOf_get hm _ (hm.start_lt x)]
theorem wf_eq (hm : m.Ok n) (row : List Doc) : ∀ (ks : List Item) (pre : List Doc), Item.wf m (wayOf m row) (wayOf m pre) ks = wayOf m (pre ++ Item.fills row ks)
  | [], pre => by rw [Item.wf, Item.fills, List.append_nil]
  | k :: ks, pre => by
    have h := wst_eq hm row k
    rw [Item.wf, Item.fills, ← List.append_assoc]
    have key : ((wayOf m pre).behind (if k.isHole then wayOf m row else Way.one m (Item.wst m (wayOf m row) k))) = wayOf m (pre ++ Item.fill row k) := by
      cases k with
      | hole => rw [if_pos (show Item.isHole .hole = true from rfl), wayOf_app hm, Item.fill]
      | el x is =>
        rw [if_neg (show ¬ Item.isHole (.el x is) = true by rw [Item.isHole]; decide), h (.mk x (Item.fills row is)) rfl (by rw [Item.fill]), ← wayOf_one, wayOf_app hm, Item.fill]
    rw [key]
    exact wf_eq hm row ks _
end
theorem idxOf_getD {L : List Str} {x : Str} (h : x ∈ L) : L.getD (L.idxOf x) "" = x := by
  have hi := List.idxOf_lt_length_of_mem h
  rw [List.getD_eq_getElem?_getD, List.getElem?_eq_getElem hi]
  exact List.getElem_idxOf hi
theorem idxOf_out {L : List Str} {x : Str} (h : x ∉ L) : L.idxOf x = L.length := List.idxOf_eq_length h
theorem look_none {t : Tr} {x : Str} (h : x ∉ t.map (·.1)) : t.look x = none := by
  cases e : t.look x with
  | none => rfl
  | some is => exact absurd (List.mem_map.mpr ⟨_, Tr.look_mem e, rfl⟩) h
theorem tw_eq {t : Tr} {L : List Str} (hm : m.Ok n) (hL : ∀ x ∈ L, x ≠ "") (hLm : ∀ y, y ∈ L ↔ y ∈ m.names ∨ y ∈ t.map (·.1)) (x : Str) (ks : List Doc) : tw m t L ⟨L.idxOf x, wayOf m (t.turns ks)⟩ = wayOf m (t.turn (.mk x ks)) := by
  have key : t.look (Gst.name L ⟨L.idxOf x, wayOf m (t.turns ks)⟩) = t.look x ∧ m.start (Gst.name L ⟨L.idxOf x, wayOf m (t.turns ks)⟩) = m.start x := by
    unfold Gst.name
    by_cases h : x ∈ L
    · rw [if_pos (List.idxOf_lt_length_of_mem h)]
      show t.look (L.getD (L.idxOf x) "") = _ ∧ m.start (L.getD (L.idxOf x) "") = _
      rw [idxOf_getD h]
      exact ⟨rfl, rfl⟩
    · rw [if_neg (by show ¬ L.idxOf x < L.length; rw [idxOf_out h]; omega)]
      have h0 : ("" : Str) ∉ L := fun z => hL _ z rfl
      have nx := fun z => h ((hLm x).mpr z)
      have n0 := fun z => h0 ((hLm "").mpr z)
      refine ⟨?_, ?_⟩
      · rw [look_none fun z => nx (.inr z), look_none fun z => n0 (.inr z)]
      · unfold M.start
        rw [idxOf_out fun z => nx (.inl z), idxOf_out fun z => n0 (.inl z)]
  unfold tw
  rw [key.1, key.2, Tr.turn]
  unfold Tr.items
  cases e : t.look x with
  | none =>
    show Way.one m ((wayOf m (t.turns ks)).f.getD (m.start x) 0) = wayOf m (Item.fills (t.turns ks) [.el x [.hole]])
    rw [wayOf_get hm _ (hm.start_lt x), Item.fills, Item.fills, List.append_nil, Item.fill, Item.fills, Item.fills, Item.fill, List.append_nil, wayOf_one, M.state]
  | some is =>
    show Item.wf m (wayOf m (t.turns ks)) (Way.none m) is = wayOf m (Item.fills (t.turns ks) is)
    rw [← wayOf_nil, wf_eq hm, List.nil_append]
end
section
variable {m b : M} {n : Nat} {t : Tr} {S : List Gst}
mutual
theorem st_state (hm : m.Ok n) (hL : ∀ x ∈ b.names, x ≠ "") (hLm : ∀ y, y ∈ b.names ↔ y ∈ m.names ∨ y ∈ t.map (·.1)) (hf : Firsts S ((List.range (b.names.length + 1)).map fun k => ⟨k, Way.none m⟩) b.starts) (hr : Rows m t b.names S b.steps) :
    ∀ x : Doc, ∃ s, S[b.state x]? = some s ∧ tw m t b.names s = wayOf m (t.turn x)
  | .mk x ks => by
    have hi : b.names.idxOf x < b.names.length + 1 := Nat.lt_succ_of_le List.idxOf_le_length
    obtain ⟨j, e1, e2⟩ := hf.2 (b.names.idxOf x) ⟨b.names.idxOf x, Way.none m⟩ (by rw [List.getElem?_map, List.getElem?_range hi]; rfl)
    have e3 : b.start x = j := by
      unfold M.start
      rw [List.getD_eq_getElem?_getD, e1]
      rfl
    have h := st_run hm hL hLm hf hr ks (b.start x) (b.names.idxOf x) [] (by rw [e3, wayOf_nil]; exact e2)
    rw [M.state]
    exact ⟨_, h, by rw [List.nil_append]; exact tw_eq hm hL hLm x ks⟩
theorem st_run (hm : m.Ok n) (hL : ∀ x ∈ b.names, x ≠ "") (hLm : ∀ y, y ∈ b.names ↔ y ∈ m.names ∨ y ∈ t.map (·.1)) (hf : Firsts S ((List.range (b.names.length + 1)).map fun k => ⟨k, Way.none m⟩) b.starts) (hr : Rows m t b.names S b.steps) :
    ∀ (ks : List Doc) (s k : Nat) (pre : List Doc), S[s]? = some ⟨k, wayOf m pre⟩ → S[b.run s ks]? = some ⟨k, wayOf m (pre ++ t.turns ks)⟩
  | [], s, k, pre, h => by rw [M.run, Tr.turns, List.append_nil]; exact h
  | d :: ks, s, k, pre, h => by
    obtain ⟨sd, h1, h2⟩ := st_state hm hL hLm hf hr d
    have h3 := hr.2.2 s (b.state d) _ sd h h1
    rw [M.run, Tr.turns, ← List.append_assoc]
    refine st_run hm hL hLm hf hr ks (b.step s (b.state d)) k (pre ++ t.turn d) ?_
    have e : gstep m t b.names ⟨k, wayOf m pre⟩ sd = ⟨k, wayOf m (pre ++ t.turn d)⟩ := by
      unfold gstep
      rw [h2, wayOf_app hm]
    rw [← e]
    exact h3
end
theorem bitsOf_zero : ∀ fs : List Str, bitsOf 0 fs = []
  | [] => by rw [bitsOf]
  | f :: fs => by rw [bitsOf, if_neg (by decide)]; exact bitsOf_zero fs
theorem Back.same (h : Back m t n b) (hL : ∀ x ∈ b.names, x ≠ "") : Same b m t := by
  obtain ⟨S, h1, h2, h3, h4, h5, h6, h7, h8⟩ := h
  intro x _ _
  obtain ⟨s, g1, g2⟩ := st_state h3.1 hL h2 h6 h7 x
  have e : b.marks.getD (b.state x) 0 = gmark m t b.names s := by
    rw [h8, List.getD_eq_getElem?_getD, List.getElem?_map, g1]
    rfl
  rw [e, h5]
  unfold gmark lawForms
  rw [g2]
  show bitsOf (if lastOf m (t.turn x) < 0 then 0 else m.marks.getD (lastOf m (t.turn x)).toNat 0) m.forms = _
  match hr : t.turn x with
  | [] => rw [if_pos (show lastOf m [] < 0 from (by decide : (-1 : Int) < 0)), bitsOf_zero]
  | [y] =>
    rw [if_neg (show ¬ lastOf m [y] < 0 from (by omega : ¬ (m.state y : Int) < 0))]
    show bitsOf (m.marks.getD (m.state y : Int).toNat 0) m.forms = _
    rw [Int.toNat_natCast]
  | y :: z :: l => rw [if_pos (show lastOf m (y :: z :: l) < 0 from (by decide : (-2 : Int) < 0)), bitsOf_zero]
end
end G
namespace G
open PySem L2
open Evl (Ex)
theorem sr_one {F' : Hp} {z : Sl} (h : ∀ xs, z ≠ .a (.r xs)) : ∃ z', SR F' z z' ∧ ∀ xs, z' ≠ .a (.r xs) := by
  cases z with
  | no => exact ⟨_, .no, fun xs e => nomatch e⟩
  | own xs => exact ⟨_, .own xs, fun xs e => nomatch e⟩
  | a x =>
    cases x with
    | d x => exact ⟨_, .d x, fun xs e => by cases e⟩
    | w x => exact ⟨_, .w x, fun xs e => by cases e⟩
    | l xs => exact ⟨_, .lno, fun xs e => nomatch e⟩
    | o k u => exact ⟨_, .ow, fun xs e => by cases e⟩
    | r xs => exact absurd rfl (h xs)
section
variable {P : Program} {w : World} {K : PySem.W.Frag} {mg : Str → Option Value} {base : Heap} {f CK C : Addr} {fd : FuncData}
def preLaw (K : PySem.W.Frag) (as : List A) (fp : Addr → Prop) (post : RM) : Prop := ∃ (inH : Bool) (a : Addr) (ns : List Int), ns.length ≤ 63 ∧ as = [.o (HA.sq K inH a (ns.map V.int)) (.ref a)] ∧ fp = (fun _ => False) ∧ post = fun v k => ∃ k', k = (HA.val (.bl true) v).and k'
theorem ev_looked {g ll : Addr} {b : M} {T : ST} {last : List (List Nat)} {ss : List Sl} {i : Nat} {E : XK} (h : ss[i]? = some (KpS CK C g ll b T last)) : EvN K (tMeth CK "looked" (spD K (preLkd CK C)) [] E (tVar i) tNil) ss (last.map plD) :=
  evn_meth (k0 := HA.kept CK C g ll b T last) (ev_o h) ea_nil (fun B kn => kept_meth (kn i _ _ h) (by decide) (by decide) (by decide)) (fun B kn => kn i _ _ h) ⟨g, ll, b, T, last, rfl, rfl⟩
theorem sc_law : FnScope ["_law_script", "_law_words", "_law_xs", "_law_tags", "_law_machine_here", "_law_turner_here", "_law_back", "_law_doc_here", "_law_kept", "_law_due", "_law_cell", "_law_deed_here", "_law_new", "_law_tag", "_law_after", "_law_found"] ["_law_script"] (defScope s_law) := ⟨rfl, rfl, rfl, by decide +kernel, rfl, by decide +kernel, by decide +kernel⟩
theorem ok_law (F : FnP K "law" "law" s_law f fd) (T : Txt mg) (cK : ClsK K CK) (m_looked : MCal P w K mg base CK "looked" 1 ["self"] (spD K (preLkd CK C))) (c_l_cell_at : Cal P w K mg base "_law_cell_at" 1 ["_law_script", "_law_k"] (spD K preCell)) (c_l_names : Cal P w K mg base "_law_names" 2 ["_law_cell", "_law_many"] (spX K preNames postNames))
    (c_l_numbers : Cal P w K mg base "_law_numbers" 2 ["_law_script", "_law_start", "_law_many"] (spX K preNums postNums)) (c_l_began : Cal P w K mg base "_law_began" 3 ["_law_xs", "_law_words"] (spX K preBegan postBegan)) (c_drawn_back : Cal P w K mg base "drawn_back" 12 ["turner", "machine"] (spM K preDrawn))
    (c_l_doc : Cal P w K mg base "_law_doc" 3 ["_law_xs", "_law_at_here", "_law_deep", "_law_tags"] (spD K (preDoc 3))) (c_Kept : Mkc P w K mg base "Kept" CK 33 ["self", "machine", "doc"] (spM K (preKi CK C))) (c_l_seen : Cal P w K mg base "_law_seen" 42 ["_law_kept", "_law_machine_here", "_law_turner_here", "_law_doc_here", "_law_cell"] (spD K (preSeen CK C)))
    (c_l_deed : Cal P w K mg base "_law_deed" 21 ["_law_doc_here", "_law_cell"] (spD K preDeed)) (c_l_done : Cal P w K mg base "_law_done" 21 ["_law_doc_here", "_law_deed_here", "_law_new", "_law_tag"] (spD K preDone)) (c_l_turned_size : Cal P w K mg base "_law_turned_size" 26 ["_law_rules", "_law_doc_here"] (spD K (preTsz 20)))
    (c_l_change : Cal P w K mg base "_law_change" 34 ["_law_kept", "_law_deed_here", "_law_new", "_law_tag"] (spM K (preCh CK C))) (c_l_looked : Cal P w K mg base "_law_looked" 41 ["_law_machine_here", "_law_before", "_law_after", "_law_deed_here", "_law_new"] (spD K preLooked)) :
    FnOk P w K mg base CX0 43 f fd ["_law_script"] (spM K (preLaw K)) := by
  refine fnM F sc_law (n := 15) rfl (fun as fp post h => by obtain ⟨_, _, _, _, rfl, _⟩ := h; rfl) fun cdv A outer s0 H E hr => ⟨_,
    (pss_cons (ps_set (i := 1) sc_law.nd rfl (Or.inl rfl) (pe_cal c_l_names hr (by rfl) (pa_cons (pe_cal c_l_cell_at hr (by rfl) (pa_cons (pv 0) (pa_cons pe_int pa_nil))) (pa_cons pe_int pa_nil))))
    (pss_cons (ps_set (i := 2) sc_law.nd rfl (Or.inl rfl) (pe_cal c_l_numbers hr (by rfl) (pa_cons (pv 0) (pa_cons pe_int (pa_cons pe_int pa_nil)))))
    (pss_cons (ps_set (i := 3) sc_law.nd rfl (Or.inl rfl) (pe_slice (sl_listK K) (pv 1) po_none (po_some pe_int)))
    (pss_cons (ps_asg (pe_cal c_l_began hr (by rfl) (pa_cons (pv 2) (pa_cons (pv 1) pa_nil))) (pg_tup rfl (pgs_cons (pg_name (i := 4) sc_law.nd rfl (Or.inl rfl)) (pgs_cons (pg_name (i := 5) sc_law.nd rfl (Or.inl rfl)) pgs_nil))))
    (pss_cons (ps_set (i := 6) sc_law.nd rfl (Or.inl rfl) (pe_cal c_drawn_back hr (by rfl) (pa_cons (pv 5) (pa_cons (pv 4) pa_nil))))
    (pss_cons (ps_set (i := 7) sc_law.nd rfl (Or.inl rfl) (pe_cal c_l_doc hr (by rfl) (pa_cons (pv 2) (pa_cons pe_int (pa_cons pe_int (pa_cons (pv 3) pa_nil))))))
    (pss_cons (ps_set (i := 8) sc_law.nd rfl (Or.inl rfl) (pe_mkc c_Kept hr (by rfl) (pa_cons (pv 6) (pa_cons (pv 7) pa_nil))))
    (pss_cons (ps_if (PW.pt (pw_or (pt_cmpR (op_neK K hr) (pe_mcal0 cK.c m_looked hr (pv 8)) (pe_lst pa_nil) (nomark _)) (pw_or1 (pt_not (pt_val (pe_cal c_l_seen hr (by rfl) (pa_cons (pv 8) (pa_cons (pv 4) (pa_cons (pv 5) (pa_cons (pv 7) (pa_cons pe_int pa_nil)))))))))))
    (pss_one (ps_ret pe_bl))
    pss_nil)
    (pss_cons (ps_set (i := 9) sc_law.nd rfl (Or.inl rfl) (pe_lst pa_nil))
    (pss_cons (ps_for PassesOwn.never rfl (pi_listK K (pe_slice (sl_listK K) (pv 0) (po_some pe_int) (po_some pe_int))) (pg_name (i := 10) sc_law.nd rfl (Or.inl rfl))
    (pss_cons (ps_set (i := 10) sc_law.nd rfl (Or.inl rfl) (pe_op op_mod (pv 10) (pe_op op_pow pe_int pe_int)))
    (pss_cons (ps_set (i := 11) sc_law.nd rfl (Or.inl rfl) (pe_cal c_l_deed hr (by rfl) (pa_cons (pv 7) (pa_cons (pv 10) pa_nil))))
    (pss_cons (ps_set (i := 12) sc_law.nd rfl (Or.inl rfl) (pe_tup (pa_cons (pe_ix (ix_listK K) (pv 3) (pe_op op_mod (pe_op op_fdiv (pv 10) pe_int) pe_int) (fun _ _ => rfl)) (pa_cons (pe_slice (sl_tupK K) (pe_tup (pa_cons (pe_tup (pa_cons (pe_ix (ix_listK K) (pv 3) (pe_op op_mod (pe_op op_fdiv (pv 10) pe_int) pe_int) (fun _ _ => rfl)) (pa_cons (pe_tup pa_nil) pa_nil))) pa_nil)) po_none (po_some (pe_op op_mod (pe_op op_fdiv (pv 10) pe_int) pe_int))) pa_nil))))
    (pss_cons (ps_set (i := 13) sc_law.nd rfl (Or.inl rfl) (pe_ix (ix_listK K) (pv 1) (pe_op op_mod (pe_op op_fdiv (pv 10) pe_int) pe_int) (fun _ _ => rfl)))
    (pss_cons (ps_set (i := 14) sc_law.nd rfl (Or.inl rfl) (pe_cal c_l_done hr (by rfl) (pa_cons (pv 7) (pa_cons (pv 11) (pa_cons (pv 12) (pa_cons (pv 13) pa_nil))))))
    (pss_cons (ps_if (pt_cmpR op_gt (pe_cal c_l_turned_size hr (by rfl) (pa_cons (pv 5) (pa_cons (pv 14) pa_nil))) pe_int (nomark _))
    (pss_one (ps_ret pe_bl))
    pss_nil)
    (pss_cons (ps_expr (pe_cal c_l_change hr (by rfl) (pa_cons (pv 8) (pa_cons (pv 11) (pa_cons (pv 12) (pa_cons (pv 13) pa_nil))))))
    (pss_cons (ps_set (i := 9) sc_law.nd rfl (Or.inl rfl) (pe_cal c_l_looked hr (by rfl) (pa_cons (pv 6) (pa_cons (pv 7) (pa_cons (pv 14) (pa_cons (pv 11) (pa_cons (pv 12) pa_nil)))))))
    (pss_cons (ps_set (i := 7) sc_law.nd rfl (Or.inl rfl) (pv 14))
    (pss_cons (ps_if (pt_cmpR op_eq (pe_op op_mod (pe_op op_mod (pe_op op_mul (pv 10) pe_int) pe_int) pe_int) pe_int (nomark _))
    (pss_one ps_continue)
    pss_nil)
    (pss_cons (ps_set (i := 15) sc_law.nd rfl (Or.inl rfl) (pe_mcal0 cK.c m_looked hr (pv 8)))
    (pss_cons (ps_if (PW.pt (pw_or (pt_not (pt_val (pe_callB (call_isiK' K) (by rfl) T.isinstance (by decide +kernel) (pa_cons (pv 15) (pa_cons (pe_bltn (v := .ty "list") (by rfl) T.list (by decide +kernel) rfl) pa_nil))))) (pw_or1 (pt_cmpR (op_neK K hr) (pv 15) (pv 9) (nomark _)))))
    (pss_one (ps_ret pe_bl))
    pss_nil)
    (pss_cons (ps_expr (pe_app K (pv 15) (pe_tup pa_nil)))
    (pss_one (ps_if (pt_not (pt_val (pe_cal c_l_seen hr (by rfl) (pa_cons (pv 8) (pa_cons (pv 4) (pa_cons (pv 5) (pa_cons (pv 7) (pa_cons (pv 10) pa_nil))))))))
    (pss_one (ps_ret pe_bl))
    pss_nil))))))))))))))))
    (pss_one (ps_ret (pe_and (pe_cmpR (op_eqK K hr) (pe_mcal0 cK.c m_looked hr (pv 8)) (pv 9) (nomark _)) (pe_one (pe_cal c_l_seen hr (by rfl) (pa_cons (pv 8) (pa_cons (pv 4) (pa_cons (pv 5) (pa_cons (pv 7) (pa_cons pe_int pa_nil)))))))))))))))))))), fun as fp post h kn0 => ?_⟩
  obtain ⟨inH, a, ns, hns, rfl, rfl, rfl⟩ := h
  have hsqH : ∀ c, (HA.sq K inH a (ns.map V.int)).fp c → H c ≠ none := fun c hc => HA.sq_al (kn0 0 _ _ rfl) c hc
  -- words, numbers
  refine sdm_seq (sdm_of (sd_callX (ea_cons (ev_call (d := .int (cellAt ns 0)) (ea_cons (ev_sq rfl) (ea_cons (ev_n 0) ea_nil)) ⟨ns, 0, rfl, rfl⟩) (ea_cons (ev_n 8) ea_nil)) ⟨_, rfl⟩ fun r ⟨ws, hw, hnd, hnm, er⟩ => ⟨_, er, ?_⟩))
  refine sdm_seq (sdm_of (sd_callX (ea_cons (ev_sq rfl) (ea_cons (ev_n 1) (ea_cons (ev_n 40) ea_nil))) ⟨ns, 1, 40, by omega, by decide, by decide, rfl⟩ fun r hr => ?_))
  obtain ⟨xs, hx, _, er⟩ := hr _ _ _ rfl
  refine ⟨_, er, ?_⟩
  refine sdm_seq (sdm_setN (evn_slTo (k := 3) ev_v (ev_n 3)) ?_)
  have ht3 : (ws.take 3).length = 3 := by rw [List.length_take, hw]; rfl
  have htne : ws.take 3 ≠ [] := fun e => by rw [e] at ht3; cases ht3
  have htm : ∀ x ∈ ws.take 3, Nm x := fun x h => hnm x (List.mem_of_mem_take h)
  -- machine, turner
  refine sdm_seq (sdm_of (sd_callX2 (ea_cons ev_v (ea_cons ev_v ea_nil)) ⟨xs, ws, hx, hw, hnd, hnm, rfl⟩ fun r ⟨m, n, t, l, hbg, er⟩ => ⟨_, _, er, ?_⟩))
  obtain ⟨hm, hmf, ht, hml, htl, hbd, hn3, hl3, hlN, hfN⟩ := hbg
  have hbp : BackPre m t n := ⟨hm, ht, l, hml, htl, hbd⟩
  have hm40 : m.names.length ≤ 40 := Nat.le_trans (nd_len hm.nd hml) (by omega)
  -- the machine drawn back
  refine sdm_seq (sdm_setD (P := fun ss' d => ∃ b, Back m t n b ∧ d = b.d ∧ ss' = [.a (.o (HA.sq K inH a (ns.map V.int)) (.ref a)), .own (ws.map .str), .own (xs.map nat), .own ((ws.take 3).map .str), .a (.d m.d), .a (.d t.d), .no, .no, .no, .no, .no, .no, .no, .no, .no, .no])
    (evd_m (P1 := fun ss' v k => ∃ b, Back m t n b ∧ k = (HA.val b.d v).and HA.nil ∧ ss' = [.a (.o (HA.sq K inH a (ns.map V.int)) (.ref a)), .own (ws.map .str), .own (xs.map nat), .own ((ws.take 3).map .str), .a (.d m.d), .a (.d t.d), .no, .no, .no, .no, .no, .no, .no, .no, .no, .no])
      (evm_call (ea_cons ev_v (ea_cons ev_v ea_nil)) ⟨fun _ => False, _, ⟨m, t, n, hbp, hm40, rfl, rfl, rfl⟩, fun a z => z.elim, fun B kn a z => z.elim, fun v k ⟨b, h1, h2⟩ F F' kn fr hk hkf hd => ⟨_, .cons (.o ((HA.sq K inH a (ns.map V.int)).fr fr (kn 0 _ _ rfl) fun _ _ z => z)) (.cons (.own _) (.cons (.own _) (.cons (.own _) (.cons (.d _) (.cons (.d _) (.cons .no (.cons .no (.cons .no (.cons .no (.cons .no (.cons .no (.cons .no (.cons .no (.cons .no (.cons .no .nil))))))))))))))), b, h1, h2, rfl⟩⟩)
      fun ss' v k ⟨b, h1, h2, h3⟩ => ⟨_, ⟨b, h1, rfl, h3⟩, fun B hk => by subst h2; exact hk.1⟩) fun ss' d ⟨b, hback, e1, e2⟩ => ?_)
  subst e1 e2
  obtain ⟨N, hb⟩ := hback.ok
  have hbn : ∀ x ∈ b.names, x ≠ "" := fun x hx e => by
    obtain ⟨_, _, hmem, _⟩ := hback
    have hxl : x ∈ l := by
      rcases (hmem x).mp hx with h | h
      · exact hml x h
      · obtain ⟨q, hq, rfl⟩ := List.mem_map.mp h
        exact htl q hq
    obtain ⟨l', e', h1, _⟩ := hlN x hxl
    rw [e] at e'
    have := congrArg Str.length e'
    rw [SX.S_len l'] at this
    have h0 : ("" : Str).length = 0 := rfl
    omega
  have hsame := hback.same hbn
  -- the document, kept
  obtain ⟨hd1, hd2, hd3⟩ := lawDoc_ok (xs := xs) htne (fun x h => (htm x h).strOk) 2 24
  have hd3 : (lawDoc xs (ws.take 3) 2 24).size ≤ 13 := hd3
  refine sdm_seq (sdm_set (d := (lawDoc xs (ws.take 3) 2 24).d) (ev_call (ea_cons ev_v (ea_cons (ev_n 24) (ea_cons (ev_n 2) (ea_cons ev_v ea_nil)))) ⟨xs, 24, 2, ws.take 3, by decide, by omega, by decide, by omega, htne, rfl, rfl⟩) ?_)
  generalize lawDoc xs (ws.take 3) 2 24 = x0 at hd1 hd2 hd3
  refine sdm_seq (sdm_setM (P := fun ss' v k => ∃ g ll T, T.doc = x0 ∧ T.Fit b ∧ T.Nu ∧ Sp T g ll ∧ v = .ref g ∧ k = HA.kept CK C g ll b T [] ∧ ss' = [.a (.o (HA.sq K inH a (ns.map V.int)) (.ref a)), .own (ws.map .str), .own (xs.map nat), .own ((ws.take 3).map .str), .a (.d m.d), .a (.d t.d), .a (.d b.d), .a (.d x0.d), .no, .no, .no, .no, .no, .no, .no, .no])
    (evm_make (ea_cons ev_v (ea_cons ev_v ea_nil)) fun g _ => ⟨_, ⟨g, b, N, x0, hb, by omega, by omega, rfl, rfl, rfl⟩, fun v k ⟨e0, ll, T, e1, e2, e3, e4, e5⟩ => ⟨e0, g, ll, T, e1, e2, e3, e4, rfl, e5, rfl⟩⟩) fun ss' v k ⟨g, ll, T0, e1, hfit, hnu, hsp, e2, e3, e4⟩ hkf => ?_)
  subst e1 e2 e3 e4
  have hkf : ∀ c, (HA.kept CK C g ll b T0 []).fp c → False ∨ H c = none := hkf
  -- seen, at the start
  have hms : ∀ x ∈ m.forms, PyData.strOk x = true := fun x h => (hfN x h).strOk
  have seen : ∀ {ss : List Sl} {ll : Addr} {T : ST} {last : List (List Nat)} {tc : TE} {c : Nat} {E : XK}, ss[8]? = some (KpS CK C g ll b T last) → ss[4]? = some (.a (.d m.d)) → ss[5]? = some (.a (.d t.d)) → ss[7]? = some (.a (.d T.doc.d)) → Ev K tc ss (.d (nat c)) → T.Fit b → T.doc.okS = true → T.doc.ht ≤ 20 → T.doc.size ≤ 400 →
      Ev K (tCall (spD K (preSeen CK C)) [] E (tCons (tVar 8) (tCons (tVar 4) (tCons (tVar 5) (tCons (tVar 7) (tCons tc tNil)))))) ss (.d (.bl true)) := fun h8 h4 h5 h7 hc hfit hok hh hz =>
    ev_call (ea_cons (ev_v h8) (ea_cons (ev_v h4) (ea_cons (ev_v h5) (ea_cons (ev_v h7) (ea_cons hc ea_nil))))) ⟨g, _, b, m, N, n, t, _, _, _, hb, hm, by omega, hms, ht, hsame, hfit, hok, hh, hz, rfl, rfl⟩
  refine sdm_seq (sdm_if (b := false) (EvT.to (et_or (et_test (b := false) (ev_op (x := .l (([] : List (List Nat)).map plD)) (y := .l []) (EvN.l (ev_looked rfl)) (EvN.l (evn_lst eds_nil (by decide))) (rop_neSame (pls_shaped [])))) fun _ => et_not (et_test (b := true) (seen (c := 0) rfl rfl rfl rfl (ev_n 0) hfit hd1 (by omega) (by omega)))) rfl) (fun h => nomatch h) fun _ => sdm_next ?_)
  refine sdm_seq (sdm_setN (xs := ([] : List (List Nat)).map plD) (evn_lst eds_nil (by decide)) ?_)
  -- the changes
  have hcut : (cut (ns.map D.int) (some 41) (some 47)).length ≤ 6 := by
    have e41 : (41 : Int) = ((41 : Nat) : Int) := rfl
    have e47 : (47 : Int) = ((47 : Nat) : Int) := rfl
    unfold cut
    rw [e41, e47, HT.sIx_nat, HT.sIx_nat, List.length_take]
    omega
  refine sdm_seq (sdm_forNF (fp1 := (HA.kept CK C g ll b T0 []).fp) (xs := cut (ns.map D.int) (some 41) (some 47)) (fun F1 i ss => ∃ (ll' : Addr) (T : ST) (due : List (List Nat)) (z0 z10 z11 z12 z13 z14 z15 : Sl), T.Fit b ∧ T.Nu ∧ Sp T g ll' ∧ T.doc.okS = true ∧ T.doc.ht ≤ 3 + 2 * i ∧ T.doc.size ≤ 13 + 2 * i ∧ (∀ c, (HA.kept CK C g ll' b T due).fp c → (HA.kept CK C g ll b T0 []).fp c ∨ F1 c = none) ∧ (∀ xs, z0 ≠ .a (.r xs)) ∧ (∀ xs, z15 ≠ .a (.r xs)) ∧
      ss = [z0, .own (ws.map .str), .own (xs.map nat), .own ((ws.take 3).map .str), .a (.d m.d), .a (.d t.d), .a (.d b.d), .a (.d T.doc.d), KpS CK C g ll' b T due, .own (due.map plD), z10, z11, z12, z13, z14, z15])
    hkf (fun B kn c hc => HA.kept_al (kn 8 _ _ rfl) c hc) (evn_slR (ev_sq rfl) (eo_some ev_int) (eo_some ev_int)) (fun F1 hF1 kn => ⟨ll, T0, [], _, _, _, _, _, _, _, hfit, hnu, hsp, hd1, by omega, by omega, fun c hc => .inl hc, (fun xs e => by cases e), (fun xs e => by cases e), rfl⟩) ?_ ?_)
  · rintro F1 hF1 i c0 ss' hc0 ⟨ll', T, due, z0, z10, z11, z12, z13, z14, z15, hfit, hnu, hsp, hok, hh, hz, hfpk, hz0, hz15, rfl⟩
    have hi6 : i < 6 := Nat.lt_of_lt_of_le (List.getElem?_eq_some_iff.mp hc0).1 hcut
    obtain ⟨z, rfl⟩ : ∃ z : Int, c0 = .int z := by
      rw [cut_map, List.getElem?_map] at hc0
      cases hq : (cut ns (some 41) (some 47))[i]? with
      | none => rw [hq] at hc0; cases hc0
      | some z => rw [hq] at hc0; cases hc0; exact ⟨z, rfl⟩
    obtain ⟨c, hc⟩ : ∃ c : Nat, z % ((10 : Int) ^ (12 : Int).toNat) = (c : Int) := ⟨_, (Int.toNat_of_nonneg (Int.emod_nonneg _ (by decide))).symm⟩
    have hclt : (c : Int) < 10 ^ 12 := by
      rw [← hc]
      exact Int.emod_lt_of_pos _ (by decide)
    refine sdm_seq (sdm_set (d := nat c) (Ev.to (ev_op ev_v (ev_op ev_int ev_int (rop_ic (C := CPow) (g := fun i j => i ^ j.toNat) (show CPow 10 12 from ⟨by decide, by decide, by decide⟩))) (rop_ic (by decide))) (by rw [hc])) ?_)
    have he := lawDeed_ok T.doc c
    refine sdm_seq (sdm_set (d := (lawDeed T.doc c).d) (ev_call (ea_cons ev_v (ea_cons ev_v ea_nil)) ⟨T.doc, c, by omega, by omega, rfl, rfl⟩) ?_)
    generalize lawDeed T.doc c = e at he
    let nk : List Doc := ([Doc.mk ((ws.take 3).getD (c / 16384 % 3) "") []] : List Doc).take (c / 65536 % 2)
    let new : Doc := .mk ((ws.take 3).getD (c / 4096 % 3) "") nk
    have m1 : c / 16384 % 3 < (ws.take 3).length := by rw [ht3]; exact Nat.mod_lt _ (by decide)
    have m2 : c / 4096 % 3 < (ws.take 3).length := by rw [ht3]; exact Nat.mod_lt _ (by decide)
    have s1 : PyData.strOk ((ws.take 3).getD (c / 16384 % 3) "") = true := (htm _ (getD_mem m1)).strOk
    have s2 : PyData.strOk ((ws.take 3).getD (c / 4096 % 3) "") = true := (htm _ (getD_mem m2)).strOk
    have hnew : new.okS = true ∧ new.ht ≤ 2 ∧ new.size ≤ 2 := by
      have h2 : c / 65536 % 2 = 0 ∨ c / 65536 % 2 = 1 := by omega
      show (Doc.mk _ (List.take (c / 65536 % 2) _)).okS = true ∧ (Doc.mk _ (List.take (c / 65536 % 2) _)).ht ≤ 2 ∧ (Doc.mk _ (List.take (c / 65536 % 2) _)).size ≤ 2
      rcases h2 with h2 | h2
      · rw [h2, List.take_zero, Doc.okS, Doc.okSs, Doc.ht, Doc.hts, Doc.size, Doc.sizes, s2]
        exact ⟨rfl, by decide, by decide⟩
      · rw [h2, List.take_succ_cons, List.take_zero, Doc.okS, Doc.okSs, Doc.okS, Doc.okSs, Doc.ht, Doc.hts, Doc.ht, Doc.hts, Doc.size, Doc.sizes, Doc.size, Doc.sizes, s1, s2]
        exact ⟨rfl, by decide, by decide⟩
    obtain ⟨hn1, hn2, hn3'⟩ := hnew
    have nth : ∀ {ss : List Sl} (q : Nat), q < 1073741824 → 0 < q → ss[3]? = some (.own ((ws.take 3).map .str)) → ss[10]? = some (.a (.d (nat c))) → Ev K (tOp (rIxL K) (tVar 3) (tOp (rI (fun _ j => 0 < j) fun i j => .int (i % j)) (tOp (rI CDiv fun i j => .int (i / j)) (tVar 10) (tC (.int (q : Int)))) (tC (.int 3)))) ss (.d (.str ((ws.take 3).getD (c / q % 3) ""))) := fun q hq hq0 h3 h10 =>
      ev_nthS (ev_v h3) (ev_modN (ev_divN (ev_v h10) (ev_n q) hq0 hq) (ev_n 3) (by decide)) (by rw [ht3]; exact Nat.mod_lt _ (by decide))
    refine sdm_seq (sdm_set (d := new.d) (ev_mkD (n := (ws.take 3).getD (c / 4096 % 3) "") (ks := nk) (nth 4096 (by decide) (by decide) rfl rfl) (ev_slTo (e := Doc.d) (xs := [Doc.mk ((ws.take 3).getD (c / 16384 % 3) "") []]) (k := c / 65536 % 2) (ev_t1 (ev_mkD (ks := []) (nth 16384 (by decide) (by decide) rfl rfl) (ev_tup eds_nil (by decide)))) (ev_modN (ev_divN ev_v (ev_n 65536) (by decide) (by decide)) (ev_n 2) (by decide)))) ?_)
    have m4 : c / 512 % 4 < ws.length := by rw [hw]; have := Nat.mod_lt (c / 512) (show 0 < 4 by decide); omega
    refine sdm_seq (sdm_set (d := .str (ws.getD (c / 512 % 4) "")) (ev_nthS ev_v (ev_modN (ev_divN ev_v (ev_n 512) (by decide) (by decide)) (ev_n 4) (by decide)) m4) ?_)
    have htag : Nm (ws.getD (c / 512 % 4) "") := hnm _ (getD_mem m4)
    generalize new = new at hn1 hn2 hn3'
    generalize ws.getD (c / 512 % 4) "" = tag at htag
    refine sdm_seq (sdm_set (d := (e.done T.doc new tag).d) (ev_call (ea_cons ev_v (ea_cons ev_v (ea_cons ev_v (ea_cons ev_v ea_nil)))) ⟨T.doc, new, tag, e, he, by omega, by omega, rfl, rfl⟩) ?_)
    obtain ⟨g1, g2, g3⟩ := Dd.done_ok he hok hn1 htag.strOk hn2 hn3'
    refine sdm_seq (sdm_if (et_test (ev_op (x := .d (nat (t.tsz (e.done T.doc new tag)))) (ev_call (ea_cons ev_v (ea_cons ev_v ea_nil)) ⟨t, e.done T.doc new tag, ht, by omega, g1, by omega, rfl, rfl⟩) ev_int rop_ib)) (fun _ => sdm_ret (k := HA.nil) ev_bl (fun B kn => trivial) (fun a z => z.elim) fun v => ⟨_, rfl⟩) fun _ => sdm_next ?_)
    -- the change
    refine sdm_seq (sdm_dropM (P := fun ss' v k => ∃ ll2 T2 y0 y15, T2.doc = e.done T.doc new tag ∧ T2.Fit b ∧ T2.Nu ∧ Sp T2 g ll2 ∧ (∀ c, (HA.kept CK C g ll2 b T2 (lawDue b T.doc (e.done T.doc new tag) new e)).fp c → (HA.kept CK C g ll b T0 []).fp c ∨ F1 c = none) ∧ (∀ xs, y0 ≠ .a (.r xs)) ∧ (∀ xs, y15 ≠ .a (.r xs)) ∧
        ss' = [y0, .own (ws.map .str), .own (xs.map nat), .own ((ws.take 3).map .str), .a (.d m.d), .a (.d t.d), .a (.d b.d), .a (.d T.doc.d), KpS CK C g ll2 b T2 (lawDue b T.doc (e.done T.doc new tag) new e), .own (due.map plD), .a (.d (nat c)), .a (.d e.d), .a (.d new.d), .a (.d (.str tag)), .a (.d (e.done T.doc new tag).d), y15])
      (evm_call (ea_cons ev_v (ea_cons ev_v (ea_cons ev_v (ea_cons ev_v ea_nil)))) ⟨(HA.kept CK C g ll' b T due).fp, _, ⟨g, ll', b, N, T, due, e, new, tag, hb, hnu, hsp, hfit, he, hok, by omega, by omega, hn1, hn2, hn3', htag, htag.strOk, rfl, rfl, rfl⟩, hfpk, fun B kn c hc => HA.kept_al (kn 8 _ _ rfl) c hc, fun v k ⟨ev, ll2, T2, e1, e2, e3, e4, e5⟩ F F' kn fr hk' hkf' hd => ?_⟩) fun ss' v k ⟨ll2, T2, y0, y15, e1, e2, e3, e4, e5, e6, e7, e8⟩ _ => ?_)
    · subst e5
      obtain ⟨y0, q0, q0'⟩ := sr_one (F' := F') hz0
      obtain ⟨y15, q15, q15'⟩ := sr_one (F' := F') hz15
      exact ⟨_, .cons q0 (.cons (.own _) (.cons (.own _) (.cons (.own _) (.cons (.d _) (.cons (.d _) (.cons (.d _) (.cons (.d _) (.cons (.o hk') (.cons (.own _) (.cons (.d _) (.cons (.d _) (.cons (.d _) (.cons (.d _) (.cons (.d _) (.cons q15 .nil))))))))))))))), ll2, T2, y0, y15, e1, e2, e3, e4, fun c hc => (hkf' c hc).elim (hfpk c) fun z => .inr (hd c z), q0', q15', rfl⟩
    subst e8
    refine sdm_seq (sdm_setN (xs := (lawDue b T.doc (e.done T.doc new tag) new e).map plD) (evn_call (ea_cons ev_v (ea_cons ev_v (ea_cons ev_v (ea_cons ev_v (ea_cons ev_v ea_nil))))) ⟨b, N, T.doc, e.done T.doc new tag, new, e, hb, he, Dd.done_at he, by omega, by omega, by omega, by omega, rfl, rfl⟩) ?_)
    refine sdm_seq (sdm_set (d := (e.done T.doc new tag).d) ev_v ?_)
    have hdl : (lawDue b T.doc (e.done T.doc new tag) new e).length < 100000 := by
      obtain ⟨y, hy⟩ := he.q_at
      have h1 := Doc.at_ht hy
      have h2 := climb_len b T.doc (e.done T.doc new tag) e.q e.q.length
      have h3 : (e.first new).length ≤ 2 := by
        cases e with
        | put p => rw [Dd.first, Doc.up_len]; exact hn3'
        | cut p => exact Nat.zero_le _
        | ren p => exact Nat.zero_le _
      unfold lawDue
      rw [List.length_append]
      omega
    generalize lawDue b T.doc (e.done T.doc new tag) new e = told at e5 hdl
    generalize e.done T.doc new tag = x2 at e1 g1 g2 g3
    subst e1
    refine sdm_seq (sdm_if (et_test (ev_op (ev_op (ev_op (ev_op (x := .d (nat c)) ev_v ev_int (rop_ic (C := CMul) (g := fun i j => i * j) (.inr ⟨by decide, by decide⟩))) ev_int (rop_ic (by decide))) ev_int (rop_ic (by decide))) ev_int rop_eqI)) (fun _ => sdm_cont ⟨ll2, T2, told, _, _, _, _, _, _, _, e2, e3, e4, g1, by omega, by omega, e5, e6, e7, rfl⟩) fun _ => sdm_next ?_)
    refine sdm_seq (sdm_setN (ev_looked (i := 8) rfl) ?_)
    refine sdm_seq (sdm_if (b := false) (EvT.to (et_or (et_not (et_test (b := true) (ev_isList ev_v))) fun _ => et_test (b := false) (ev_op (x := .l (told.map plD)) (y := .l (told.map plD)) ev_v ev_v (rop_neSame (pls_shaped told)))) rfl) (fun h => nomatch h) fun _ => sdm_next ?_)
    refine sdm_seq (sdm_of (sd_app (i := 15) rfl (d := plD []) (Ev.to (y := .d (plD [])) (ev_tup eds_nil (by decide)) rfl) (by rw [List.length_map]; exact hdl) ?_))
    refine sdm_if (b := false) (EvT.to (et_not (et_test (b := true) (seen (c := c) rfl rfl rfl rfl ev_v e2 g1 (by omega) (by omega)))) rfl) (fun h => nomatch h) fun _ => sdm_next ⟨ll2, T2, told, _, _, _, _, _, _, _, e2, e3, e4, g1, by omega, by omega, e5, e6, (fun xs e => by cases e), rfl⟩
  · rintro F1 hF1 ss' ⟨ll', T, due, z0, z10, z11, z12, z13, z14, z15, hfit, hnu, hsp, hok, hh, hz, hfpk, hz0, hz15, rfl⟩
    exact sdm_ret (k := HA.nil) (ev_andV (a := true) (b := true) (ev_op (x := .l (due.map plD)) (y := .l (due.map plD)) (EvN.l (ev_looked (i := 8) rfl)) ev_v (rop_eqSame (pls_shaped due))) fun _ => seen (c := 0) rfl rfl rfl rfl (ev_n 0) hfit hok (by omega) (by omega)) (fun B kn => trivial) (fun a z => z.elim) fun v => ⟨_, rfl⟩
end
end G
namespace GH
set_option maxHeartbeats 0
open PySem PySem.Spec PyProof.Rows L2
def d_Grower_init : He.DefD := ⟨("Grower", some "__init__"), "__init__", "Grower.__init__", defArgs G.s_Grower_init, defBody G.s_Grower_init, defScope G.s_Grower_init, [], []⟩
def d_Grower_number : He.DefD := ⟨("BackGrower", some "number"), "number", "Grower.number", defArgs G.s_Grower_number, defBody G.s_Grower_number, defScope G.s_Grower_number, [], []⟩
def d_Grower_tables : He.DefD := ⟨("BackGrower", some "tables"), "tables", "Grower.tables", defArgs G.s_Grower_tables, defBody G.s_Grower_tables, defScope G.s_Grower_tables, [], []⟩
def d_start_of : He.DefD := ⟨("start_of", none), "start_of", "start_of", defArgs G.s_start_of, defBody G.s_start_of, defScope G.s_start_of, [], []⟩
def d_all_names : He.DefD := ⟨("all_names", none), "all_names", "all_names", defArgs G.s_all_names, defBody G.s_all_names, defScope G.s_all_names, [], []⟩
def d_forms_of : He.DefD := ⟨("forms_of", none), "forms_of", "forms_of", defArgs G.s_forms_of, defBody G.s_forms_of, defScope G.s_forms_of, [], []⟩
def d_is_name : He.DefD := ⟨("is_name", none), "is_name", "is_name", defArgs G.s_is_name, defBody G.s_is_name, defScope G.s_is_name, [], []⟩
def d_size_of : He.DefD := ⟨("size_of", none), "size_of", "size_of", defArgs G.s_size_of, defBody G.s_size_of, defScope G.s_size_of, [], []⟩
def d_items_for : He.DefD := ⟨("items_for", none), "items_for", "items_for", defArgs G.s_items_for, defBody G.s_items_for, defScope G.s_items_for, [], []⟩
def d_way_of_none : He.DefD := ⟨("way_of_none", none), "way_of_none", "way_of_none", defArgs G.s_way_of_none, defBody G.s_way_of_none, defScope G.s_way_of_none, [], []⟩
def d_way_of_one : He.DefD := ⟨("way_of_one", none), "way_of_one", "way_of_one", defArgs G.s_way_of_one, defBody G.s_way_of_one, defScope G.s_way_of_one, [], []⟩
def d_way_behind : He.DefD := ⟨("way_behind", none), "way_behind", "way_behind", defArgs G.s_way_behind, defBody G.s_way_behind, defScope G.s_way_behind, [], []⟩
def d_item_state : He.DefD := ⟨("item_state", none), "item_state", "item_state", defArgs G.s_item_state, defBody G.s_item_state, defScope G.s_item_state, [], []⟩
def d_way_filled : He.DefD := ⟨("way_filled", none), "way_filled", "way_filled", defArgs G.s_way_filled, defBody G.s_way_filled, defScope G.s_way_filled, [], []⟩
def d_BackGrower_init : He.DefD := ⟨("BackGrower", some "__init__"), "__init__", "BackGrower.__init__", defArgs G.s_BackGrower_init, defBody G.s_BackGrower_init, defScope G.s_BackGrower_init, [], []⟩
def d_BackGrower_turned_way : He.DefD := ⟨("BackGrower", some "turned_way"), "turned_way", "BackGrower.turned_way", defArgs G.s_BackGrower_turned_way, defBody G.s_BackGrower_turned_way, defScope G.s_BackGrower_turned_way, [], []⟩
def d_BackGrower_step : He.DefD := ⟨("BackGrower", some "step"), "step", "BackGrower.step", defArgs G.s_BackGrower_step, defBody G.s_BackGrower_step, defScope G.s_BackGrower_step, [], []⟩
def d_BackGrower_mark : He.DefD := ⟨("BackGrower", some "mark"), "mark", "BackGrower.mark", defArgs G.s_BackGrower_mark, defBody G.s_BackGrower_mark, defScope G.s_BackGrower_mark, [], []⟩
def d_back_tables : He.DefD := ⟨("back_tables", none), "back_tables", "back_tables", defArgs G.s_back_tables, defBody G.s_back_tables, defScope G.s_back_tables, [], []⟩
def d_drawn_back : He.DefD := ⟨("drawn_back", none), "drawn_back", "drawn_back", defArgs G.s_drawn_back, defBody G.s_drawn_back, defScope G.s_drawn_back, [], []⟩
def d_Spot_init : He.DefD := ⟨("Spot", some "__init__"), "__init__", "Spot.__init__", defArgs G.s_Spot_init, defBody G.s_Spot_init, defScope G.s_Spot_init, [], []⟩
def d_state_by : He.DefD := ⟨("state_by", none), "state_by", "state_by", defArgs G.s_state_by, defBody G.s_state_by, defScope G.s_state_by, [], []⟩
def d_spot_of : He.DefD := ⟨("spot_of", none), "spot_of", "spot_of", defArgs G.s_spot_of, defBody G.s_spot_of, defScope G.s_spot_of, [], []⟩
def d_doc_of : He.DefD := ⟨("doc_of", none), "doc_of", "doc_of", defArgs G.s_doc_of, defBody G.s_doc_of, defScope G.s_doc_of, [], []⟩
def d_upward_places : He.DefD := ⟨("upward_places", none), "upward_places", "upward_places", defArgs G.s_upward_places, defBody G.s_upward_places, defScope G.s_upward_places, [], []⟩
def d_Kept_init : He.DefD := ⟨("Kept", some "__init__"), "__init__", "Kept.__init__", defArgs G.s_Kept_init, defBody G.s_Kept_init, defScope G.s_Kept_init, [], []⟩
def d_Kept_now : He.DefD := ⟨("Kept", some "now"), "now", "Kept.now", defArgs G.s_Kept_now, defBody G.s_Kept_now, defScope G.s_Kept_now, [], []⟩
def d_Kept_spots : He.DefD := ⟨("Kept", some "spots"), "spots", "Kept.spots", defArgs G.s_Kept_spots, defBody G.s_Kept_spots, defScope G.s_Kept_spots, [], []⟩
def d_Kept_look : He.DefD := ⟨("Kept", some "look"), "look", "Kept.look", defArgs G.s_Kept_look, defBody G.s_Kept_look, defScope G.s_Kept_look, [], []⟩
def d_Kept_put : He.DefD := ⟨("Kept", some "put"), "put", "Kept.put", defArgs G.s_Kept_put, defBody G.s_Kept_put, defScope G.s_Kept_put, [], []⟩
def d_Kept_cut : He.DefD := ⟨("Kept", some "cut"), "cut", "Kept.cut", defArgs G.s_Kept_cut, defBody G.s_Kept_cut, defScope G.s_Kept_cut, [], []⟩
def d_Kept_rename : He.DefD := ⟨("Kept", some "rename"), "rename", "Kept.rename", defArgs G.s_Kept_rename, defBody G.s_Kept_rename, defScope G.s_Kept_rename, [], []⟩
def d_Kept_forms_at : He.DefD := ⟨("Kept", some "forms_at"), "forms_at", "Kept.forms_at", defArgs G.s_Kept_forms_at, defBody G.s_Kept_forms_at, defScope G.s_Kept_forms_at, [], []⟩
def d_Kept_looked : He.DefD := ⟨("Kept", some "looked"), "looked", "Kept.looked", defArgs G.s_Kept_looked, defBody G.s_Kept_looked, defScope G.s_Kept_looked, [], []⟩
def d__law_cell_at : He.DefD := ⟨("_law_cell_at", none), "_law_cell_at", "_law_cell_at", defArgs G.s__law_cell_at, defBody G.s__law_cell_at, defScope G.s__law_cell_at, [], []⟩
def d__law_numbers : He.DefD := ⟨("_law_numbers", none), "_law_numbers", "_law_numbers", defArgs G.s__law_numbers, defBody G.s__law_numbers, defScope G.s__law_numbers, [], []⟩
def d__law_any_names : He.DefD := ⟨("_law_any_names", none), "_law_any_names", "_law_any_names", defArgs G.s__law_any_names, defBody G.s__law_any_names, defScope G.s__law_any_names, [], []⟩
def d__law_names : He.DefD := ⟨("_law_names", none), "_law_names", "_law_names", defArgs G.s__law_names, defBody G.s__law_names, defScope G.s__law_names, [], []⟩
def d__law_machine : He.DefD := ⟨("_law_machine", none), "_law_machine", "_law_machine", defArgs G.s__law_machine, defBody G.s__law_machine, defScope G.s__law_machine, [], []⟩
def d__law_item : He.DefD := ⟨("_law_item", none), "_law_item", "_law_item", defArgs G.s__law_item, defBody G.s__law_item, defScope G.s__law_item, [], []⟩
def d__law_turner : He.DefD := ⟨("_law_turner", none), "_law_turner", "_law_turner", defArgs G.s__law_turner, defBody G.s__law_turner, defScope G.s__law_turner, [], []⟩
def d__law_filled : He.DefD := ⟨("_law_filled", none), "_law_filled", "_law_filled", defArgs G.s__law_filled, defBody G.s__law_filled, defScope G.s__law_filled, [], []⟩
def d__law_holed : He.DefD := ⟨("_law_holed", none), "_law_holed", "_law_holed", defArgs G.s__law_holed, defBody G.s__law_holed, defScope G.s__law_holed, [], []⟩
def d__law_turned : He.DefD := ⟨("_law_turned", none), "_law_turned", "_law_turned", defArgs G.s__law_turned, defBody G.s__law_turned, defScope G.s__law_turned, [], []⟩
def d__law_filled_size : He.DefD := ⟨("_law_filled_size", none), "_law_filled_size", "_law_filled_size", defArgs G.s__law_filled_size, defBody G.s__law_filled_size, defScope G.s__law_filled_size, [], []⟩
def d__law_turned_size : He.DefD := ⟨("_law_turned_size", none), "_law_turned_size", "_law_turned_size", defArgs G.s__law_turned_size, defBody G.s__law_turned_size, defScope G.s__law_turned_size, [], []⟩
def d__law_places : He.DefD := ⟨("_law_places", none), "_law_places", "_law_places", defArgs G.s__law_places, defBody G.s__law_places, defScope G.s__law_places, [], []⟩
def d__law_below_first : He.DefD := ⟨("_law_below_first", none), "_law_below_first", "_law_below_first", defArgs G.s__law_below_first, defBody G.s__law_below_first, defScope G.s__law_below_first, [], []⟩
def d__law_at : He.DefD := ⟨("_law_at", none), "_law_at", "_law_at", defArgs G.s__law_at, defBody G.s__law_at, defScope G.s__law_at, [], []⟩
def d__law_with : He.DefD := ⟨("_law_with", none), "_law_with", "_law_with", defArgs G.s__law_with, defBody G.s__law_with, defScope G.s__law_with, [], []⟩
def d__law_state : He.DefD := ⟨("_law_state", none), "_law_state", "_law_state", defArgs G.s__law_state, defBody G.s__law_state, defScope G.s__law_state, [], []⟩
def d__law_forms : He.DefD := ⟨("_law_forms", none), "_law_forms", "_law_forms", defArgs G.s__law_forms, defBody G.s__law_forms, defScope G.s__law_forms, [], []⟩
def d__law_doc : He.DefD := ⟨("_law_doc", none), "_law_doc", "_law_doc", defArgs G.s__law_doc, defBody G.s__law_doc, defScope G.s__law_doc, [], []⟩
def d__law_deed : He.DefD := ⟨("_law_deed", none), "_law_deed", "_law_deed", defArgs G.s__law_deed, defBody G.s__law_deed, defScope G.s__law_deed, [], []⟩
def d__law_done : He.DefD := ⟨("_law_done", none), "_law_done", "_law_done", defArgs G.s__law_done, defBody G.s__law_done, defScope G.s__law_done, [], []⟩
def d__law_looked : He.DefD := ⟨("_law_looked", none), "_law_looked", "_law_looked", defArgs G.s__law_looked, defBody G.s__law_looked, defScope G.s__law_looked, [], []⟩
def d__law_seen : He.DefD := ⟨("_law_seen", none), "_law_seen", "_law_seen", defArgs G.s__law_seen, defBody G.s__law_seen, defScope G.s__law_seen, [], []⟩
def d__law_began : He.DefD := ⟨("_law_began", none), "_law_began", "_law_began", defArgs G.s__law_began, defBody G.s__law_began, defScope G.s__law_began, [], []⟩
def d__law_change : He.DefD := ⟨("_law_change", none), "_law_change", "_law_change", defArgs G.s__law_change, defBody G.s__law_change, defScope G.s__law_change, [], []⟩
def d_law : He.DefD := ⟨("law", none), "law", "law", defArgs G.s_law, defBody G.s_law, defScope G.s_law, [], []⟩
def fn : List He.DefD := [d_Grower_init, d_Grower_number, d_Grower_tables, d_start_of, d_all_names, d_forms_of, d_is_name, d_size_of, d_items_for, d_way_of_none, d_way_of_one, d_way_behind, d_item_state, d_way_filled, d_BackGrower_init, d_BackGrower_turned_way, d_BackGrower_step, d_BackGrower_mark, d_back_tables, d_drawn_back, d_Spot_init, d_state_by, d_spot_of, d_doc_of, d_upward_places, d_Kept_init, d_Kept_now, d_Kept_spots, d_Kept_look, d_Kept_put, d_Kept_cut, d_Kept_rename, d_Kept_forms_at, d_Kept_looked, d__law_cell_at, d__law_numbers, d__law_any_names, d__law_names, d__law_machine, d__law_item, d__law_turner, d__law_filled, d__law_holed, d__law_turned, d__law_filled_size, d__law_turned_size, d__law_places, d__law_below_first, d__law_at, d__law_with, d__law_state, d__law_forms, d__law_doc, d__law_deed, d__law_done, d__law_looked, d__law_seen, d__law_began, d__law_change, d_law]
def fa : List He.Fa := [.free "len", .free "tuple", .free "range", .free "list", .free "sorted", .free "set", .free "any", .free "sum", .free "max", .free "min", .free "isinstance", .free "reversed", .free "str", .str "HOLE" "*", .str "LETTERS" "abcdefghijklmnopqrstuvwxyz", .int "STATES" 64, .int "PLACES" 300, .glo "start_of", .glo "all_names", .glo "forms_of", .glo "is_name", .glo "size_of", .glo "items_for", .glo "way_of_none", .glo "way_of_one", .glo "way_behind", .glo "item_state", .glo "way_filled", .glo "back_tables", .glo "drawn_back", .glo "state_by", .glo "spot_of", .glo "doc_of", .glo "upward_places", .glo "_law_cell_at", .glo "_law_numbers", .glo "_law_any_names", .glo "_law_names", .glo "_law_machine", .glo "_law_item", .glo "_law_turner", .glo "_law_filled", .glo "_law_holed", .glo "_law_turned", .glo "_law_filled_size", .glo "_law_turned_size", .glo "_law_places", .glo "_law_below_first", .glo "_law_at", .glo "_law_with", .glo "_law_state", .glo "_law_forms", .glo "_law_doc", .glo "_law_deed", .glo "_law_done", .glo "_law_looked", .glo "_law_seen", .glo "_law_began", .glo "_law_change", .glo "law", .glo "Grower", .glo "BackGrower", .glo "Spot", .glo "Kept", .cls "BackGrower", .noat "BackGrower" "numbers", .noat "BackGrower" "states", .noat "BackGrower" "graft", .noat "BackGrower" "machine", .noat "BackGrower" "names", .noat "BackGrower" "ways", .mkr "BackGrower", .cls "Spot", .noat "Spot" "name", .noat "Spot" "state", .noat "Spot" "below", .mkr "Spot", .cls "Kept", .noat "Kept" "machine", .noat "Kept" "top", .noat "Kept" "last", .mkr "Kept", .meth "BackGrower" "number", .meth "BackGrower" "tables", .meth "BackGrower" "turned_way", .meth "BackGrower" "step", .meth "BackGrower" "mark", .meth "Kept" "now", .meth "Kept" "spots", .meth "Kept" "look", .meth "Kept" "put", .meth "Kept" "cut", .meth "Kept" "rename", .meth "Kept" "forms_at", .meth "Kept" "looked"]
abbrev R : PySem.W.OpenRow := PySem.W.OpenLaw.row PySem.Challenge.rw_graftform_k94_whole_turned_forms_without
/-- Grower.__init__, read off the class -/
def cm (K : PySem.W.Frag) : Bool := PySem.W.readsIn K (He.ga K "Grower") (.type "type") && (He.eqO (PySem.W.specialIn K (.ref (He.ga K "Grower")) "__getattribute__") (some (some (.builtin "type.__getattribute__"))) && ((match PySem.W.findCls K (.ref (He.ga K "Grower")) (.type "type") "__init__" with
  | some (.val (.ref f)) => decide (f = He.ma K (He.ga K "Grower") "__init__")
  | _ => false) && PySem.W.keepIn K (.ref (He.ma K (He.ga K "Grower") "__init__"))))
theorem cm_ok {K : PySem.W.Frag} (h : cm K = true) : PySem.W.readsIn K (He.ga K "Grower") (.type "type") = true ∧ PySem.W.specialIn K (.ref (He.ga K "Grower")) "__getattribute__" = some (some (.builtin "type.__getattribute__")) ∧
    PySem.W.findCls K (.ref (He.ga K "Grower")) (.type "type") "__init__" = some (.val (.ref (He.ma K (He.ga K "Grower") "__init__"))) ∧ PySem.W.keepIn K (.ref (He.ma K (He.ga K "Grower") "__init__")) = true := by
  obtain ⟨h1, h⟩ := He.ba h
  obtain ⟨h2, h⟩ := He.ba h
  obtain ⟨h3, h4⟩ := He.ba h
  refine ⟨h1, He.eqO_ok h2, ?_, h4⟩
  split at h3
  · rename_i f e
    rw [e, of_decide_eq_true h3]
  · cases h3
def as (g : Addr → Option Obj) : List Addr := He.asD g 4 ++ [cStatics]
def obG (g : Addr → Option Obj) : He.AlD × Bool := (He.obsD fa fn (He.frG g (as g)), cm (He.frG g (as g)))
def hk : PySem.W.Hook where
  α := He.AlD × Bool
  obs := fun s => obG s.heap.get?
  val := fun _ => (He.valD fn, true)
  says := fun _ h => ∃ K : PySem.W.Frag, K.In h ∧ He.SaysD fa fn K ∧ cm K = true
  of := fun _ _ e => ⟨_, He.frG_in, congrArg (fun z : He.AlD × Bool => z.1) e, congrArg (fun z : He.AlD × Bool => z.2) e⟩
  keeps := fun _ _ _ ⟨K, hK, c⟩ k => ⟨K, PySem.W.Frag.In.keeps hK k, c⟩
def ob (s : PySem.W.SharedT) : He.AlD × Bool := obG (HandSHeadRun.getT s)
theorem ob_eq (s : PySem.W.SharedT) : ob s = hk.obs s.abs := by
  have e : HandSHeadRun.getT s = s.abs.heap.get? := funext (HandSHeadRun.getT_eq s)
  show obG (HandSHeadRun.getT s) = obG s.abs.heap.get?
  rw [e]
def nm1 : List PySem.Str := ["_wall", "GraftError", "NoPlace", "NoName", "TooLarge", "TooMany", "STATES", "PLACES", "Grower", "start_of", "all_names", "forms_of", "LETTERS", "is_name", "size_of", "HOLE", "items_for", "way_of_none", "way_of_one", "way_behind", "item_state", "way_filled", "BackGrower", "back_tables", "drawn_back", "Spot", "state_by", "spot_of", "doc_of", "upward_places"]
def nm2 : List PySem.Str := ["Kept", "_law_cell_at", "_law_numbers", "_law_any_names", "_law_names", "_law_machine", "_law_item", "_law_turner", "_law_items_text", "_law_turner_text", "_law_filled", "_law_holed", "_law_turned", "_law_size", "_law_filled_size", "_law_turned_size", "_law_places", "_law_below_first", "_law_at", "_law_with", "_law_word", "_law_state", "_law_forms", "_law_doc", "_law_deed", "_law_done", "_law_looked", "_law_seen", "_law_began", "_law_change"]
def nms : List PySem.Str := nm1 ++ nm2
theorem run (w : World) : HandSHeadRun.RunEq R (PySem.W.view R.prog [69]) hk ob 6000 nms w := by
  intro os
  kernel_rfl
end GH
namespace G
open PySem L2
section
variable {P : Program} {w : World} {K : PySem.W.Frag} {mg : Str → Option Value} {base : Heap} {f : Addr} {fd : FuncData}
theorem fn_vacM {k : Nat} {ps : List Str} {pre : List A → (Addr → Prop) → RM → Prop} (h : ∀ as fp post, ¬ pre as fp post) : FnOk P w K mg base CX0 k f fd ps (spM K pre) :=
  ⟨fun vs H Q E ⟨as, fp, post, _, hp, _⟩ => (h as fp post hp).elim, fun A outer s H args us vs Q E _ _ _ _ ⟨as, fp, post, _, hp, _⟩ => (h as fp post hp).elim⟩
theorem cal_rec {x : Str} {ps : List Str} {st : Stmt} (F : FnP K x x st f fd) (g : mg x = some (.ref f)) (b : Binds K fd ps []) (pre : Nat → List A → R → Prop) (lv : Nat → Nat) (h0 : ∀ as r, ¬ pre 0 as r)
    (hs : ∀ h, Cal P w K mg base x (lv h) ps (spD K (pre h)) → FnOk P w K mg base CX0 (lv (h + 1)) f fd ps (spD K (pre (h + 1)))) : ∀ h, Cal P w K mg base x (lv h) ps (spD K (pre h))
  | 0 => cal_of F g b (fn_vac h0)
  | h + 1 => cal_of F g b (hs h (cal_rec F g b pre lv h0 hs h))
theorem cal_recM {x : Str} {ps : List Str} {st : Stmt} (F : FnP K x x st f fd) (g : mg x = some (.ref f)) (b : Binds K fd ps []) (pre : Nat → List A → (Addr → Prop) → RM → Prop) (lv : Nat → Nat) (h0 : ∀ as fp post, ¬ pre 0 as fp post)
    (hs : ∀ h, Cal P w K mg base x (lv h) ps (spM K (pre h)) → FnOk P w K mg base CX0 (lv (h + 1)) f fd ps (spM K (pre (h + 1)))) : ∀ h, Cal P w K mg base x (lv h) ps (spM K (pre h))
  | 0 => cal_of F g b (fn_vacM h0)
  | h + 1 => cal_of F g b (hs h (cal_recM F g b pre lv h0 hs h))
end
/-- what the row asks of the promise -/
theorem law_asks {K : PySem.W.Frag} {H : Hp} {a : Addr} {ns : List Int} {E : XK} (hl : ns.length ≤ 63) (hS : SqL K H a (ns.map V.int)) : spM K (preLaw K) [.ref a] H (fun v _ => v = .bl true) E := by
  obtain ⟨inH, h⟩ := HA.sq_of hS
  refine ⟨[.o (HA.sq K inH a (ns.map V.int)) (.ref a)], _, _, ⟨.ref a, [], rfl, ⟨rfl, h⟩, rfl⟩, ⟨inH, a, ns, hl, rfl, rfl, rfl⟩, fun v k F H' ⟨k', e⟩ hk _ _ _ => ?_⟩
  subst e
  exact (at_bl (H := F)).mp (show At F (.bl true) v from hk.1)
theorem facts {P : Program} {w : World} {K : PySem.W.Frag} {h : Heap} {mg : Str → Option Value} {f : Addr} (X : K.In h) (G : h.Ns mainGlobals mg) (hfa : mg ("law" : Str) = some (.ref f)) (c : He.SaysD GH.fa GH.fn K) (cm : GH.cm K = true) :
    ∃ fd : FuncData, (∀ (s : Shared) (v : Value), BindsTo s fd ⟨[v], []⟩ [("_law_script", v)]) ∧ ∀ base : Heap, K.In base → base.Ns mainGlobals mg → FnOk P w K mg base CX0 43 f fd ["_law_script"] (spM K (preLaw K)) := by
  have T : Txt mg := { len := He.free_ok X G (c.fact 0 (f := .free "len") rfl), tuple := He.free_ok X G (c.fact 1 (f := .free "tuple") rfl), range := He.free_ok X G (c.fact 2 (f := .free "range") rfl), list := He.free_ok X G (c.fact 3 (f := .free "list") rfl), sorted := He.free_ok X G (c.fact 4 (f := .free "sorted") rfl), set := He.free_ok X G (c.fact 5 (f := .free "set") rfl), any := He.free_ok X G (c.fact 6 (f := .free "any") rfl), sum := He.free_ok X G (c.fact 7 (f := .free "sum") rfl), max := He.free_ok X G (c.fact 8 (f := .free "max") rfl), min := He.free_ok X G (c.fact 9 (f := .free "min") rfl), isinstance := He.free_ok X G (c.fact 10 (f := .free "isinstance") rfl), reversed := He.free_ok X G (c.fact 11 (f := .free "reversed") rfl), str := He.free_ok X G (c.fact 12 (f := .free "str") rfl), HOLE := He.str_ok X G (c.fact 13 (f := .str "HOLE" "*") rfl), LETTERS := He.str_ok X G (c.fact 14 (f := .str "LETTERS" "abcdefghijklmnopqrstuvwxyz") rfl), STATES := He.int_ok X G (c.fact 15 (f := .int "STATES" 64) rfl), PLACES := He.int_ok X G (c.fact 16 (f := .int "PLACES" 300) rfl) }
  have cG : ClsG K (He.ga K "BackGrower") := ⟨He.cls_ok (c.fact 64 (f := .cls "BackGrower") rfl), He.noat_ok (c.fact 65 (f := .noat "BackGrower" "numbers") rfl), He.noat_ok (c.fact 66 (f := .noat "BackGrower" "states") rfl), He.noat_ok (c.fact 67 (f := .noat "BackGrower" "graft") rfl), He.noat_ok (c.fact 68 (f := .noat "BackGrower" "machine") rfl), He.noat_ok (c.fact 69 (f := .noat "BackGrower" "names") rfl), He.noat_ok (c.fact 70 (f := .noat "BackGrower" "ways") rfl)⟩
  have cS : ClsS K (He.ga K "Spot") := ⟨He.cls_ok (c.fact 72 (f := .cls "Spot") rfl), He.noat_ok (c.fact 73 (f := .noat "Spot" "name") rfl), He.noat_ok (c.fact 74 (f := .noat "Spot" "state") rfl), He.noat_ok (c.fact 75 (f := .noat "Spot" "below") rfl)⟩
  have cK : ClsK K (He.ga K "Kept") := ⟨He.cls_ok (c.fact 77 (f := .cls "Kept") rfl), He.noat_ok (c.fact 78 (f := .noat "Kept" "machine") rfl), He.noat_ok (c.fact 79 (f := .noat "Kept" "top") rfl), He.noat_ok (c.fact 80 (f := .noat "Kept" "last") rfl)⟩
  obtain ⟨cm1, cm2, cm3, cm4⟩ := GH.cm_ok cm
  obtain ⟨fd_Grower_init, F_Grower_init⟩ := c.def_ 0 (d := GH.d_Grower_init) rfl
  have F_Grower_init : FnP K "__init__" "Grower.__init__" s_Grower_init (He.ma K (He.ga K "Grower") "__init__") fd_Grower_init := F_Grower_init
  have b_Grower_init : Binds K fd_Grower_init ["self"] [] := F_Grower_init.bindsN fun _ _ _ _ _ _ us hl => match us, hl with | [_], _ => rfl
  obtain ⟨fd_number, F_number⟩ := c.def_ 1 (d := GH.d_Grower_number) rfl
  have F_number : FnP K "number" "Grower.number" s_Grower_number (He.ma K (He.ga K "BackGrower") "number") fd_number := F_number
  have b_number : Binds K fd_number ["self", "state"] [] := F_number.bindsN fun _ _ _ _ _ _ us hl => match us, hl with | [_, _], _ => rfl
  obtain ⟨fd_tables, F_tables⟩ := c.def_ 2 (d := GH.d_Grower_tables) rfl
  have F_tables : FnP K "tables" "Grower.tables" s_Grower_tables (He.ma K (He.ga K "BackGrower") "tables") fd_tables := F_tables
  have b_tables : Binds K fd_tables ["self", "starts"] [] := F_tables.bindsN fun _ _ _ _ _ _ us hl => match us, hl with | [_, _], _ => rfl
  obtain ⟨fd_start_of, F_start_of⟩ := c.def_ 3 (d := GH.d_start_of) rfl
  have F_start_of : FnP K "start_of" "start_of" s_start_of (He.ga K "start_of") fd_start_of := F_start_of
  have b_start_of : Binds K fd_start_of ["machine", "name"] [] := F_start_of.bindsN fun _ _ _ _ _ _ us hl => match us, hl with | [_, _], _ => rfl
  have g_start_of : mg "start_of" = some (.ref (He.ga K "start_of")) := He.glo_ok X G (c.fact 17 (f := .glo "start_of") rfl)
  obtain ⟨fd_all_names, F_all_names⟩ := c.def_ 4 (d := GH.d_all_names) rfl
  have F_all_names : FnP K "all_names" "all_names" s_all_names (He.ga K "all_names") fd_all_names := F_all_names
  have b_all_names : Binds K fd_all_names ["some", "others"] [] := F_all_names.bindsN fun _ _ _ _ _ _ us hl => match us, hl with | [_, _], _ => rfl
  have g_all_names : mg "all_names" = some (.ref (He.ga K "all_names")) := He.glo_ok X G (c.fact 18 (f := .glo "all_names") rfl)
  obtain ⟨fd_forms_of, F_forms_of⟩ := c.def_ 5 (d := GH.d_forms_of) rfl
  have F_forms_of : FnP K "forms_of" "forms_of" s_forms_of (He.ga K "forms_of") fd_forms_of := F_forms_of
  have b_forms_of : Binds K fd_forms_of ["machine", "state"] [] := F_forms_of.bindsN fun _ _ _ _ _ _ us hl => match us, hl with | [_, _], _ => rfl
  have g_forms_of : mg "forms_of" = some (.ref (He.ga K "forms_of")) := He.glo_ok X G (c.fact 19 (f := .glo "forms_of") rfl)
  obtain ⟨fd_is_name, F_is_name⟩ := c.def_ 6 (d := GH.d_is_name) rfl
  have F_is_name : FnP K "is_name" "is_name" s_is_name (He.ga K "is_name") fd_is_name := F_is_name
  have b_is_name : Binds K fd_is_name ["thing"] [] := F_is_name.bindsN fun _ _ _ _ _ _ us hl => match us, hl with | [_], _ => rfl
  have g_is_name : mg "is_name" = some (.ref (He.ga K "is_name")) := He.glo_ok X G (c.fact 20 (f := .glo "is_name") rfl)
  obtain ⟨fd_size_of, F_size_of⟩ := c.def_ 7 (d := GH.d_size_of) rfl
  have F_size_of : FnP K "size_of" "size_of" s_size_of (He.ga K "size_of") fd_size_of := F_size_of
  have b_size_of : Binds K fd_size_of ["doc"] [] := F_size_of.bindsN fun _ _ _ _ _ _ us hl => match us, hl with | [_], _ => rfl
  have g_size_of : mg "size_of" = some (.ref (He.ga K "size_of")) := He.glo_ok X G (c.fact 21 (f := .glo "size_of") rfl)
  obtain ⟨fd_items_for, F_items_for⟩ := c.def_ 8 (d := GH.d_items_for) rfl
  have F_items_for : FnP K "items_for" "items_for" s_items_for (He.ga K "items_for") fd_items_for := F_items_for
  have b_items_for : Binds K fd_items_for ["turner", "name"] [] := F_items_for.bindsN fun _ _ _ _ _ _ us hl => match us, hl with | [_, _], _ => rfl
  have g_items_for : mg "items_for" = some (.ref (He.ga K "items_for")) := He.glo_ok X G (c.fact 22 (f := .glo "items_for") rfl)
  obtain ⟨fd_way_of_none, F_way_of_none⟩ := c.def_ 9 (d := GH.d_way_of_none) rfl
  have F_way_of_none : FnP K "way_of_none" "way_of_none" s_way_of_none (He.ga K "way_of_none") fd_way_of_none := F_way_of_none
  have b_way_of_none : Binds K fd_way_of_none ["machine"] [] := F_way_of_none.bindsN fun _ _ _ _ _ _ us hl => match us, hl with | [_], _ => rfl
  have g_way_of_none : mg "way_of_none" = some (.ref (He.ga K "way_of_none")) := He.glo_ok X G (c.fact 23 (f := .glo "way_of_none") rfl)
  obtain ⟨fd_way_of_one, F_way_of_one⟩ := c.def_ 10 (d := GH.d_way_of_one) rfl
  have F_way_of_one : FnP K "way_of_one" "way_of_one" s_way_of_one (He.ga K "way_of_one") fd_way_of_one := F_way_of_one
  have b_way_of_one : Binds K fd_way_of_one ["machine", "state"] [] := F_way_of_one.bindsN fun _ _ _ _ _ _ us hl => match us, hl with | [_, _], _ => rfl
  have g_way_of_one : mg "way_of_one" = some (.ref (He.ga K "way_of_one")) := He.glo_ok X G (c.fact 24 (f := .glo "way_of_one") rfl)
  obtain ⟨fd_way_behind, F_way_behind⟩ := c.def_ 11 (d := GH.d_way_behind) rfl
  have F_way_behind : FnP K "way_behind" "way_behind" s_way_behind (He.ga K "way_behind") fd_way_behind := F_way_behind
  have b_way_behind : Binds K fd_way_behind ["way", "other"] [] := F_way_behind.bindsN fun _ _ _ _ _ _ us hl => match us, hl with | [_, _], _ => rfl
  have g_way_behind : mg "way_behind" = some (.ref (He.ga K "way_behind")) := He.glo_ok X G (c.fact 25 (f := .glo "way_behind") rfl)
  obtain ⟨fd_item_state, F_item_state⟩ := c.def_ 12 (d := GH.d_item_state) rfl
  have F_item_state : FnP K "item_state" "item_state" s_item_state (He.ga K "item_state") fd_item_state := F_item_state
  have b_item_state : Binds K fd_item_state ["machine", "item", "way"] [] := F_item_state.bindsN fun _ _ _ _ _ _ us hl => match us, hl with | [_, _, _], _ => rfl
  have g_item_state : mg "item_state" = some (.ref (He.ga K "item_state")) := He.glo_ok X G (c.fact 26 (f := .glo "item_state") rfl)
  obtain ⟨fd_way_filled, F_way_filled⟩ := c.def_ 13 (d := GH.d_way_filled) rfl
  have F_way_filled : FnP K "way_filled" "way_filled" s_way_filled (He.ga K "way_filled") fd_way_filled := F_way_filled
  have b_way_filled : Binds K fd_way_filled ["machine", "items", "way"] [] := F_way_filled.bindsN fun _ _ _ _ _ _ us hl => match us, hl with | [_, _, _], _ => rfl
  have g_way_filled : mg "way_filled" = some (.ref (He.ga K "way_filled")) := He.glo_ok X G (c.fact 27 (f := .glo "way_filled") rfl)
  obtain ⟨fd_BackGrower_init, F_BackGrower_init⟩ := c.def_ 14 (d := GH.d_BackGrower_init) rfl
  have F_BackGrower_init : FnP K "__init__" "BackGrower.__init__" s_BackGrower_init (He.ma K (He.ga K "BackGrower") "__init__") fd_BackGrower_init := F_BackGrower_init
  have b_BackGrower_init : Binds K fd_BackGrower_init ["self", "graft", "machine"] [] := F_BackGrower_init.bindsN fun _ _ _ _ _ _ us hl => match us, hl with | [_, _, _], _ => rfl
  obtain ⟨fd_turned_way, F_turned_way⟩ := c.def_ 15 (d := GH.d_BackGrower_turned_way) rfl
  have F_turned_way : FnP K "turned_way" "BackGrower.turned_way" s_BackGrower_turned_way (He.ma K (He.ga K "BackGrower") "turned_way") fd_turned_way := F_turned_way
  have b_turned_way : Binds K fd_turned_way ["self", "state"] [] := F_turned_way.bindsN fun _ _ _ _ _ _ us hl => match us, hl with | [_, _], _ => rfl
  obtain ⟨fd_step, F_step⟩ := c.def_ 16 (d := GH.d_BackGrower_step) rfl
  have F_step : FnP K "step" "BackGrower.step" s_BackGrower_step (He.ma K (He.ga K "BackGrower") "step") fd_step := F_step
  have b_step : Binds K fd_step ["self", "one", "other"] [] := F_step.bindsN fun _ _ _ _ _ _ us hl => match us, hl with | [_, _, _], _ => rfl
  obtain ⟨fd_mark, F_mark⟩ := c.def_ 17 (d := GH.d_BackGrower_mark) rfl
  have F_mark : FnP K "mark" "BackGrower.mark" s_BackGrower_mark (He.ma K (He.ga K "BackGrower") "mark") fd_mark := F_mark
  have b_mark : Binds K fd_mark ["self", "state"] [] := F_mark.bindsN fun _ _ _ _ _ _ us hl => match us, hl with | [_, _], _ => rfl
  obtain ⟨fd_back_tables, F_back_tables⟩ := c.def_ 18 (d := GH.d_back_tables) rfl
  have F_back_tables : FnP K "back_tables" "back_tables" s_back_tables (He.ga K "back_tables") fd_back_tables := F_back_tables
  have b_back_tables : Binds K fd_back_tables ["turner", "machine"] [] := F_back_tables.bindsN fun _ _ _ _ _ _ us hl => match us, hl with | [_, _], _ => rfl
  have g_back_tables : mg "back_tables" = some (.ref (He.ga K "back_tables")) := He.glo_ok X G (c.fact 28 (f := .glo "back_tables") rfl)
  obtain ⟨fd_drawn_back, F_drawn_back⟩ := c.def_ 19 (d := GH.d_drawn_back) rfl
  have F_drawn_back : FnP K "drawn_back" "drawn_back" s_drawn_back (He.ga K "drawn_back") fd_drawn_back := F_drawn_back
  have b_drawn_back : Binds K fd_drawn_back ["turner", "machine"] [] := F_drawn_back.bindsN fun _ _ _ _ _ _ us hl => match us, hl with | [_, _], _ => rfl
  have g_drawn_back : mg "drawn_back" = some (.ref (He.ga K "drawn_back")) := He.glo_ok X G (c.fact 29 (f := .glo "drawn_back") rfl)
  obtain ⟨fd_Spot_init, F_Spot_init⟩ := c.def_ 20 (d := GH.d_Spot_init) rfl
  have F_Spot_init : FnP K "__init__" "Spot.__init__" s_Spot_init (He.ma K (He.ga K "Spot") "__init__") fd_Spot_init := F_Spot_init
  have b_Spot_init : Binds K fd_Spot_init ["self", "name", "state", "below"] [] := F_Spot_init.bindsN fun _ _ _ _ _ _ us hl => match us, hl with | [_, _, _, _], _ => rfl
  obtain ⟨fd_state_by, F_state_by⟩ := c.def_ 21 (d := GH.d_state_by) rfl
  have F_state_by : FnP K "state_by" "state_by" s_state_by (He.ga K "state_by") fd_state_by := F_state_by
  have b_state_by : Binds K fd_state_by ["machine", "name", "below"] [] := F_state_by.bindsN fun _ _ _ _ _ _ us hl => match us, hl with | [_, _, _], _ => rfl
  have g_state_by : mg "state_by" = some (.ref (He.ga K "state_by")) := He.glo_ok X G (c.fact 30 (f := .glo "state_by") rfl)
  obtain ⟨fd_spot_of, F_spot_of⟩ := c.def_ 22 (d := GH.d_spot_of) rfl
  have F_spot_of : FnP K "spot_of" "spot_of" s_spot_of (He.ga K "spot_of") fd_spot_of := F_spot_of
  have b_spot_of : Binds K fd_spot_of ["machine", "doc"] [] := F_spot_of.bindsN fun _ _ _ _ _ _ us hl => match us, hl with | [_, _], _ => rfl
  have g_spot_of : mg "spot_of" = some (.ref (He.ga K "spot_of")) := He.glo_ok X G (c.fact 31 (f := .glo "spot_of") rfl)
  obtain ⟨fd_doc_of, F_doc_of⟩ := c.def_ 23 (d := GH.d_doc_of) rfl
  have F_doc_of : FnP K "doc_of" "doc_of" s_doc_of (He.ga K "doc_of") fd_doc_of := F_doc_of
  have b_doc_of : Binds K fd_doc_of ["spot"] [] := F_doc_of.bindsN fun _ _ _ _ _ _ us hl => match us, hl with | [_], _ => rfl
  have g_doc_of : mg "doc_of" = some (.ref (He.ga K "doc_of")) := He.glo_ok X G (c.fact 32 (f := .glo "doc_of") rfl)
  obtain ⟨fd_upward_places, F_upward_places⟩ := c.def_ 24 (d := GH.d_upward_places) rfl
  have F_upward_places : FnP K "upward_places" "upward_places" s_upward_places (He.ga K "upward_places") fd_upward_places := F_upward_places
  have b_upward_places : Binds K fd_upward_places ["doc", "place"] [] := F_upward_places.bindsN fun _ _ _ _ _ _ us hl => match us, hl with | [_, _], _ => rfl
  have g_upward_places : mg "upward_places" = some (.ref (He.ga K "upward_places")) := He.glo_ok X G (c.fact 33 (f := .glo "upward_places") rfl)
  obtain ⟨fd_Kept_init, F_Kept_init⟩ := c.def_ 25 (d := GH.d_Kept_init) rfl
  have F_Kept_init : FnP K "__init__" "Kept.__init__" s_Kept_init (He.ma K (He.ga K "Kept") "__init__") fd_Kept_init := F_Kept_init
  have b_Kept_init : Binds K fd_Kept_init ["self", "machine", "doc"] [] := F_Kept_init.bindsN fun _ _ _ _ _ _ us hl => match us, hl with | [_, _, _], _ => rfl
  obtain ⟨fd_now, F_now⟩ := c.def_ 26 (d := GH.d_Kept_now) rfl
  have F_now : FnP K "now" "Kept.now" s_Kept_now (He.ma K (He.ga K "Kept") "now") fd_now := F_now
  have b_now : Binds K fd_now ["self"] [] := F_now.bindsN fun _ _ _ _ _ _ us hl => match us, hl with | [_], _ => rfl
  obtain ⟨fd_spots, F_spots⟩ := c.def_ 27 (d := GH.d_Kept_spots) rfl
  have F_spots : FnP K "spots" "Kept.spots" s_Kept_spots (He.ma K (He.ga K "Kept") "spots") fd_spots := F_spots
  have b_spots : Binds K fd_spots ["self", "place", "asked"] [] := F_spots.bindsN fun _ _ _ _ _ _ us hl => match us, hl with | [_, _, _], _ => rfl
  obtain ⟨fd_look, F_look⟩ := c.def_ 28 (d := GH.d_Kept_look) rfl
  have F_look : FnP K "look" "Kept.look" s_Kept_look (He.ma K (He.ga K "Kept") "look") fd_look := F_look
  have b_look : Binds K fd_look ["self", "spots", "place"] [] := F_look.bindsN fun _ _ _ _ _ _ us hl => match us, hl with | [_, _, _], _ => rfl
  obtain ⟨fd_put, F_put⟩ := c.def_ 29 (d := GH.d_Kept_put) rfl
  have F_put : FnP K "put" "Kept.put" s_Kept_put (He.ma K (He.ga K "Kept") "put") fd_put := F_put
  have b_put : Binds K fd_put ["self", "place", "new"] [] := F_put.bindsN fun _ _ _ _ _ _ us hl => match us, hl with | [_, _, _], _ => rfl
  obtain ⟨fd_cut, F_cut⟩ := c.def_ 30 (d := GH.d_Kept_cut) rfl
  have F_cut : FnP K "cut" "Kept.cut" s_Kept_cut (He.ma K (He.ga K "Kept") "cut") fd_cut := F_cut
  have b_cut : Binds K fd_cut ["self", "place"] [] := F_cut.bindsN fun _ _ _ _ _ _ us hl => match us, hl with | [_, _], _ => rfl
  obtain ⟨fd_rename, F_rename⟩ := c.def_ 31 (d := GH.d_Kept_rename) rfl
  have F_rename : FnP K "rename" "Kept.rename" s_Kept_rename (He.ma K (He.ga K "Kept") "rename") fd_rename := F_rename
  have b_rename : Binds K fd_rename ["self", "place", "name"] [] := F_rename.bindsN fun _ _ _ _ _ _ us hl => match us, hl with | [_, _, _], _ => rfl
  obtain ⟨fd_forms_at, F_forms_at⟩ := c.def_ 32 (d := GH.d_Kept_forms_at) rfl
  have F_forms_at : FnP K "forms_at" "Kept.forms_at" s_Kept_forms_at (He.ma K (He.ga K "Kept") "forms_at") fd_forms_at := F_forms_at
  have b_forms_at : Binds K fd_forms_at ["self", "place"] [] := F_forms_at.bindsN fun _ _ _ _ _ _ us hl => match us, hl with | [_, _], _ => rfl
  obtain ⟨fd_looked, F_looked⟩ := c.def_ 33 (d := GH.d_Kept_looked) rfl
  have F_looked : FnP K "looked" "Kept.looked" s_Kept_looked (He.ma K (He.ga K "Kept") "looked") fd_looked := F_looked
  have b_looked : Binds K fd_looked ["self"] [] := F_looked.bindsN fun _ _ _ _ _ _ us hl => match us, hl with | [_], _ => rfl
  obtain ⟨fd_law_cell_at, F_law_cell_at⟩ := c.def_ 34 (d := GH.d__law_cell_at) rfl
  have F_law_cell_at : FnP K "_law_cell_at" "_law_cell_at" s__law_cell_at (He.ga K "_law_cell_at") fd_law_cell_at := F_law_cell_at
  have b_law_cell_at : Binds K fd_law_cell_at ["_law_script", "_law_k"] [] := F_law_cell_at.bindsN fun _ _ _ _ _ _ us hl => match us, hl with | [_, _], _ => rfl
  have g_law_cell_at : mg "_law_cell_at" = some (.ref (He.ga K "_law_cell_at")) := He.glo_ok X G (c.fact 34 (f := .glo "_law_cell_at") rfl)
  obtain ⟨fd_law_numbers, F_law_numbers⟩ := c.def_ 35 (d := GH.d__law_numbers) rfl
  have F_law_numbers : FnP K "_law_numbers" "_law_numbers" s__law_numbers (He.ga K "_law_numbers") fd_law_numbers := F_law_numbers
  have b_law_numbers : Binds K fd_law_numbers ["_law_script", "_law_start", "_law_many"] [] := F_law_numbers.bindsN fun _ _ _ _ _ _ us hl => match us, hl with | [_, _, _], _ => rfl
  have g_law_numbers : mg "_law_numbers" = some (.ref (He.ga K "_law_numbers")) := He.glo_ok X G (c.fact 35 (f := .glo "_law_numbers") rfl)
  obtain ⟨fd_law_any_names, F_law_any_names⟩ := c.def_ 36 (d := GH.d__law_any_names) rfl
  have F_law_any_names : FnP K "_law_any_names" "_law_any_names" s__law_any_names (He.ga K "_law_any_names") fd_law_any_names := F_law_any_names
  have b_law_any_names : Binds K fd_law_any_names ["_law_cell", "_law_many"] [] := F_law_any_names.bindsN fun _ _ _ _ _ _ us hl => match us, hl with | [_, _], _ => rfl
  have g_law_any_names : mg "_law_any_names" = some (.ref (He.ga K "_law_any_names")) := He.glo_ok X G (c.fact 36 (f := .glo "_law_any_names") rfl)
  obtain ⟨fd_law_names, F_law_names⟩ := c.def_ 37 (d := GH.d__law_names) rfl
  have F_law_names : FnP K "_law_names" "_law_names" s__law_names (He.ga K "_law_names") fd_law_names := F_law_names
  have b_law_names : Binds K fd_law_names ["_law_cell", "_law_many"] [] := F_law_names.bindsN fun _ _ _ _ _ _ us hl => match us, hl with | [_, _], _ => rfl
  have g_law_names : mg "_law_names" = some (.ref (He.ga K "_law_names")) := He.glo_ok X G (c.fact 37 (f := .glo "_law_names") rfl)
  obtain ⟨fd_law_machine, F_law_machine⟩ := c.def_ 38 (d := GH.d__law_machine) rfl
  have F_law_machine : FnP K "_law_machine" "_law_machine" s__law_machine (He.ga K "_law_machine") fd_law_machine := F_law_machine
  have b_law_machine : Binds K fd_law_machine ["_law_xs", "_law_many", "_law_forms_here", "_law_names_here"] [] := F_law_machine.bindsN fun _ _ _ _ _ _ us hl => match us, hl with | [_, _, _, _], _ => rfl
  have g_law_machine : mg "_law_machine" = some (.ref (He.ga K "_law_machine")) := He.glo_ok X G (c.fact 38 (f := .glo "_law_machine") rfl)
  obtain ⟨fd_law_item, F_law_item⟩ := c.def_ 39 (d := GH.d__law_item) rfl
  have F_law_item : FnP K "_law_item" "_law_item" s__law_item (He.ga K "_law_item") fd_law_item := F_law_item
  have b_law_item : Binds K fd_law_item ["_law_x", "_law_tags"] [] := F_law_item.bindsN fun _ _ _ _ _ _ us hl => match us, hl with | [_, _], _ => rfl
  have g_law_item : mg "_law_item" = some (.ref (He.ga K "_law_item")) := He.glo_ok X G (c.fact 39 (f := .glo "_law_item") rfl)
  obtain ⟨fd_law_turner, F_law_turner⟩ := c.def_ 40 (d := GH.d__law_turner) rfl
  have F_law_turner : FnP K "_law_turner" "_law_turner" s__law_turner (He.ga K "_law_turner") fd_law_turner := F_law_turner
  have b_law_turner : Binds K fd_law_turner ["_law_xs", "_law_at_here", "_law_tags"] [] := F_law_turner.bindsN fun _ _ _ _ _ _ us hl => match us, hl with | [_, _, _], _ => rfl
  have g_law_turner : mg "_law_turner" = some (.ref (He.ga K "_law_turner")) := He.glo_ok X G (c.fact 40 (f := .glo "_law_turner") rfl)
  obtain ⟨fd_law_filled, F_law_filled⟩ := c.def_ 41 (d := GH.d__law_filled) rfl
  have F_law_filled : FnP K "_law_filled" "_law_filled" s__law_filled (He.ga K "_law_filled") fd_law_filled := F_law_filled
  have b_law_filled : Binds K fd_law_filled ["_law_items", "_law_row"] [] := F_law_filled.bindsN fun _ _ _ _ _ _ us hl => match us, hl with | [_, _], _ => rfl
  have g_law_filled : mg "_law_filled" = some (.ref (He.ga K "_law_filled")) := He.glo_ok X G (c.fact 41 (f := .glo "_law_filled") rfl)
  obtain ⟨fd_law_holed, F_law_holed⟩ := c.def_ 42 (d := GH.d__law_holed) rfl
  have F_law_holed : FnP K "_law_holed" "_law_holed" s__law_holed (He.ga K "_law_holed") fd_law_holed := F_law_holed
  have b_law_holed : Binds K fd_law_holed ["_law_items"] [] := F_law_holed.bindsN fun _ _ _ _ _ _ us hl => match us, hl with | [_], _ => rfl
  have g_law_holed : mg "_law_holed" = some (.ref (He.ga K "_law_holed")) := He.glo_ok X G (c.fact 42 (f := .glo "_law_holed") rfl)
  obtain ⟨fd_law_turned, F_law_turned⟩ := c.def_ 43 (d := GH.d__law_turned) rfl
  have F_law_turned : FnP K "_law_turned" "_law_turned" s__law_turned (He.ga K "_law_turned") fd_law_turned := F_law_turned
  have b_law_turned : Binds K fd_law_turned ["_law_rules", "_law_doc_here"] [] := F_law_turned.bindsN fun _ _ _ _ _ _ us hl => match us, hl with | [_, _], _ => rfl
  have g_law_turned : mg "_law_turned" = some (.ref (He.ga K "_law_turned")) := He.glo_ok X G (c.fact 43 (f := .glo "_law_turned") rfl)
  obtain ⟨fd_law_filled_size, F_law_filled_size⟩ := c.def_ 44 (d := GH.d__law_filled_size) rfl
  have F_law_filled_size : FnP K "_law_filled_size" "_law_filled_size" s__law_filled_size (He.ga K "_law_filled_size") fd_law_filled_size := F_law_filled_size
  have b_law_filled_size : Binds K fd_law_filled_size ["_law_items", "_law_size_here"] [] := F_law_filled_size.bindsN fun _ _ _ _ _ _ us hl => match us, hl with | [_, _], _ => rfl
  have g_law_filled_size : mg "_law_filled_size" = some (.ref (He.ga K "_law_filled_size")) := He.glo_ok X G (c.fact 44 (f := .glo "_law_filled_size") rfl)
  obtain ⟨fd_law_turned_size, F_law_turned_size⟩ := c.def_ 45 (d := GH.d__law_turned_size) rfl
  have F_law_turned_size : FnP K "_law_turned_size" "_law_turned_size" s__law_turned_size (He.ga K "_law_turned_size") fd_law_turned_size := F_law_turned_size
  have b_law_turned_size : Binds K fd_law_turned_size ["_law_rules", "_law_doc_here"] [] := F_law_turned_size.bindsN fun _ _ _ _ _ _ us hl => match us, hl with | [_, _], _ => rfl
  have g_law_turned_size : mg "_law_turned_size" = some (.ref (He.ga K "_law_turned_size")) := He.glo_ok X G (c.fact 45 (f := .glo "_law_turned_size") rfl)
  obtain ⟨fd_law_places, F_law_places⟩ := c.def_ 46 (d := GH.d__law_places) rfl
  have F_law_places : FnP K "_law_places" "_law_places" s__law_places (He.ga K "_law_places") fd_law_places := F_law_places
  have b_law_places : Binds K fd_law_places ["_law_doc_here", "_law_place"] [] := F_law_places.bindsN fun _ _ _ _ _ _ us hl => match us, hl with | [_, _], _ => rfl
  have g_law_places : mg "_law_places" = some (.ref (He.ga K "_law_places")) := He.glo_ok X G (c.fact 46 (f := .glo "_law_places") rfl)
  obtain ⟨fd_law_below_first, F_law_below_first⟩ := c.def_ 47 (d := GH.d__law_below_first) rfl
  have F_law_below_first : FnP K "_law_below_first" "_law_below_first" s__law_below_first (He.ga K "_law_below_first") fd_law_below_first := F_law_below_first
  have b_law_below_first : Binds K fd_law_below_first ["_law_doc_here", "_law_place"] [] := F_law_below_first.bindsN fun _ _ _ _ _ _ us hl => match us, hl with | [_, _], _ => rfl
  have g_law_below_first : mg "_law_below_first" = some (.ref (He.ga K "_law_below_first")) := He.glo_ok X G (c.fact 47 (f := .glo "_law_below_first") rfl)
  obtain ⟨fd_law_at, F_law_at⟩ := c.def_ 48 (d := GH.d__law_at) rfl
  have F_law_at : FnP K "_law_at" "_law_at" s__law_at (He.ga K "_law_at") fd_law_at := F_law_at
  have b_law_at : Binds K fd_law_at ["_law_doc_here", "_law_place"] [] := F_law_at.bindsN fun _ _ _ _ _ _ us hl => match us, hl with | [_, _], _ => rfl
  have g_law_at : mg "_law_at" = some (.ref (He.ga K "_law_at")) := He.glo_ok X G (c.fact 48 (f := .glo "_law_at") rfl)
  obtain ⟨fd_law_with, F_law_with⟩ := c.def_ 49 (d := GH.d__law_with) rfl
  have F_law_with : FnP K "_law_with" "_law_with" s__law_with (He.ga K "_law_with") fd_law_with := F_law_with
  have b_law_with : Binds K fd_law_with ["_law_doc_here", "_law_place", "_law_new"] [] := F_law_with.bindsN fun _ _ _ _ _ _ us hl => match us, hl with | [_, _, _], _ => rfl
  have g_law_with : mg "_law_with" = some (.ref (He.ga K "_law_with")) := He.glo_ok X G (c.fact 49 (f := .glo "_law_with") rfl)
  obtain ⟨fd_law_state, F_law_state⟩ := c.def_ 50 (d := GH.d__law_state) rfl
  have F_law_state : FnP K "_law_state" "_law_state" s__law_state (He.ga K "_law_state") fd_law_state := F_law_state
  have b_law_state : Binds K fd_law_state ["_law_machine_here", "_law_doc_here"] [] := F_law_state.bindsN fun _ _ _ _ _ _ us hl => match us, hl with | [_, _], _ => rfl
  have g_law_state : mg "_law_state" = some (.ref (He.ga K "_law_state")) := He.glo_ok X G (c.fact 50 (f := .glo "_law_state") rfl)
  obtain ⟨fd_law_forms, F_law_forms⟩ := c.def_ 51 (d := GH.d__law_forms) rfl
  have F_law_forms : FnP K "_law_forms" "_law_forms" s__law_forms (He.ga K "_law_forms") fd_law_forms := F_law_forms
  have b_law_forms : Binds K fd_law_forms ["_law_machine_here", "_law_turner_here", "_law_doc_here"] [] := F_law_forms.bindsN fun _ _ _ _ _ _ us hl => match us, hl with | [_, _, _], _ => rfl
  have g_law_forms : mg "_law_forms" = some (.ref (He.ga K "_law_forms")) := He.glo_ok X G (c.fact 51 (f := .glo "_law_forms") rfl)
  obtain ⟨fd_law_doc, F_law_doc⟩ := c.def_ 52 (d := GH.d__law_doc) rfl
  have F_law_doc : FnP K "_law_doc" "_law_doc" s__law_doc (He.ga K "_law_doc") fd_law_doc := F_law_doc
  have b_law_doc : Binds K fd_law_doc ["_law_xs", "_law_at_here", "_law_deep", "_law_tags"] [] := F_law_doc.bindsN fun _ _ _ _ _ _ us hl => match us, hl with | [_, _, _, _], _ => rfl
  have g_law_doc : mg "_law_doc" = some (.ref (He.ga K "_law_doc")) := He.glo_ok X G (c.fact 52 (f := .glo "_law_doc") rfl)
  obtain ⟨fd_law_deed, F_law_deed⟩ := c.def_ 53 (d := GH.d__law_deed) rfl
  have F_law_deed : FnP K "_law_deed" "_law_deed" s__law_deed (He.ga K "_law_deed") fd_law_deed := F_law_deed
  have b_law_deed : Binds K fd_law_deed ["_law_doc_here", "_law_cell"] [] := F_law_deed.bindsN fun _ _ _ _ _ _ us hl => match us, hl with | [_, _], _ => rfl
  have g_law_deed : mg "_law_deed" = some (.ref (He.ga K "_law_deed")) := He.glo_ok X G (c.fact 53 (f := .glo "_law_deed") rfl)
  obtain ⟨fd_law_done, F_law_done⟩ := c.def_ 54 (d := GH.d__law_done) rfl
  have F_law_done : FnP K "_law_done" "_law_done" s__law_done (He.ga K "_law_done") fd_law_done := F_law_done
  have b_law_done : Binds K fd_law_done ["_law_doc_here", "_law_deed_here", "_law_new", "_law_tag"] [] := F_law_done.bindsN fun _ _ _ _ _ _ us hl => match us, hl with | [_, _, _, _], _ => rfl
  have g_law_done : mg "_law_done" = some (.ref (He.ga K "_law_done")) := He.glo_ok X G (c.fact 54 (f := .glo "_law_done") rfl)
  obtain ⟨fd_law_looked, F_law_looked⟩ := c.def_ 55 (d := GH.d__law_looked) rfl
  have F_law_looked : FnP K "_law_looked" "_law_looked" s__law_looked (He.ga K "_law_looked") fd_law_looked := F_law_looked
  have b_law_looked : Binds K fd_law_looked ["_law_machine_here", "_law_before", "_law_after", "_law_deed_here", "_law_new"] [] := F_law_looked.bindsN fun _ _ _ _ _ _ us hl => match us, hl with | [_, _, _, _, _], _ => rfl
  have g_law_looked : mg "_law_looked" = some (.ref (He.ga K "_law_looked")) := He.glo_ok X G (c.fact 55 (f := .glo "_law_looked") rfl)
  obtain ⟨fd_law_seen, F_law_seen⟩ := c.def_ 56 (d := GH.d__law_seen) rfl
  have F_law_seen : FnP K "_law_seen" "_law_seen" s__law_seen (He.ga K "_law_seen") fd_law_seen := F_law_seen
  have b_law_seen : Binds K fd_law_seen ["_law_kept", "_law_machine_here", "_law_turner_here", "_law_doc_here", "_law_cell"] [] := F_law_seen.bindsN fun _ _ _ _ _ _ us hl => match us, hl with | [_, _, _, _, _], _ => rfl
  have g_law_seen : mg "_law_seen" = some (.ref (He.ga K "_law_seen")) := He.glo_ok X G (c.fact 56 (f := .glo "_law_seen") rfl)
  obtain ⟨fd_law_began, F_law_began⟩ := c.def_ 57 (d := GH.d__law_began) rfl
  have F_law_began : FnP K "_law_began" "_law_began" s__law_began (He.ga K "_law_began") fd_law_began := F_law_began
  have b_law_began : Binds K fd_law_began ["_law_xs", "_law_words"] [] := F_law_began.bindsN fun _ _ _ _ _ _ us hl => match us, hl with | [_, _], _ => rfl
  have g_law_began : mg "_law_began" = some (.ref (He.ga K "_law_began")) := He.glo_ok X G (c.fact 57 (f := .glo "_law_began") rfl)
  obtain ⟨fd_law_change, F_law_change⟩ := c.def_ 58 (d := GH.d__law_change) rfl
  have F_law_change : FnP K "_law_change" "_law_change" s__law_change (He.ga K "_law_change") fd_law_change := F_law_change
  have b_law_change : Binds K fd_law_change ["_law_kept", "_law_deed_here", "_law_new", "_law_tag"] [] := F_law_change.bindsN fun _ _ _ _ _ _ us hl => match us, hl with | [_, _, _, _], _ => rfl
  have g_law_change : mg "_law_change" = some (.ref (He.ga K "_law_change")) := He.glo_ok X G (c.fact 58 (f := .glo "_law_change") rfl)
  obtain ⟨fd_law, F_law⟩ := c.def_ 59 (d := GH.d_law) rfl
  have F_law : FnP K "law" "law" s_law (He.ga K "law") fd_law := F_law
  have b_law : Binds K fd_law ["_law_script"] [] := F_law.bindsN fun _ _ _ _ _ _ us hl => match us, hl with | [_], _ => rfl
  have g_law : mg "law" = some (.ref (He.ga K "law")) := He.glo_ok X G (c.fact 59 (f := .glo "law") rfl)
  have c_start_of : ∀ base, Cal P w K mg base "start_of" 1 ["machine", "name"] (spD K preStart) := fun base => cal_of F_start_of g_start_of b_start_of (ok_start_of F_start_of T)
  have c_way_of_none : ∀ base, Cal P w K mg base "way_of_none" 1 ["machine"] (spD K preNone) := fun base => cal_of F_way_of_none g_way_of_none b_way_of_none (ok_way_of_none F_way_of_none T)
  have c_way_of_one : ∀ base, Cal P w K mg base "way_of_one" 1 ["machine", "state"] (spD K preOne) := fun base => cal_of F_way_of_one g_way_of_one b_way_of_one (ok_way_of_one F_way_of_one T)
  have c_way_behind : ∀ base, Cal P w K mg base "way_behind" 1 ["way", "other"] (spD K preBehind) := fun base => cal_of F_way_behind g_way_behind b_way_behind (ok_way_behind F_way_behind T)
  have c_items_for : ∀ base, Cal P w K mg base "items_for" 1 ["turner", "name"] (spD K preItems) := fun base => cal_of F_items_for g_items_for b_items_for (ok_items_for F_items_for T)
  have c_forms_of : ∀ base, Cal P w K mg base "forms_of" 1 ["machine", "state"] (spD K preForms) := fun base => cal_of F_forms_of g_forms_of b_forms_of (ok_forms_of F_forms_of T)
  have c_is_name : ∀ base, Cal P w K mg base "is_name" 1 ["thing"] (spD K preNm) := fun base => cal_of F_is_name g_is_name b_is_name (ok_is_name F_is_name T)
  have c_all_names : ∀ base, Cal P w K mg base "all_names" 1 ["some", "others"] (spX K preAll postAll) := fun base => cal_of F_all_names g_all_names b_all_names (ok_all_names F_all_names T)
  have c_size_of : ∀ base, Cal P w K mg base "size_of" 20 ["doc"] (spD K (preSize 20)) := fun base => cal_rec F_size_of g_size_of b_size_of preSize (fun h => h) (fun as r ⟨x, h, _⟩ => by have := Doc.ht_pos x; omega) (fun h c => ok_size_of h F_size_of T  c) 20
  have c_upward_places : ∀ base, Cal P w K mg base "upward_places" 20 ["doc", "place"] (spD K (preUp 20)) := fun base => cal_rec F_upward_places g_upward_places b_upward_places preUp (fun h => h) (fun as r ⟨x, p, h, _⟩ => by have := Doc.ht_pos x; omega) (fun h c => ok_upward_places h F_upward_places T  c) 20
  have c_l_cell_at : ∀ base, Cal P w K mg base "_law_cell_at" 1 ["_law_script", "_law_k"] (spD K preCell) := fun base => cal_of F_law_cell_at g_law_cell_at b_law_cell_at (ok_law_cell_at F_law_cell_at T)
  have c_l_any_names : ∀ base, Cal P w K mg base "_law_any_names" 1 ["_law_cell", "_law_many"] (spX K preNames postNames) := fun base => cal_of F_law_any_names g_law_any_names b_law_any_names (ok_law_any_names F_law_any_names T)
  have c_l_names : ∀ base, Cal P w K mg base "_law_names" 2 ["_law_cell", "_law_many"] (spX K preNames postNames) := fun base => cal_of F_law_names g_law_names b_law_names (ok_law_names F_law_names T (c_l_any_names base))
  have c_l_numbers : ∀ base, Cal P w K mg base "_law_numbers" 2 ["_law_script", "_law_start", "_law_many"] (spX K preNums postNums) := fun base => cal_of F_law_numbers g_law_numbers b_law_numbers (ok_law_numbers F_law_numbers T (c_l_cell_at base))
  have c_l_machine : ∀ base, Cal P w K mg base "_law_machine" 1 ["_law_xs", "_law_many", "_law_forms_here", "_law_names_here"] (spD K preMach) := fun base => cal_of F_law_machine g_law_machine b_law_machine (ok_law_machine F_law_machine T)
  have c_l_item : ∀ base, Cal P w K mg base "_law_item" 1 ["_law_x", "_law_tags"] (spD K preIt) := fun base => cal_of F_law_item g_law_item b_law_item (ok_law_item F_law_item T)
  have c_l_turner : ∀ base, Cal P w K mg base "_law_turner" 2 ["_law_xs", "_law_at_here", "_law_tags"] (spD K preTr) := fun base => cal_of F_law_turner g_law_turner b_law_turner (ok_law_turner F_law_turner T (c_l_item base))
  have c_l_began : ∀ base, Cal P w K mg base "_law_began" 3 ["_law_xs", "_law_words"] (spX K preBegan postBegan) := fun base => cal_of F_law_began g_law_began b_law_began (ok_law_began F_law_began T (c_l_machine base) (c_l_turner base))
  have c_l_filled_size : ∀ base, Cal P w K mg base "_law_filled_size" 5 ["_law_items", "_law_size_here"] (spD K (preFsz 5)) := fun base => cal_rec F_law_filled_size g_law_filled_size b_law_filled_size preFsz (fun h => h) (fun as r ⟨is, s, h, _⟩ => by omega) (fun h c => ok_law_filled_size h F_law_filled_size T  c) 5
  have c_l_holed : ∀ base, Cal P w K mg base "_law_holed" 5 ["_law_items"] (spD K (preHoled 5)) := fun base => cal_rec F_law_holed g_law_holed b_law_holed preHoled (fun h => h) (fun as r ⟨is, h, _⟩ => by omega) (fun h c => ok_law_holed h F_law_holed T  c) 5
  have c_l_filled : ∀ base, Cal P w K mg base "_law_filled" 5 ["_law_items", "_law_row"] (spD K (preFill 5)) := fun base => cal_rec F_law_filled g_law_filled b_law_filled preFill (fun h => h) (fun as r ⟨is, row, h, _⟩ => by omega) (fun h c => ok_law_filled h F_law_filled T  c) 5
  have c_l_turned_size : ∀ base, Cal P w K mg base "_law_turned_size" 26 ["_law_rules", "_law_doc_here"] (spD K (preTsz 20)) := fun base => cal_rec F_law_turned_size g_law_turned_size b_law_turned_size preTsz (fun h => h + 6) (fun as r ⟨t, x, _, h, _⟩ => by have := Doc.ht_pos x; omega) (fun h c => ok_law_turned_size h F_law_turned_size T (c_l_filled_size base) c) 20
  have c_l_turned : ∀ base, Cal P w K mg base "_law_turned" 26 ["_law_rules", "_law_doc_here"] (spD K (preTurn 20)) := fun base => cal_rec F_law_turned g_law_turned b_law_turned preTurn (fun h => h + 6) (fun as r ⟨t, x, _, h, _⟩ => by have := Doc.ht_pos x; omega) (fun h c => ok_law_turned h F_law_turned T (c_l_filled base) (c_l_holed base) c) 20
  have c_l_places : ∀ base, Cal P w K mg base "_law_places" 20 ["_law_doc_here", "_law_place"] (spD K (prePl 20)) := fun base => cal_rec F_law_places g_law_places b_law_places prePl (fun h => h) (fun as r ⟨x, p, h, _⟩ => by have := Doc.ht_pos x; omega) (fun h c => ok_law_places h F_law_places T  c) 20
  have c_l_below_first : ∀ base, Cal P w K mg base "_law_below_first" 20 ["_law_doc_here", "_law_place"] (spD K (preUp 20)) := fun base => cal_rec F_law_below_first g_law_below_first b_law_below_first preUp (fun h => h) (fun as r ⟨x, p, h, _⟩ => by have := Doc.ht_pos x; omega) (fun h c => ok_law_below_first h F_law_below_first T  c) 20
  have c_l_at : ∀ base, Cal P w K mg base "_law_at" 1 ["_law_doc_here", "_law_place"] (spD K preAt) := fun base => cal_of F_law_at g_law_at b_law_at (ok_law_at F_law_at T)
  have c_l_with : ∀ base, Cal P w K mg base "_law_with" 20 ["_law_doc_here", "_law_place", "_law_new"] (spD K (preWith 20)) := fun base => cal_rec F_law_with g_law_with b_law_with preWith (fun h => h) (fun as r ⟨x, y, z, p, h, _⟩ => by omega) (fun h c => ok_law_with h F_law_with T  c) 20
  have c_l_state : ∀ base, Cal P w K mg base "_law_state" 40 ["_law_machine_here", "_law_doc_here"] (spD K (preState 40)) := fun base => cal_rec F_law_state g_law_state b_law_state preState (fun h => h) (fun as r ⟨m, n, x, _, h, _⟩ => by have := Doc.ht_pos x; omega) (fun h c => ok_law_state h F_law_state T  c) 40
  have c_l_forms : ∀ base, Cal P w K mg base "_law_forms" 41 ["_law_machine_here", "_law_turner_here", "_law_doc_here"] (spD K preLForms) := fun base => cal_of F_law_forms g_law_forms b_law_forms (ok_law_forms F_law_forms T (c_l_state base) (c_l_turned base))
  have c_l_doc : ∀ base, Cal P w K mg base "_law_doc" 3 ["_law_xs", "_law_at_here", "_law_deep", "_law_tags"] (spD K (preDoc 3)) := fun base => cal_rec F_law_doc g_law_doc b_law_doc preDoc (fun h => h) (fun as r ⟨xs, a, dp, t, h, _⟩ => by omega) (fun h c => ok_law_doc h F_law_doc T  c) 3
  have c_l_deed : ∀ base, Cal P w K mg base "_law_deed" 21 ["_law_doc_here", "_law_cell"] (spD K preDeed) := fun base => cal_of F_law_deed g_law_deed b_law_deed (ok_law_deed F_law_deed T (c_l_places base) (c_l_at base))
  have c_l_done : ∀ base, Cal P w K mg base "_law_done" 21 ["_law_doc_here", "_law_deed_here", "_law_new", "_law_tag"] (spD K preDone) := fun base => cal_of F_law_done g_law_done b_law_done (ok_law_done F_law_done T (c_l_with base) (c_l_at base))
  have c_l_looked : ∀ base, Cal P w K mg base "_law_looked" 41 ["_law_machine_here", "_law_before", "_law_after", "_law_deed_here", "_law_new"] (spD K preLooked) := fun base => cal_of F_law_looked g_law_looked b_law_looked (ok_law_looked F_law_looked T (c_l_state base) (c_l_at base) (c_l_below_first base))
  have c_item_state0 : ∀ base, Cal P w K mg base "item_state" 2 ["machine", "item", "way"] (spD K (preItem 0)) := fun base => cal_of F_item_state g_item_state b_item_state (fn_vac fun as r ⟨m, n, k, v, _, _, _, h1, _, h2, _⟩ => by cases k with | hole => cases h2 | el x is => rw [Item.ht] at h1; omega)
  have c_way_filled0 : ∀ base, Cal P w K mg base "way_filled" 3 ["machine", "items", "way"] (spD K (preFilled 0)) := fun base => cal_of F_way_filled g_way_filled b_way_filled (ok_way_filled 0 F_way_filled T (c_way_of_none base) (c_way_of_one base) (c_way_behind base) (c_item_state0 base))
  have c_item_state1 : ∀ base, Cal P w K mg base "item_state" 4 ["machine", "item", "way"] (spD K (preItem 1)) := fun base => cal_of F_item_state g_item_state b_item_state (ok_item_state 0 F_item_state T (c_start_of base) (c_way_filled0 base))
  have c_way_filled1 : ∀ base, Cal P w K mg base "way_filled" 5 ["machine", "items", "way"] (spD K (preFilled 1)) := fun base => cal_of F_way_filled g_way_filled b_way_filled (ok_way_filled 1 F_way_filled T (c_way_of_none base) (c_way_of_one base) (c_way_behind base) (c_item_state1 base))
  have c_item_state2 : ∀ base, Cal P w K mg base "item_state" 6 ["machine", "item", "way"] (spD K (preItem 2)) := fun base => cal_of F_item_state g_item_state b_item_state (ok_item_state 1 F_item_state T (c_start_of base) (c_way_filled1 base))
  have c_way_filled2 : ∀ base, Cal P w K mg base "way_filled" 7 ["machine", "items", "way"] (spD K (preFilled 2)) := fun base => cal_of F_way_filled g_way_filled b_way_filled (ok_way_filled 2 F_way_filled T (c_way_of_none base) (c_way_of_one base) (c_way_behind base) (c_item_state2 base))
  have c_way_filled : ∀ base, Cal P w K mg base "way_filled" 7 ["machine", "items", "way"] (spD K (preFilled 2)) := c_way_filled2
  have m_number : ∀ base, MCal P w K mg base (He.ga K "BackGrower") "number" 1 ["self", "state"] (spM K (preNumber P w (He.ga K "BackGrower"))) := fun base => ⟨_, fd_number, He.meth_ok (c.fact 82 (f := .meth "BackGrower" "number") rfl), b_number, (ok_number F_number T cG)⟩
  have m_turned_way : ∀ base, MCal P w K mg base (He.ga K "BackGrower") "turned_way" 8 ["self", "state"] (spM K (preTw P w (He.ga K "BackGrower"))) := fun base => ⟨_, fd_turned_way, He.meth_ok (c.fact 84 (f := .meth "BackGrower" "turned_way") rfl), b_turned_way, (ok_turned_way F_turned_way T cG (c_items_for base) (c_way_of_one base) (c_start_of base) (c_way_filled base))⟩
  have m_step : ∀ base, MCal P w K mg base (He.ga K "BackGrower") "step" 9 ["self", "one", "other"] (spM K (preStep P w (He.ga K "BackGrower"))) := fun base => ⟨_, fd_step, He.meth_ok (c.fact 85 (f := .meth "BackGrower" "step") rfl), b_step, (ok_step F_step T cG (m_turned_way base) (c_way_behind base))⟩
  have m_mark : ∀ base, MCal P w K mg base (He.ga K "BackGrower") "mark" 9 ["self", "state"] (spM K (preMark P w (He.ga K "BackGrower"))) := fun base => ⟨_, fd_mark, He.meth_ok (c.fact 86 (f := .meth "BackGrower" "mark") rfl), b_mark, (ok_mark F_mark T cG (m_turned_way base))⟩
  have m_tables : ∀ base, MCal P w K mg base (He.ga K "BackGrower") "tables" 10 ["self", "starts"] (spM K (preTables P w (He.ga K "BackGrower"))) := fun base => ⟨_, fd_tables, He.meth_ok (c.fact 83 (f := .meth "BackGrower" "tables") rfl), b_tables, (ok_tables F_tables T cG (m_number base) (m_step base))⟩
  have c_Grower_init : ∀ base, CCal P w K mg base "Grower" "__init__" 1 ["self"] (spM K (preGi P w (He.ga K "BackGrower"))) := fun base => ⟨He.ga K "Grower", _, fd_Grower_init, .type "type", He.glo_ok X G (c.fact 60 (f := .glo "Grower") rfl), ⟨cm1, cm2, cm3, cm4⟩, b_Grower_init, (ok_Grower_init F_Grower_init T cG)⟩
  have c_BackGrower : ∀ base, Mkc P w K mg base "BackGrower" (He.ga K "BackGrower") 2 ["self", "graft", "machine"] (spM K (preBi P w (He.ga K "BackGrower"))) := fun base => ⟨_, fd_BackGrower_init, He.glo_ok X G (c.fact 61 (f := .glo "BackGrower") rfl), He.mkr_ok (c.fact 71 (f := .mkr "BackGrower") rfl), b_BackGrower_init, (ok_BackGrower_init F_BackGrower_init T cG (c_Grower_init base) (c_all_names base))⟩
  have c_back_tables : ∀ base, Cal P w K mg base "back_tables" 11 ["turner", "machine"] (spM K preBack) := fun base => cal_of F_back_tables g_back_tables b_back_tables (ok_back_tables F_back_tables T cG (c_BackGrower base) (c_way_of_none base) (m_tables base) (m_mark base))
  have c_drawn_back : ∀ base, Cal P w K mg base "drawn_back" 12 ["turner", "machine"] (spM K preDrawn) := fun base => cal_of F_drawn_back g_drawn_back b_drawn_back (ok_drawn_back F_drawn_back T (c_back_tables base))
  have c_state_by : ∀ base, Cal P w K mg base "state_by" 2 ["machine", "name", "below"] (spD K (preSb (He.ga K "Spot"))) := fun base => cal_of F_state_by g_state_by b_state_by (ok_state_by F_state_by T cS (c_start_of base))
  have c_Spot : ∀ base, Mkc P w K mg base "Spot" (He.ga K "Spot") 1 ["self", "name", "state", "below"] (spM K (preSpot (He.ga K "Spot"))) := fun base => ⟨_, fd_Spot_init, He.glo_ok X G (c.fact 62 (f := .glo "Spot") rfl), He.mkr_ok (c.fact 76 (f := .mkr "Spot") rfl), b_Spot_init, (ok_Spot_init F_Spot_init T cS)⟩
  have c_spot_of : ∀ base, Cal P w K mg base "spot_of" 32 ["machine", "doc"] (spM K (preSpotOf (He.ga K "Spot") 30)) := fun base => cal_recM F_spot_of g_spot_of b_spot_of (preSpotOf (He.ga K "Spot")) (fun h => h + 2) (fun as fp post ⟨b, N, x, _, h, _⟩ => by have := Doc.ht_pos x; omega) (fun h c => ok_spot_of h F_spot_of T cS (c_Spot base) (c_state_by base) c) 30
  have c_doc_of : ∀ base, Cal P w K mg base "doc_of" 30 ["spot"] (spD K (preDocOf (He.ga K "Spot") 30)) := fun base => cal_rec F_doc_of g_doc_of b_doc_of (preDocOf (He.ga K "Spot")) (fun h => h) (fun as r ⟨T, h, _⟩ => by have := Doc.ht_pos T.doc; omega) (fun h c => ok_doc_of h F_doc_of T cS c) 30
  have c_Kept : ∀ base, Mkc P w K mg base "Kept" (He.ga K "Kept") 33 ["self", "machine", "doc"] (spM K (preKi (He.ga K "Kept") (He.ga K "Spot"))) := fun base => ⟨_, fd_Kept_init, He.glo_ok X G (c.fact 63 (f := .glo "Kept") rfl), He.mkr_ok (c.fact 81 (f := .mkr "Kept") rfl), b_Kept_init, (ok_Kept_init F_Kept_init T cK (c_spot_of base))⟩
  have m_now : ∀ base, MCal P w K mg base (He.ga K "Kept") "now" 31 ["self"] (spD K (preNow (He.ga K "Kept") (He.ga K "Spot"))) := fun base => ⟨_, fd_now, He.meth_ok (c.fact 87 (f := .meth "Kept" "now") rfl), b_now, (ok_now F_now T cK (c_doc_of base))⟩
  have m_looked : ∀ base, MCal P w K mg base (He.ga K "Kept") "looked" 1 ["self"] (spD K (preLkd (He.ga K "Kept") (He.ga K "Spot"))) := fun base => ⟨_, fd_looked, He.meth_ok (c.fact 94 (f := .meth "Kept" "looked") rfl), b_looked, (ok_looked F_looked T cK)⟩
  have m_spots : ∀ base, MCal P w K mg base (He.ga K "Kept") "spots" 1 ["self", "place", "asked"] (spM K (preSpots (He.ga K "Kept") (He.ga K "Spot"))) := fun base => ⟨_, fd_spots, He.meth_ok (c.fact 88 (f := .meth "Kept" "spots") rfl), b_spots, (ok_spots F_spots T cK cS)⟩
  have m_look : ∀ base, MCal P w K mg base (He.ga K "Kept") "look" 3 ["self", "spots", "place"] (spM K (preLook (He.ga K "Kept") (He.ga K "Spot"))) := fun base => ⟨_, fd_look, He.meth_ok (c.fact 89 (f := .meth "Kept" "look") rfl), b_look, (ok_look F_look T cK cS (c_state_by base))⟩
  have m_forms_at : ∀ base, MCal P w K mg base (He.ga K "Kept") "forms_at" 2 ["self", "place"] (spD K (preFa (He.ga K "Kept") (He.ga K "Spot"))) := fun base => ⟨_, fd_forms_at, He.meth_ok (c.fact 93 (f := .meth "Kept" "forms_at") rfl), b_forms_at, (ok_forms_at F_forms_at T cK cS (m_spots base) (c_forms_of base))⟩
  have m_rename : ∀ base, MCal P w K mg base (He.ga K "Kept") "rename" 4 ["self", "place", "name"] (spM K (preRen (He.ga K "Kept") (He.ga K "Spot"))) := fun base => ⟨_, fd_rename, He.meth_ok (c.fact 92 (f := .meth "Kept" "rename") rfl), b_rename, (ok_rename F_rename T cK cS (m_spots base) (m_look base) (c_is_name base))⟩
  have m_cut : ∀ base, MCal P w K mg base (He.ga K "Kept") "cut" 4 ["self", "place"] (spM K (preCut (He.ga K "Kept") (He.ga K "Spot"))) := fun base => ⟨_, fd_cut, He.meth_ok (c.fact 91 (f := .meth "Kept" "cut") rfl), b_cut, (ok_cut F_cut T cK cS (m_spots base) (m_look base))⟩
  have m_put : ∀ base, MCal P w K mg base (He.ga K "Kept") "put" 33 ["self", "place", "new"] (spM K (prePut (He.ga K "Kept") (He.ga K "Spot"))) := fun base => ⟨_, fd_put, He.meth_ok (c.fact 90 (f := .meth "Kept" "put") rfl), b_put, (ok_put F_put T cK cS (m_spots base) (m_look base) (m_now base) (c_spot_of base) (c_size_of base) (c_upward_places base))⟩
  have c_l_seen : ∀ base, Cal P w K mg base "_law_seen" 42 ["_law_kept", "_law_machine_here", "_law_turner_here", "_law_doc_here", "_law_cell"] (spD K (preSeen (He.ga K "Kept") (He.ga K "Spot"))) := fun base => cal_of F_law_seen g_law_seen b_law_seen (ok_law_seen F_law_seen T cK cS (m_now base) (m_forms_at base) (c_l_turned_size base) (c_l_forms base) (c_l_at base) (c_l_places base))
  have c_l_change : ∀ base, Cal P w K mg base "_law_change" 34 ["_law_kept", "_law_deed_here", "_law_new", "_law_tag"] (spM K (preCh (He.ga K "Kept") (He.ga K "Spot"))) := fun base => cal_of F_law_change g_law_change b_law_change (ok_law_change F_law_change T cK (m_put base) (m_cut base) (m_rename base))
  have e := hfa.symm.trans g_law
  cases e
  refine ⟨fd_law, fun s v => FunD.bindsA (ps := ["_law_script"]) F_law (fun _ _ _ _ _ _ us hl => match us, hl with | [_], _ => rfl) s [v] rfl, fun base _ _ => ok_law F_law T cK (m_looked base) (c_l_cell_at base) (c_l_names base) (c_l_numbers base) (c_l_began base) (c_drawn_back base) (c_l_doc base) (c_Kept base) (c_l_seen base) (c_l_deed base) (c_l_done base) (c_l_turned_size base) (c_l_change base) (c_l_looked base)⟩
end G
open PySem PySem.W PySem.Calls PyProof.Rows
theorem PySem.Challenge.cw_graftform_k94_whole_turned_forms_without_holds : PySem.Challenge.rw_graftform_k94_whole_turned_forms_without.Holds := by
  w_on; o_law
  refine HandSHeadRun.head_any (r := OpenLaw.row PySem.Challenge.rw_graftform_k94_whole_turned_forms_without) (q := view (OpenLaw.row PySem.Challenge.rw_graftform_k94_whole_turned_forms_without).prog [69]) (H := GH.hk) (ob := GH.ob) (M := 6000) (loose := GH.nms) (d := HandSHeadRun.topDef (OpenLaw.row PySem.Challenge.rw_graftform_k94_whole_turned_forms_without).prog 69) (kwd := []) GH.ob_eq
    (by kernel_rfl) (fun s => by kernel_rfl) GH.run (by kernel_rfl) (by kernel_rfl) (by kernel_rfl) (by rfl) (by first | assumption | decide +kernel) (by decide +kernel) ⟨rfl, rfl, rfl, rfl, rfl, by decide +kernel⟩ ?hw ?hc
  case hw => w_witness2
  case hc =>
    refine L2.walk_ofE (l := PySem.Challenge.rw_graftform_k94_whole_turned_forms_without) (n := 63) (k := 43) (x := "_law_script") (CX := L2.CX0) rfl (by decide) (by kernel_rfl) ⟨rfl, by decide, by decide⟩ ?F (fun _ _ _ _ z => z)
    intro w mg fa h Y Gm hmg0
    obtain ⟨K, KX, c, cm⟩ := Y
    have hmg : mg ("law" : PySem.Str) = some (.ref fa) := by
      have e : (HandSHeadRun.topDef (OpenLaw.row PySem.Challenge.rw_graftform_k94_whole_turned_forms_without).prog 69).name = ("law" : PySem.Str) := by kernel_rfl
      rw [← e]
      exact hmg0
    obtain ⟨fd, hb, hF⟩ := G.facts (P := (PySem.Challenge.rw_graftform_k94_whole_turned_forms_without).prog) (w := w) KX Gm hmg c cm
    exact ⟨K, fd, G.spM K (G.preLaw K), KX, hb, fun H a ns hl _ hS => G.law_asks hl hS, hF⟩
