import PyProof.Rows.All
import Wide.All
import OpenK.AllK
import Wide.FinOn
import HandS.ForMost
import HandS.Defaults
import HandS.Deep
import HandS.Flow
import HandS.Zip
import HandS.TupAny
import HandS.NoneIn
import HandS.IsInst
import HandS.SetFor
import HandS.SortInts
import HandS.WideBits
import HandS.Conv
import KE.KRevSl
import HandS.Head0
import HandS.Head1
import HandS.Head2
import HandS.HeadEnd
import HandS.HeadHook1
import HandS.HeadHook2
import PySem.Challenge.RW_leftspread_k72_across_both_as_doing_twic
set_option Elab.async false
set_option linter.all false
set_option maxRecDepth 100000
set_option maxHeartbeats 0
namespace Pv
open PySem PySem.Spec L2
/-! ## data that nobody changes, own lists, slots -/
abbrev D := PyData
mutual
/-- v stands for d; all that it reaches is tracked in F -/
inductive Rp (F : Hp) : V → D → Prop
  | non : Rp F .non .none
  | bl (b : Bool) : Rp F (.bl b) (.bool b)
  | int (i : Int) : Rp F (.int i) (.int i)
  | str (x : Str) : Rp F (.str x) (.str x)
  | lst {a : Addr} {vs : List V} {ds : List D} : F a = some (.lst vs) → RpAll F vs ds → Rp F (.ref a) (.list ds)
  | tup {a : Addr} {vs : List V} {ds : List D} : F a = some (.tup vs) → RpAll F vs ds → Rp F (.ref a) (.tuple ds)
inductive RpAll (F : Hp) : List V → List D → Prop
  | nil : RpAll F [] []
  | cons {v : V} {vs : List V} {d : D} {ds : List D} : Rp F v d → RpAll F vs ds → RpAll F (v :: vs) (d :: ds)
end
/-- what is tracked in F is tracked in H -/
def Sub (F H : Hp) : Prop := ∀ a o, F a = some o → H a = some o
theorem Sub.rfl {F : Hp} : Sub F F := fun _ _ h => h
theorem Sub.trans {F G H : Hp} (a : Sub F G) (b : Sub G H) : Sub F H := fun x o h => b x o (a x o h)
mutual
theorem Rp.mono {F G : Hp} (s : Sub F G) : ∀ {v : V} {d : D}, Rp F v d → Rp G v d
  | _, _, .non => .non
  | _, _, .bl b => .bl b
  | _, _, .int i => .int i
  | _, _, .str x => .str x
  | _, _, .lst h t => .lst (s _ _ h) (RpAll.mono s t)
  | _, _, .tup h t => .tup (s _ _ h) (RpAll.mono s t)
theorem RpAll.mono {F G : Hp} (s : Sub F G) : ∀ {vs : List V} {ds : List D}, RpAll F vs ds → RpAll G vs ds
  | _, _, .nil => .nil
  | _, _, .cons h t => .cons (Rp.mono s h) (RpAll.mono s t)
end
mutual
theorem Rp.dp {K : PySem.W.Frag} {F : Hp} : ∀ {v : V} {d : D}, Rp F v d → Dp K F v d
  | _, _, .non => .non
  | _, _, .bl b => .bl b
  | _, _, .int i => .int i
  | _, _, .str x => .str x
  | _, _, .lst h t => .lst (SqL.of h) (RpAll.dp t)
  | _, _, .tup h t => .tup (SqT.of h) (RpAll.dp t)
theorem RpAll.dp {K : PySem.W.Frag} {F : Hp} : ∀ {vs : List V} {ds : List D}, RpAll F vs ds → DpAll K F vs ds
  | _, _, .nil => .nil
  | _, _, .cons h t => .cons (Rp.dp h) (RpAll.dp t)
end
theorem RpAll.len {F : Hp} : ∀ {vs : List V} {ds : List D}, RpAll F vs ds → vs.length = ds.length
  | _, _, .nil => rfl
  | _, _, .cons _ t => congrArg (· + 1) (RpAll.len t)
theorem RpAll.get {F : Hp} : ∀ {vs : List V} {ds : List D}, RpAll F vs ds → ∀ {i : Nat} {d : D}, ds[i]? = some d → ∃ v, vs[i]? = some v ∧ Rp F v d
  | _, _, .nil, i, d, h => by simp at h
  | _, _, .cons (v := v) r t, 0, d, h => by
    simp at h
    subst h
    exact ⟨v, rfl, r⟩
  | _, _, .cons r t, i + 1, d, h => by
    obtain ⟨v, h1, h2⟩ := RpAll.get t (i := i) (d := d) (by simpa using h)
    exact ⟨v, by simpa using h1, h2⟩
theorem RpAll.getV {F : Hp} : ∀ {vs : List V} {ds : List D}, RpAll F vs ds → ∀ {i : Nat} {v : V}, vs[i]? = some v → ∃ d, ds[i]? = some d ∧ Rp F v d
  | _, _, .nil, i, d, h => by simp at h
  | _, _, .cons (d := d) r t, 0, v, h => by
    simp at h
    subst h
    exact ⟨d, rfl, r⟩
  | _, _, .cons r t, i + 1, v, h => by
    obtain ⟨d, h1, h2⟩ := RpAll.getV t (i := i) (v := v) (by simpa using h)
    exact ⟨d, by simpa using h1, h2⟩
theorem RpAll.app {F : Hp} : ∀ {vs us : List V} {ds es : List D}, RpAll F vs ds → RpAll F us es → RpAll F (vs ++ us) (ds ++ es)
  | _, _, _, _, .nil, h => h
  | _, _, _, _, .cons r t, h => .cons r (RpAll.app t h)
theorem RpAll.one {F : Hp} {v : V} {d : D} (h : Rp F v d) : RpAll F [v] [d] := .cons h .nil
theorem RpAll.take {F : Hp} : ∀ {vs : List V} {ds : List D} (n : Nat), RpAll F vs ds → RpAll F (vs.take n) (ds.take n)
  | _, _, 0, _ => .nil
  | _, _, _ + 1, .nil => .nil
  | _, _, n + 1, .cons r t => .cons r (RpAll.take n t)
theorem RpAll.drop {F : Hp} : ∀ {vs : List V} {ds : List D} (n : Nat), RpAll F vs ds → RpAll F (vs.drop n) (ds.drop n)
  | _, _, 0, h => h
  | _, _, _ + 1, .nil => .nil
  | _, _, n + 1, .cons r t => RpAll.drop n t
theorem RpAll.rev {F : Hp} : ∀ {vs : List V} {ds : List D}, RpAll F vs ds → RpAll F vs.reverse ds.reverse
  | _, _, .nil => .nil
  | _, _, .cons r t => by
    rw [List.reverse_cons, List.reverse_cons]
    exact (RpAll.rev t).app (.one r)
theorem RpAll.set {F : Hp} : ∀ {vs : List V} {ds : List D} (i : Nat) {v : V} {d : D}, RpAll F vs ds → Rp F v d → RpAll F (vs.set i v) (ds.set i d)
  | _, _, _, _, _, .nil, _ => .nil
  | _, _, 0, _, _, .cons _ t, h => .cons h t
  | _, _, i + 1, _, _, .cons r t, h => .cons r (RpAll.set i t h)
theorem RpAll.eraseIdx {F : Hp} : ∀ {vs : List V} {ds : List D} (i : Nat), RpAll F vs ds → RpAll F (vs.eraseIdx i) (ds.eraseIdx i)
  | _, _, _, .nil => .nil
  | _, _, 0, .cons _ t => t
  | _, _, i + 1, .cons r t => .cons r (RpAll.eraseIdx i t)
theorem RpAll.dropLast {F : Hp} {vs : List V} {ds : List D} (h : RpAll F vs ds) : RpAll F vs.dropLast ds.dropLast := by
  rw [List.dropLast_eq_take, List.dropLast_eq_take, h.len]
  exact h.take _
theorem RpAll.rep {F : Hp} {vs : List V} {ds : List D} (h : RpAll F vs ds) : ∀ k : Nat, RpAll F (List.replicate k vs).flatten (List.replicate k ds).flatten
  | 0 => .nil
  | k + 1 => by
    rw [List.replicate_succ, List.replicate_succ, List.flatten_cons, List.flatten_cons]
    exact h.app (RpAll.rep h k)
theorem RpAll.ints {F : Hp} : ∀ {vs : List V} {ns : List Int}, RpAll F vs (ns.map PyData.int) → vs = ns.map V.int
  | vs, [], h => by
    cases h
    rfl
  | vs, n :: ns, h => by
    cases h with
    | cons r t =>
      cases r
      rw [RpAll.ints t]
      rfl
theorem RpAll.bools {F : Hp} : ∀ {vs : List V} {ns : List Bool}, RpAll F vs (ns.map PyData.bool) → vs = ns.map V.bl
  | vs, [], h => by
    cases h
    rfl
  | vs, n :: ns, h => by
    cases h with
    | cons r t =>
      cases r
      rw [RpAll.bools t]
      rfl
theorem RpAll.ofInts {F : Hp} : ∀ ns : List Int, RpAll F (ns.map V.int) (ns.map PyData.int)
  | [] => .nil
  | n :: ns => .cons (.int n) (RpAll.ofInts ns)

/-- what a slot (or a step's value) is: data; a list that it alone holds; the script -/
inductive R where
  | v (d : D)
  | l (xs : List D)
  | s (ns : List Int)
def R.own : R → Bool
  | .l _ => true
  | _ => false
def RepR (K : PySem.W.Frag) (F H : Hp) (x : V) : R → Prop
  | .v d => Rp F x d
  | .l xs => ∃ a vs, x = .ref a ∧ H a = some (.lst vs) ∧ RpAll F vs xs ∧ F a = none
  | .s ns => ∃ a, x = .ref a ∧ SqL K F a (ns.map V.int)
abbrev Env := List (Option R)
/-- slot i holds r, standing at v -/
def Hold (ρ : Env) (σ : St) (i : Nat) (r : R) (v : V) : Prop := ρ[i]? = some (some r) ∧ σ[i]? = some (some v)
structure Good (K : PySem.W.Frag) (F H : Hp) (ρ : Env) (σ : St) : Prop where
  sub : Sub F H
  len : ρ.length = σ.length
  has : ∀ (i : Nat) (r : R), ρ[i]? = some (some r) → ∃ v, σ[i]? = some (some v)
  rep : ∀ i r v, Hold ρ σ i r v → RepR K F H v r
  dis : ∀ i j r q a, Hold ρ σ i r (.ref a) → Hold ρ σ j q (.ref a) → r.own = true → q.own = true → i = j
/-- the addresses of own lists -/
def Own (ρ : Env) (σ : St) (a : Addr) : Prop := ∃ i r, Hold ρ σ i r (.ref a) ∧ r.own = true
/-- from F, H with the own addresses O to F', H' with O' -/
structure Step (F H : Hp) (O : Addr → Prop) (F' H' : Hp) (O' : Addr → Prop) : Prop where
  fz : Sub F F'
  kp : ∀ a o, H a = some o → ¬ O a → H' a = some o
  gr : ∀ a, F' a ≠ none → F a ≠ none ∨ H a = none ∨ O a
  ow : ∀ a, O' a → O a ∨ H a = none
  th : ∀ a, H a ≠ none → H' a ≠ none
section
variable {F H F1 H1 F2 H2 : Hp} {O O1 O2 P : Addr → Prop}
theorem Step.refl : Step F H O F H O := ⟨fun _ _ h => h, fun _ _ h _ => h, fun _ h => .inl h, fun _ h => .inl h, fun _ h => h⟩
theorem Step.trans (s : Step F H O F1 H1 O1) (t : Step F1 H1 O1 F2 H2 O2) : Step F H O F2 H2 O2 where
  fz := s.fz.trans t.fz
  kp := fun a o h n => t.kp a o (s.kp a o h n) fun q => (s.ow a q).elim n fun e => by rw [e] at h; cases h
  gr := fun a h => by
    rcases t.gr a h with q | q | q
    · exact s.gr a q
    · refine .inr (.inl ?_)
      cases e : H a with
      | none => rfl
      | some o => exact absurd q (s.th a (by rw [e]; exact fun z => nomatch z))
    · exact (s.ow a q).elim (fun z => .inr (.inr z)) fun z => .inr (.inl z)
  ow := fun a h => by
    rcases t.ow a h with q | q
    · exact s.ow a q
    · refine .inr ?_
      cases e : H a with
      | none => rfl
      | some o => exact absurd q (s.th a (by rw [e]; exact fun z => nomatch z))
  th := fun a h => t.th a (s.th a h)
/-- less is owned behind it; more ahead of it -/
theorem Step.weak (s : Step F H O F1 H1 O1) (h : ∀ a, O2 a → O1 a) : Step F H O F1 H1 O2 := ⟨s.fz, s.kp, s.gr, fun a q => s.ow a (h a q), s.th⟩
theorem Step.wide (s : Step F H O F1 H1 O1) (h : ∀ a, O a → P a) : Step F H P F1 H1 O1 :=
  ⟨s.fz, fun a o e n => s.kp a o e fun z => n (h a z), fun a q => (s.gr a q).imp id fun z => z.imp id (h a), fun a q => (s.ow a q).imp (h a) id, s.th⟩
/-- what is owned besides stays owned -/
theorem Step.frame (s : Step F H O F1 H1 O1) : Step F H (fun a => O a ∨ P a) F1 H1 (fun a => O1 a ∨ P a) :=
  ⟨s.fz, fun a o e n => s.kp a o e fun z => n (.inl z), fun a q => (s.gr a q).imp id fun z => z.imp id .inl, fun a q => q.elim (fun z => (s.ow a z).imp .inl id) fun z => .inl (.inr z), s.th⟩
/-- a new object, not owned -/
theorem Step.fresh {p : Addr} {o : HO} (hp : H p = none) (hs : Sub F H) : Step F H O (upd F p o) (upd H p o) O where
  fz := fun a u h => by
    have : a ≠ p := fun e => by
      subst e
      have := hs _ _ h
      rw [hp] at this
      cases this
    rw [upd_ne this]
    exact h
  kp := fun a u h _ => by
    rw [upd_ne (ne_of_none h hp)]
    exact h
  gr := fun a h => by
    by_cases e : a = p
    · subst e
      exact .inr (.inl hp)
    · rw [upd_ne e] at h
      exact .inl h
  ow := fun _ h => .inl h
  th := fun a h => by
    by_cases e : a = p
    · subst e
      exact absurd hp h
    · rw [upd_ne e]
      exact h
/-- a new object, owned -/
theorem Step.freshOwn {p : Addr} {o : HO} (hp : H p = none) : Step F H O F (upd H p o) (fun a => O a ∨ a = p) where
  fz := fun _ _ h => h
  kp := fun a u h _ => by
    rw [upd_ne (ne_of_none h hp)]
    exact h
  gr := fun a h => .inl h
  ow := fun a h => h.imp id fun e => by
    subst e
    exact hp
  th := fun a h => by
    by_cases e : a = p
    · subst e
      exact absurd hp h
    · rw [upd_ne e]
      exact h
/-- an own object is written -/
theorem Step.write {p : Addr} {o : HO} (hp : O p) : Step F H O F (upd H p o) O where
  fz := fun _ _ h => h
  kp := fun a u h n => by
    rw [upd_ne (fun e => n (by rw [e]; exact hp))]
    exact h
  gr := fun a h => .inl h
  ow := fun _ h => .inl h
  th := fun a h => by
    by_cases e : a = p
    · rw [e, upd_same]
      exact fun z => nomatch z
    · rw [upd_ne e]
      exact h
/-- an own object is given up: from now on nobody changes it -/
theorem Step.freeze {p : Addr} {o : HO} (hp : O p) (hh : H p = some o) (hf : F p = none) (hO : ∀ a, O1 a → O a) : Step F H O (upd F p o) H O1 where
  fz := fun a u h => by
    rw [upd_ne (ne_of_none h hf)]
    exact h
  kp := fun _ _ h _ => h
  gr := fun a h => by
    by_cases e : a = p
    · subst e
      exact .inr (.inr hp)
    · rw [upd_ne e] at h
      exact .inl h
  ow := fun a h => .inl (hO a h)
  th := fun _ h => h
end
theorem Sub.upd2 {F H : Hp} {p : Addr} {o : HO} (s : Sub F H) : Sub (upd F p o) (upd H p o) := fun a u h => by
  by_cases e : a = p
  · subst e
    rw [upd_same] at h ⊢
    exact h
  · rw [upd_ne e] at h ⊢
    exact s _ _ h
theorem Sub.updR {F H : Hp} {p : Addr} {o : HO} (s : Sub F H) (h : F p = none) : Sub F (upd H p o) := fun a u e => by
  rw [upd_ne (ne_of_none e h)]
  exact s _ _ e
theorem Sub.updL {F H : Hp} {p : Addr} {o : HO} (s : Sub F H) (h : H p = some o) : Sub (upd F p o) H := fun a u e => by
  by_cases q : a = p
  · subst q
    rw [upd_same] at e
    rw [h]
    exact e
  · rw [upd_ne q] at e
    exact s _ _ e
theorem Sub.none {F H : Hp} {p : Addr} (s : Sub F H) (h : H p = none) : F p = none := by
  cases e : F p with
  | none => rfl
  | some o =>
    have := s _ _ e
    rw [h] at this
    cases this
theorem sub_upd {F : Hp} {p : Addr} {o : HO} (h : F p = none) : Sub F (upd F p o) := fun a u e => by
  rw [upd_ne (ne_of_none e h)]
  exact e
theorem SqL.sub {K : PySem.W.Frag} {F G : Hp} (s : Sub F G) {a : Addr} {xs : List V} (h : SqL K F a xs) : SqL K G a xs := h.imp (fun z => z.imp (fun q => s _ _ q) fun ⟨o, q⟩ => ⟨o, s _ _ q⟩) id
/-- a value besides the own ones of a step -/
theorem RepR.frame {K : PySem.W.Frag} {F H F1 H1 : Hp} {O O1 : Addr → Prop} (s : Step F H O F1 H1 O1) {x : V} {r : R} (h : RepR K F H x r) (n : ∀ a, x = .ref a → r.own = true → ¬ O a) : RepR K F1 H1 x r := by
  cases r with
  | v d => exact Rp.mono s.fz h
  | l xs =>
    obtain ⟨a, vs, e, h1, h2, h3⟩ := h
    refine ⟨a, vs, e, s.kp _ _ h1 (n a e rfl), h2.mono s.fz, ?_⟩
    cases q : F1 a with
    | none => rfl
    | some o =>
      rcases s.gr a (by rw [q]; exact fun z => nomatch z) with z | z | z
      · exact absurd h3 z
      · rw [h1] at z
        cases z
      · exact absurd z (n a e rfl)
  | s ns =>
    obtain ⟨a, e, h⟩ := h
    exact ⟨a, e, SqL.sub s.fz h⟩
section
variable {K : PySem.W.Frag} {F H F1 H1 : Hp} {ρ ρ1 τ : Env} {σ σ1 υ : St}
/-- each hold of the second is one of the first, own ones one to one -/
theorem Good.map (g : Good K F H ρ σ) (hl : ρ1.length = σ1.length) (hh : ∀ (i : Nat) (r : R), ρ1[i]? = some (some r) → ∃ v, σ1[i]? = some (some v)) (f : Nat → Nat) (hf : ∀ i r v, Hold ρ1 σ1 i r v → Hold ρ σ (f i) r v)
    (hi : ∀ i j r q a, Hold ρ1 σ1 i r (.ref a) → Hold ρ1 σ1 j q (.ref a) → r.own = true → q.own = true → f i = f j → i = j) : Good K F H ρ1 σ1 :=
  ⟨g.sub, hl, hh, fun i r v h => g.rep _ r v (hf i r v h), fun i j r q a h1 h2 o1 o2 => hi i j r q a h1 h2 o1 o2 (g.dis _ _ r q a (hf _ _ _ h1) (hf _ _ _ h2) o1 o2)⟩
theorem Own.map (f : Nat → Nat) (hf : ∀ i r v, Hold ρ1 σ1 i r v → Hold ρ σ (f i) r v) {a : Addr} : Own ρ1 σ1 a → Own ρ σ a := fun ⟨i, r, h, o⟩ => ⟨f i, r, hf i r _ h, o⟩
theorem hold_left {i : Nat} {r : R} {v : V} (hl : ρ.length = σ.length) (hi : i < ρ.length) : Hold (ρ ++ τ) (σ ++ υ) i r v ↔ Hold ρ σ i r v := by
  unfold Hold
  rw [List.getElem?_append_left hi, List.getElem?_append_left (by omega)]
theorem hold_right {i : Nat} {r : R} {v : V} (hl : ρ.length = σ.length) (hi : ρ.length ≤ i) : Hold (ρ ++ τ) (σ ++ υ) i r v ↔ Hold τ υ (i - ρ.length) r v := by
  unfold Hold
  rw [List.getElem?_append_right hi, List.getElem?_append_right (by omega), hl]
theorem hold_lt {i : Nat} {r : R} {v : V} (h : Hold ρ σ i r v) : i < ρ.length := (List.getElem?_eq_some_iff.mp h.1).1
theorem hold_app {i : Nat} {r : R} {v : V} (h : Hold ρ σ i r v) : Hold (ρ ++ τ) (σ ++ υ) i r v := by
  obtain ⟨h1, h2⟩ := h
  obtain ⟨l1, _⟩ := List.getElem?_eq_some_iff.mp h1
  obtain ⟨l2, _⟩ := List.getElem?_eq_some_iff.mp h2
  exact ⟨by rw [List.getElem?_append_left l1]; exact h1, by rw [List.getElem?_append_left l2]; exact h2⟩
theorem own_app {a : Addr} (hl : ρ.length = σ.length) : Own (ρ ++ τ) (σ ++ υ) a ↔ Own ρ σ a ∨ Own τ υ a := by
  constructor
  · rintro ⟨i, r, h, o⟩
    by_cases hi : i < ρ.length
    · exact .inl ⟨i, r, (hold_left hl hi).mp h, o⟩
    · exact .inr ⟨i - ρ.length, r, (hold_right hl (by omega)).mp h, o⟩
  · rintro (⟨i, r, h, o⟩ | ⟨i, r, h, o⟩)
    · exact ⟨i, r, hold_app h, o⟩
    · exact ⟨ρ.length + i, r, (hold_right hl (by omega)).mpr (by rw [Nat.add_sub_cancel_left]; exact h), o⟩
/-- the first part alone -/
theorem Good.left (g : Good K F H (ρ ++ τ) (σ ++ υ)) (hl : ρ.length = σ.length) : Good K F H ρ σ :=
  g.map hl (fun i r h => by
    obtain ⟨l1, _⟩ := List.getElem?_eq_some_iff.mp h
    obtain ⟨v, e⟩ := g.has i r (by rw [List.getElem?_append_left l1]; exact h)
    rw [List.getElem?_append_left (by omega)] at e
    exact ⟨v, e⟩) id (fun i r v h => hold_app h) (fun i j r q a _ _ _ _ e => e)
theorem Good.right (g : Good K F H (ρ ++ τ) (σ ++ υ)) (hl : ρ.length = σ.length) (hl2 : τ.length = υ.length) : Good K F H τ υ :=
  g.map hl2 (fun i r h => by
    obtain ⟨v, e⟩ := g.has (ρ.length + i) r (by rw [List.getElem?_append_right (by omega), Nat.add_sub_cancel_left]; exact h)
    rw [List.getElem?_append_right (by omega)] at e
    exact ⟨v, by rw [← e]; congr 1; omega⟩) (fun i => ρ.length + i) (fun i r v h => (hold_right hl (by omega)).mpr (by rw [Nat.add_sub_cancel_left]; exact h)) (fun i j r q a _ _ _ _ e => by omega)
theorem Good.apart (g : Good K F H (ρ ++ τ) (σ ++ υ)) (hl : ρ.length = σ.length) {a : Addr} (h1 : Own ρ σ a) (h2 : Own τ υ a) : False := by
  obtain ⟨i, r, h, o⟩ := h1
  obtain ⟨j, q, k, u⟩ := h2
  have := g.dis i (ρ.length + j) r q a (hold_app h) ((hold_right hl (by omega)).mpr (by rw [Nat.add_sub_cancel_left]; exact k)) o u
  have := hold_lt h
  omega
/-- the first part steps, the second one stands by -/
theorem Good.frame (g : Good K F H (ρ ++ τ) (σ ++ υ)) (hl : ρ.length = σ.length) (s : Step F H (Own ρ σ) F1 H1 (Own ρ1 σ1)) (g1 : Good K F1 H1 ρ1 σ1) : Good K F1 H1 (ρ1 ++ τ) (σ1 ++ υ) := by
  have hl2 : τ.length = υ.length := by
    have := g.len
    simp only [List.length_append] at this
    omega
  have gr := g.right hl hl2
  have noO : ∀ i r a, Hold τ υ i r (.ref a) → r.own = true → ¬ Own ρ σ a := fun i r a h o q => g.apart hl q ⟨i, r, h, o⟩
  refine ⟨g1.sub, by simp only [List.length_append, g1.len, hl2], fun i r h => ?_, fun i r v h => ?_, fun i j r q a h1 h2 o1 o2 => ?_⟩
  · by_cases hi : i < ρ1.length
    · rw [List.getElem?_append_left hi] at h
      obtain ⟨v, e⟩ := g1.has i r h
      exact ⟨v, by rw [List.getElem?_append_left (by rw [← g1.len]; exact hi)]; exact e⟩
    · rw [List.getElem?_append_right (by omega)] at h
      obtain ⟨v, e⟩ := gr.has _ r h
      exact ⟨v, by rw [List.getElem?_append_right (by rw [← g1.len]; omega), ← g1.len]; exact e⟩
  · by_cases hi : i < ρ1.length
    · exact g1.rep i r v ((hold_left g1.len hi).mp h)
    · have h' := (hold_right g1.len (by omega)).mp h
      exact (gr.rep _ r v h').frame s fun a e o => noO _ r a (by rw [← e]; exact h') o
  · have cross : ∀ i j r q, Hold ρ1 σ1 i r (.ref a) → Hold τ υ j q (.ref a) → r.own = true → q.own = true → False := fun i j r q h1 h2 o1 o2 => by
      rcases s.ow a ⟨i, r, h1, o1⟩ with z | z
      · exact noO _ _ _ h2 o2 z
      · have rp := gr.rep _ _ _ h2
        cases q with
        | v _ => cases o2
        | s _ => cases o2
        | l xs =>
          obtain ⟨b, vs, e, hb, _⟩ := rp
          cases e
          rw [z] at hb
          cases hb
    by_cases hi : i < ρ1.length <;> by_cases hj : j < ρ1.length
    · exact g1.dis i j r q a ((hold_left g1.len hi).mp h1) ((hold_left g1.len hj).mp h2) o1 o2
    · exact (cross _ _ _ _ ((hold_left g1.len hi).mp h1) ((hold_right g1.len (by omega)).mp h2) o1 o2).elim
    · exact (cross _ _ _ _ ((hold_left g1.len hj).mp h2) ((hold_right g1.len (by omega)).mp h1) o2 o1).elim
    · have := gr.dis _ _ r q a ((hold_right g1.len (by omega)).mp h1) ((hold_right g1.len (by omega)).mp h2) o1 o2
      omega
theorem Step.app (s : Step F H (Own ρ σ) F1 H1 (Own ρ1 σ1)) (hl : ρ.length = σ.length) (hl1 : ρ1.length = σ1.length) : Step F H (Own (ρ ++ τ) (σ ++ υ)) F1 H1 (Own (ρ1 ++ τ) (σ1 ++ υ)) := by
  have z := s.frame (P := Own τ υ)
  exact (z.wide fun a h => (own_app hl).mpr h).weak fun a h => (own_app hl1).mp h
end
end Pv

namespace Pv
open PySem PySem.Spec L2
/-! ## the small language and what it does over pure data -/
inductive Bi where
  | len | tuple | list | all | any | int | abs | min2 | max2 | sum | min | max | sorted
  deriving DecidableEq
inductive Ty where
  | int | bool | str | tuple | list
  deriving DecidableEq
inductive Mt where
  | index | count
  deriving DecidableEq
/-- targets -/
inductive Tg where
  | nm (i : Nat) | nil | cons (a b : Tg) | tp (a : Tg)
inductive E where
  | var (i : Nat) | mv (i : Nat)
  | num (z : Int) | bl (b : Bool) | non | str (x : Str) | cst (x : Str) (z : Int)
  | bin (op : Operator) (a b : E) | neg (a : E)
  | cmp (op : CmpOp) (a b : E) | chain (p q : CmpOp) (a b c : E)
  | and_ (a b : E) | or_ (a b : E) | not_ (a : E) | ife (c a b : E)
  | tup (es : E) | lst (es : E)
  | idx (a b : E) | slc (a lo hi : E) | rev (a : E)
  | call (f : Str) (es : E) | bi (b : Bi) (es : E) | isi (a : E) (ts : List Ty)
  | mt (m : Mt) (o es : E) | pop (i : Nat)
  | lrg (t : Bool) (it : E)
  | comp (elt : E) (tg : Tg) (it ifs : E) (vs : List Nat)
  | nil | cons (a b : E)
  | tt (a : E) | tcmp (op : CmpOp) (a b : E) | tchain (p q : CmpOp) (a b c : E) | tand (a b : E) | tor (a b : E) | tnot (a : E) | tyes
  | it (a : E) | rng1 (a : E) | rng2 (a b : E) | rng3 (a b c : E) | enum (a : E) | zip (a b : E)
  | nob
inductive S where
  | skip | seq (s t : S)
  | asg (i : Nat) (e : E) | asgF (i : Nat) (e : E) | asgT (tg : Tg) (e : E) | par (i j : Nat) (a b : E)
  | aug (i : Nat) (op : Operator) (e : E) | setx (i : Nat) (ix e : E) | app (i : Nat) (e : E) | ext (i : Nat) (e : E)
  | ret (e : E) | retN | if_ (c : E) (s t : S) | for_ (tg : Tg) (it : E) (b : S) | while_ (c : E) (b : S)
  | brk | cont | pass | drop (e : E) | never

/-! ### data -/
/-- at most as many as a list may have -/
def okN (n : Nat) : Bool := decide (n ≤ 16777216)
theorem okN_le {n : Nat} (h : okN n = true) : n ≤ sizeLine := by
  rw [sizeLine_eq]
  exact of_decide_eq_true h
theorem okN_of {n : Nat} (h : n ≤ 16777216) : okN n = true := decide_eq_true h
def frzO : R → Option D
  | .v d => some d
  | .l xs => some (.list xs)
  | .s _ => none
def frzR : R → R
  | .l xs => .v (.list xs)
  | r => r
def getS : Env → Nat → Option R
  | [], _ => none
  | r :: _, 0 => r
  | _ :: ρ, i + 1 => getS ρ i
def setS : Env → Nat → Option R → Env
  | [], _, _ => []
  | _ :: ρ, 0, r => r :: ρ
  | q :: ρ, i + 1, r => q :: setS ρ i r
inductive Op where
  | sl (i : Nat) | d (d : D)
def derR : R → Option D
  | .v d => some d
  | .l xs => some (.list xs)
  | .s _ => none
/-- .. the script, too -/
def derA : R → Option D
  | .v d => some d
  | .l xs => some (.list xs)
  | .s ns => some (.list (ns.map PyData.int))
def der (ρ : Env) : Op → Option D
  | .sl i => (getS ρ i).bind derR
  | .d d => some d
def derS (ρ : Env) : Op → Option D
  | .sl i => (getS ρ i).bind derA
  | .d d => some d
def derAll (ρ : Env) : List Op → Option (List D)
  | [] => some []
  | o :: os => (der ρ o).bind fun d => (derAll ρ os).bind fun ds => some (d :: ds)
/-- 62 bits -/
def in62 : Int → Bool
  | .ofNat n => Nat.ble n 4611686018427387903
  | .negSucc n => Nat.ble n 4611686018427387903
theorem in62_b {i : Int} : in62 i = true ↔ -4611686018427387904 ≤ i ∧ i < 4611686018427387904 := by
  cases i with
  | ofNat n =>
    show Nat.ble n _ = true ↔ _
    rw [Nat.ble_eq]
    constructor
    · intro h
      have e : Int.ofNat n = (n : Int) := rfl
      omega
    · intro ⟨h1, h2⟩
      have h2 : (n : Int) < 4611686018427387904 := h2
      omega
  | negSucc n =>
    show Nat.ble n _ = true ↔ _
    rw [Nat.ble_eq]
    constructor
    · intro h
      omega
    · intro ⟨h1, h2⟩
      omega
def binD : Operator → D → D → Option R
  | .Add, .int a, .int b => some (.v (.int (a + b)))
  | .Sub, .int a, .int b => some (.v (.int (a - b)))
  | .Mult, .int a, .int b => if (-18446744073709551616 < a ∧ a < 18446744073709551616) ∨ (-18446744073709551616 < b ∧ b < 18446744073709551616) then some (.v (.int (a * b))) else none
  | .FloorDiv, .int a, .int b => if 0 < b ∧ b < 1073741824 then some (.v (.int (a / b))) else none
  | .Mod, .int a, .int b => if 0 < b then some (.v (.int (a % b))) else none
  | .Pow, .int a, .int b => if 0 ≤ b ∧ b ≤ 1000000 ∧ a.natAbs < 18446744073709551616 then some (.v (.int (a ^ b.toNat))) else none
  | .LShift, .int a, .int b => if 0 ≤ b ∧ b ≤ 1000000 ∧ a.natAbs < 18446744073709551616 then some (.v (.int (a * 2 ^ b.toNat))) else none
  | .RShift, .int a, .int b => if 0 ≤ b then some (.v (.int (a / 2 ^ b.toNat))) else none
  | .Add, .list a, .list b => if okN (a.length + b.length) = true then some (.l (a ++ b)) else none
  | .Add, .tuple a, .tuple b => if okN (a.length + b.length) = true then some (.v (.tuple (a ++ b))) else none
  | .Mult, .list a, .int k => if in62 k = true ∧ okN (a.length * k.toNat) = true then some (.l (List.replicate k.toNat a).flatten) else none
  | _, _, _ => none
def flatD : D → Bool
  | .none => true
  | .bool _ => true
  | .int _ => true
  | .str _ => true
  | _ => false
def eqD (a b : D) : Option Bool := match a, b with
  | .int i, .int j => some (decide (i = j))
  | .bool i, .bool j => some (decide (i = j))
  | .str i, .str j => some (decide (i = j))
  | a, b => if (SeqAt.shaped a && SeqAt.shaped b) = true then some (PyData.eqv a b) else none
def inD (x : D) (y : D) : Option Bool := match y with
  | .list ys => if (flatD x && ys.all flatD) = true then some (ys.any fun z => PyData.eqv z x)
    else if (SeqAt.shaped x && SeqAt.shaped (.list ys)) = true then some (ys.any fun z => PyData.eqv z x) else none
  | .tuple ys => if (flatD x && ys.all flatD) = true then some (ys.any fun z => PyData.eqv z x) else none
  | _ => none
def isNonD : D → Bool
  | .none => true
  | _ => false
def cmpD : CmpOp → D → D → Option Bool
  | .Lt, .int a, .int b => some (decide (a < b))
  | .LtE, .int a, .int b => some (decide (a ≤ b))
  | .Gt, .int a, .int b => some (decide (b < a))
  | .GtE, .int a, .int b => some (decide (b ≤ a))
  | .Eq, a, b => eqD a b
  | .NotEq, a, b => (eqD a b).map (!·)
  | .Is, a, .none => some (isNonD a)
  | .IsNot, a, .none => some (!isNonD a)
  | .In, a, b => inD a b
  | .NotIn, a, b => (inD a b).map (!·)
  | _, _, _ => none
def negD : D → Option D
  | .int a => some (.int (-a))
  | _ => none
def truD : D → Option Bool
  | .none => some false
  | .bool b => some b
  | .int i => some (decide (i ≠ 0))
  | .list xs => some (!xs.isEmpty)
  | .tuple xs => some (!xs.isEmpty)
  | _ => none
def truR (r : R) : Option Bool := (derA r).bind truD
def idxD : D → D → Option D
  | .list xs, .int i => atI xs i
  | .tuple xs, .int i => atI xs i
  | _, _ => none
def cutA {α : Type} (xs : List α) (lo hi : Option Int) : List α := (xs.drop (HT.sIx xs.length 0 lo)).take (HT.sIx xs.length xs.length hi - HT.sIx xs.length 0 lo)
def slcD : D → Option Int → Option Int → Option R
  | .list xs, lo, hi => some (.l (cutA xs lo hi))
  | .tuple xs, lo, hi => some (.v (.tuple (cutA xs lo hi)))
  | _, _, _ => none
def revD : D → Option R
  | .list xs => some (.l xs.reverse)
  | .tuple xs => some (.v (.tuple xs.reverse))
  | _ => none
def boolsOf : List D → Option (List Bool)
  | [] => some []
  | .bool b :: r => (boolsOf r).bind fun bs => some (b :: bs)
  | _ => none
def intsOf : List D → Option (List Int)
  | [] => some []
  | .int b :: r => (intsOf r).bind fun bs => some (b :: bs)
  | _ => none
def maxL : List Int → Option Int
  | [] => none
  | x :: xs => some (xs.foldl max x)
def minL : List Int → Option Int
  | [] => none
  | x :: xs => some (xs.foldl min x)
/-- sorted, by putting in -/
def insI (x : Int) : List Int → List Int
  | [] => [x]
  | y :: ys => if x ≤ y then x :: y :: ys else y :: insI x ys
def srtI : List Int → List Int
  | [] => []
  | x :: xs => insI x (srtI xs)
def biD : Bi → List D → Option R
  | .len, [.list xs] => some (.v (.int xs.length))
  | .len, [.tuple xs] => some (.v (.int xs.length))
  | .tuple, [.list xs] => some (.v (.tuple xs))
  | .tuple, [.tuple xs] => some (.v (.tuple xs))
  | .list, [.list xs] => some (.l xs)
  | .list, [.tuple xs] => some (.l xs)
  | .all, [.list xs] => (boolsOf xs).bind fun bs => some (.v (.bool (bs.all id)))
  | .any, [.list xs] => (boolsOf xs).bind fun bs => some (.v (.bool (bs.any id)))
  | .int, [.int i] => some (.v (.int i))
  | .int, [.bool b] => some (.v (.int (if b then 1 else 0)))
  | .abs, [.int i] => some (.v (.int (if i < 0 then -i else i)))
  | .min2, [.int i, .int j] => some (.v (.int (if j < i then j else i)))
  | .max2, [.int i, .int j] => some (.v (.int (if j > i then j else i)))
  | .sum, [.list xs] => (intsOf xs).bind fun ns => some (.v (.int ns.sum))
  | .max, [.list xs] => (intsOf xs).bind fun ns => (maxL ns).bind fun m => some (.v (.int m))
  | .min, [.list xs] => (intsOf xs).bind fun ns => (minL ns).bind fun m => some (.v (.int m))
  | .sorted, [.list xs] => (intsOf xs).bind fun ns => some (.l ((srtI ns).map PyData.int))
  | _, _ => none
def isiD : D → Ty → Bool
  | .int _, .int => true
  | .bool _, .int => true
  | .bool _, .bool => true
  | .str _, .str => true
  | .tuple _, .tuple => true
  | .list _, .list => true
  | _, _ => false
/-- where the first one like x stands -/
def ixOf (x : D) : List D → Option Nat
  | [] => none
  | y :: ys => if PyData.eqv y x = true then some 0 else (ixOf x ys).map (· + 1)
def mtD : Mt → D → List D → Option R
  | .index, .list xs, [x] => if (flatD x && xs.all flatD) = true then (ixOf x xs).bind fun j => some (.v (.int (j : Nat))) else none
  | .count, .list xs, [.int k] => (intsOf xs).bind fun ns => some (.v (.int (ns.count k : Nat)))
  | _, _, _ => none
def isLst : D → Bool
  | .list _ => true
  | _ => false
def optI : Option D → Option (Option Int)
  | none => some none
  | some (.int i) => some (some i)
  | _ => none

/-! ### targets -/
def wb (ρ : Env) : List (R × Option Nat) → List R → Env
  | (_, some i) :: as, r :: rs => wb (setS ρ i (some r)) as rs
  | (_, none) :: as, _ :: rs => wb ρ as rs
  | _, _ => ρ
mutual
def bindT : Tg → D → Env → Option Env
  | .nm i, d, ρ => some (setS ρ i (some (.v d)))
  | .tp a, .tuple ds, ρ => bindTs a ds ρ
  | .tp a, .list ds, ρ => bindTs a ds ρ
  | _, _, _ => none
def bindTs : Tg → List D → Env → Option Env
  | .nil, [], ρ => some ρ
  | .cons a b, d :: ds, ρ => (bindT a d ρ).bind fun ρ1 => bindTs b ds ρ1
  | _, _, _ => none
end
def wipeE (ρ : Env) : List Nat → Env
  | [] => ρ
  | v :: vs => setS (wipeE ρ vs) v none
/-- the slots vs as in the first, all else as in the second -/
def back (ρ ρ' : Env) (vs : List Nat) : Env := vs.foldr (fun v e => setS e v (getS ρ v)) ρ'

inductive Fl where
  | next | brk | cont | ret (r : R)
def forL (f : D → Env → Option (Fl × Env)) : List D → Env → Option (Fl × Env)
  | [], ρ => some (.next, ρ)
  | d :: ds, ρ => (f d ρ).bind fun (fl, ρ1) => match fl with
    | .next => forL f ds ρ1
    | .cont => forL f ds ρ1
    | .brk => some (.next, ρ1)
    | .ret r => some (.ret r, ρ1)
def whileN (c : Env → Option (Bool × Env)) (f : Env → Option (Fl × Env)) : Nat → Env → Option (Fl × Env)
  | 0, _ => none
  | n + 1, ρ => (c ρ).bind fun (b, ρ1) => match b with
    | false => some (.next, ρ1)
    | true => (f ρ1).bind fun (fl, ρ2) => match fl with
      | .next => whileN c f n ρ2
      | .cont => whileN c f n ρ2
      | .brk => some (.next, ρ2)
      | .ret r => some (.ret r, ρ2)
/-- the items a comprehension makes -/
def compL (g : D → Env → Option (Option D × Env)) (vs : List Nat) : List D → Env → Option (List D × Env)
  | [], ρ => some ([], ρ)
  | d :: ds, ρ => (g d ρ).bind fun (o, ρ1) => (compL g vs ds (wipeE ρ1 vs)).bind fun (xs, ρ2) => match o with
    | some x => some (x :: xs, ρ2)
    | none => some (xs, ρ2)
def rngD (i j : Int) : List D := (List.range (j - i).toNat).map fun k => PyData.int (i + (k : Nat))
def rngC (i c : Int) (n : Nat) : List D := (List.range n).map fun k => PyData.int (i + (k : Nat) * c)
def rngN (i j c : Int) : Nat := if 0 < c then ((j - i + c - 1) / c).toNat else if c < 0 then ((i - j - c - 1) / (-c)).toNat else 0
def enumD (xs : List D) : List D := xs.zipIdx.map fun p => PyData.tuple [.int (p.2 : Nat), p.1]
def zipD (xs ys : List D) : List D := (xs.zip ys).map fun p => PyData.tuple [p.1, p.2]
def seqD : D → Option (List D)
  | .list xs => some xs
  | .tuple xs => some xs
  | _ => none
def opd (e : E) (f : Env → Option (R × Env)) (ρ : Env) : Option (Op × Env) := match e with
  | .var i => (getS ρ i).bind fun _ => some (.sl i, ρ)
  | _ => (f ρ).bind fun (r, ρ1) => (frzO r).bind fun d => some (.d d, ρ1)
/-- how many turns a while may take -/
def WF : Nat := 1000000

section
variable (Φ : Str → List R → Option (R × List R))
mutual
def evE : E → Env → Option (R × Env)
  | .var i, ρ => (getS ρ i).bind fun r => match r with
    | .l xs => some (.v (.list xs), setS ρ i (some (.v (.list xs))))
    | r => some (r, ρ)
  | .mv i, ρ => (getS ρ i).bind fun r => some (r, setS ρ i none)
  | .num z, ρ => some (.v (.int z), ρ)
  | .bl b, ρ => some (.v (.bool b), ρ)
  | .non, ρ => some (.v .none, ρ)
  | .str x, ρ => some (.v (.str x), ρ)
  | .cst _ z, ρ => some (.v (.int z), ρ)
  | .bin op a b, ρ => (opd a (evE a) ρ).bind fun (x, ρ1) => (opd b (evE b) ρ1).bind fun (y, ρ2) =>
      (der ρ2 x).bind fun d => (der ρ2 y).bind fun e => (binD op d e).bind fun r => some (r, ρ2)
  | .neg a, ρ => (opd a (evE a) ρ).bind fun (x, ρ1) => (der ρ1 x).bind fun d => (negD d).bind fun r => some (.v r, ρ1)
  | .cmp op a b, ρ => (opd a (evE a) ρ).bind fun (x, ρ1) => (opd b (evE b) ρ1).bind fun (y, ρ2) =>
      (der ρ2 x).bind fun d => (der ρ2 y).bind fun e => (cmpD op d e).bind fun r => some (.v (.bool r), ρ2)
  | .chain p q a b c, ρ => (opd a (evE a) ρ).bind fun (x, ρ1) => (opd b (evE b) ρ1).bind fun (y, ρ2) =>
      (der ρ2 x).bind fun d => (der ρ2 y).bind fun e => (cmpD p d e).bind fun r => match r with
        | false => some (.v (.bool false), ρ2)
        | true => (opd c (evE c) ρ2).bind fun (z, ρ3) => (der ρ3 y).bind fun e => (der ρ3 z).bind fun g => (cmpD q e g).bind fun r => some (.v (.bool r), ρ3)
  | .and_ a b, ρ => (evE a ρ).bind fun (r, ρ1) => (truR r).bind fun k => match k with
      | true => evE b ρ1
      | false => some (r, ρ1)
  | .or_ a b, ρ => (evE a ρ).bind fun (r, ρ1) => (truR r).bind fun k => match k with
      | true => some (r, ρ1)
      | false => evE b ρ1
  | .not_ a, ρ => (opd a (evE a) ρ).bind fun (x, ρ1) => (derS ρ1 x).bind fun d => (truD d).bind fun k => some (.v (.bool (!k)), ρ1)
  | .ife c a b, ρ => (evT c ρ).bind fun (k, ρ1) => match k with
      | true => evE a ρ1
      | false => evE b ρ1
  | .tup es, ρ => (evF es ρ).bind fun (ds, ρ1) => if okN ds.length = true then some (.v (.tuple ds), ρ1) else none
  | .lst es, ρ => (evF es ρ).bind fun (ds, ρ1) => if okN ds.length = true then some (.l ds, ρ1) else none
  | .idx a b, ρ => (opd a (evE a) ρ).bind fun (x, ρ1) => (opd b (evE b) ρ1).bind fun (y, ρ2) =>
      (derS ρ2 x).bind fun d => (der ρ2 y).bind fun e => (idxD d e).bind fun r => some (.v r, ρ2)
  | .slc a lo hi, ρ => (opd a (evE a) ρ).bind fun (x, ρ1) => (evB lo ρ1).bind fun (l, ρ2) => (evB hi ρ2).bind fun (h, ρ3) =>
      (derS ρ3 x).bind fun d => (slcD d l h).bind fun r => some (r, ρ3)
  | .rev a, ρ => (opd a (evE a) ρ).bind fun (x, ρ1) => (der ρ1 x).bind fun d => (revD d).bind fun r => some (r, ρ1)
  | .call f es, ρ => (evL es ρ).bind fun (as, ρ1) => (Φ f (as.map (·.1))).bind fun (r, outs) =>
      if outs.length = as.length then some (r, wb ρ1 as outs) else none
  | .bi b es, ρ => (evOs es ρ).bind fun (os, ρ1) => match b, os with
      | .len, [o] => (derS ρ1 o).bind fun d => (biD .len [d]).bind fun r => some (r, ρ1)
      | .list, [o] => (derS ρ1 o).bind fun d => (biD .list [d]).bind fun r => some (r, ρ1)
      | b, os => (derAll ρ1 os).bind fun ds => (biD b ds).bind fun r => some (r, ρ1)
  | .isi a ts, ρ => (opd a (evE a) ρ).bind fun (x, ρ1) => (der ρ1 x).bind fun d => some (.v (.bool (ts.any (isiD d))), ρ1)
  | .mt m o es, ρ => (opd o (evE o) ρ).bind fun (x, ρ1) => (der ρ1 x).bind fun d0 => if isLst d0 = true then (evOs es ρ1).bind fun (os, ρ2) =>
      (der ρ2 x).bind fun d => (derAll ρ2 os).bind fun ds => (mtD m d ds).bind fun r => some (r, ρ2) else none
  | .pop i, ρ => (getS ρ i).bind fun r => match r with
      | .l xs => (xs.getLast?).bind fun y => some (.v y, setS ρ i (some (.l xs.dropLast)))
      | _ => none
  | .lrg t it, ρ => (evI it ρ).bind fun (ds, ρ1) => if okN ds.length = true then some (if t then .v (.tuple ds) else .l ds, ρ1) else none
  | .comp elt tg it ifs vs, ρ => (evI it ρ).bind fun (ds, ρ1) => if okN ds.length = true then
      (compL (fun d ρ => (bindT tg d ρ).bind fun ρa => (evT ifs ρa).bind fun (k, ρb) => match k with
        | true => (evE elt ρb).bind fun (r, ρc) => (frzO r).bind fun x => some (some x, ρc)
        | false => some (none, ρb)) vs ds (wipeE ρ1 vs)).bind fun (xs, ρ2) => some (.l xs, back ρ1 ρ2 vs) else none
  | _, _ => none
/-- a test -/
def evT : E → Env → Option (Bool × Env)
  | .tt a, ρ => (opd a (evE a) ρ).bind fun (x, ρ1) => (derS ρ1 x).bind fun d => (truD d).bind fun k => some (k, ρ1)
  | .tcmp op a b, ρ => (opd a (evE a) ρ).bind fun (x, ρ1) => (opd b (evE b) ρ1).bind fun (y, ρ2) =>
      (der ρ2 x).bind fun d => (der ρ2 y).bind fun e => (cmpD op d e).bind fun r => some (r, ρ2)
  | .tchain p q a b c, ρ => (opd a (evE a) ρ).bind fun (x, ρ1) => (opd b (evE b) ρ1).bind fun (y, ρ2) =>
      (der ρ2 x).bind fun d => (der ρ2 y).bind fun e => (cmpD p d e).bind fun r => match r with
        | false => some (false, ρ2)
        | true => (opd c (evE c) ρ2).bind fun (z, ρ3) => (der ρ3 y).bind fun e => (der ρ3 z).bind fun g => (cmpD q e g).bind fun r => some (r, ρ3)
  | .tand a b, ρ => (evT a ρ).bind fun (k, ρ1) => match k with
      | true => evT b ρ1
      | false => some (false, ρ1)
  | .tor a b, ρ => (evT a ρ).bind fun (k, ρ1) => match k with
      | true => some (true, ρ1)
      | false => evT b ρ1
  | .tnot a, ρ => (evT a ρ).bind fun (k, ρ1) => some (!k, ρ1)
  | .tyes, ρ => some (true, ρ)
  | _, _ => none
/-- values one behind another, given up -/
def evF : E → Env → Option (List D × Env)
  | .nil, ρ => some ([], ρ)
  | .cons a b, ρ => (evE a ρ).bind fun (r, ρ1) => (frzO r).bind fun d => (evF b ρ1).bind fun (ds, ρ2) => some (d :: ds, ρ2)
  | _, _ => none
/-- operands one behind another -/
def evOs : E → Env → Option (List Op × Env)
  | .nil, ρ => some ([], ρ)
  | .cons a b, ρ => (opd a (evE a) ρ).bind fun (x, ρ1) => (evOs b ρ1).bind fun (os, ρ2) => some (x :: os, ρ2)
  | _, _ => none
/-- a call's arguments: own lists at plain names are handed over -/
def evL : E → Env → Option (List (R × Option Nat) × Env)
  | .nil, ρ => some ([], ρ)
  | .cons a b, ρ => match a with
      | .var i => (getS ρ i).bind fun _ => (evL b ρ).bind fun (as, ρ1) => (getS ρ1 i).bind fun r => if r.own = true then some ((r, some i) :: as, setS ρ1 i none) else some ((r, none) :: as, ρ1)
      | a => (evE a ρ).bind fun (r, ρ1) => (evL b ρ1).bind fun (as, ρ2) => some ((r, none) :: as, ρ2)
  | _, _ => none
/-- a slice's bound -/
def evB : E → Env → Option (Option Int × Env)
  | .nob, ρ => some (none, ρ)
  | .it a, ρ => (opd a (evE a) ρ).bind fun (x, ρ1) => (der ρ1 x).bind fun d => match d with
      | .int i => some (some i, ρ1)
      | _ => none
  | _, _ => none
/-- what a loop walks -/
def evI : E → Env → Option (List D × Env)
  | .it a, ρ => (evE a ρ).bind fun (r, ρ1) => (frzO r).bind fun d => (seqD d).bind fun ds => some (ds, ρ1)
  | .rng1 a, ρ => (opd a (evE a) ρ).bind fun (x, ρ1) => (der ρ1 x).bind fun d => match d with
      | .int j => if in62 j = true then some (rngD 0 j, ρ1) else none
      | _ => none
  | .rng2 a b, ρ => (opd a (evE a) ρ).bind fun (x, ρ1) => (opd b (evE b) ρ1).bind fun (y, ρ2) =>
      (der ρ2 x).bind fun d => (der ρ2 y).bind fun e => match d, e with
        | .int i, .int j => if in62 i = true ∧ in62 j = true then some (rngD i j, ρ2) else none
        | _, _ => none
  | .rng3 a b c, ρ => (opd a (evE a) ρ).bind fun (x, ρ1) => (opd b (evE b) ρ1).bind fun (y, ρ2) => (opd c (evE c) ρ2).bind fun (z, ρ3) =>
      (der ρ3 x).bind fun d => (der ρ3 y).bind fun e => (der ρ3 z).bind fun g => match d, e, g with
        | .int i, .int j, .int k => if in62 i = true ∧ in62 j = true ∧ k = -1 then some (rngC i (-1) (i - j).toNat, ρ3) else none
        | _, _, _ => none
  | .enum a, ρ => (evE a ρ).bind fun (r, ρ1) => (frzO r).bind fun d => match d with
      | .list xs => some (enumD xs, ρ1)
      | _ => none
  | .zip a b, ρ => (evE a ρ).bind fun (r, ρ1) => (frzO r).bind fun d => (evE b ρ1).bind fun (q, ρ2) => (frzO q).bind fun e => match d, e with
      | .list xs, .list ys => some (zipD xs ys, ρ2)
      | .tuple xs, .tuple ys => some (zipD xs ys, ρ2)
      | _, _ => none
  | _, _ => none
end
def augI : Operator → Int → Int → Option Int
  | .Add, a, b => some (a + b)
  | .Sub, a, b => some (a - b)
  | _, _, _ => none
def ex : S → Env → Option (Fl × Env)
  | .skip, ρ => some (.next, ρ)
  | .seq s t, ρ => (ex s ρ).bind fun (f, ρ1) => match f with
      | .next => ex t ρ1
      | f => some (f, ρ1)
  | .asg i e, ρ => (evE Φ e ρ).bind fun (r, ρ1) => some (.next, setS ρ1 i (some r))
  | .asgF i e, ρ => (evE Φ e ρ).bind fun (r, ρ1) => (frzO r).bind fun d => some (.next, setS ρ1 i (some (.v d)))
  | .asgT tg e, ρ => (evE Φ e ρ).bind fun (r, ρ1) => (frzO r).bind fun d => (bindT tg d ρ1).bind fun ρ2 => some (.next, ρ2)
  | .par i j a b, ρ => (evE Φ a ρ).bind fun (r, ρ1) => (evE Φ b ρ1).bind fun (q, ρ2) => if i < ρ2.length ∧ j < ρ2.length then some (.next, setS (setS ρ2 i (some r)) j (some q)) else none
  | .aug i op e, ρ => (getS ρ i).bind fun r => match r with
      | .v (.int a) => (opd e (evE Φ e) ρ).bind fun (y, ρ1) => (der ρ1 y).bind fun d => match d with
        | .int b => (augI op a b).bind fun z => some (.next, setS ρ1 i (some (.v (.int z))))
        | _ => none
      | _ => none
  | .setx i ix e, ρ => (evE Φ e ρ).bind fun (q, ρ1) => (frzO q).bind fun d => (getS ρ1 i).bind fun _ => (opd ix (evE Φ ix) ρ1).bind fun (y, ρ2) =>
      (der ρ2 y).bind fun k => (getS ρ2 i).bind fun r => match r, k with
        | .l xs, .int k => (ixN xs.length k).bind fun j => some (.next, setS ρ2 i (some (.l (xs.set j d))))
        | _, _ => none
  | .app i e, ρ => (getS ρ i).bind fun r0 => if r0.own = true then (evE Φ e ρ).bind fun (q, ρ1) => (frzO q).bind fun d => (getS ρ1 i).bind fun r => match r with
      | .l xs => if okN (xs.length + 1) = true then some (.next, setS ρ1 i (some (.l (xs ++ [d])))) else none
      | _ => none
    else none
  | .ext i e, ρ => (getS ρ i).bind fun r0 => if r0.own = true then (opd e (evE Φ e) ρ).bind fun (x, ρ1) => (der ρ1 x).bind fun d => (getS ρ1 i).bind fun r => match r, d with
      | .l xs, .list ys => if okN (xs.length + ys.length) = true then some (.next, setS ρ1 i (some (.l (xs ++ ys)))) else none
      | _, _ => none
    else none
  | .ret e, ρ => (evE Φ e ρ).bind fun (r, ρ1) => some (.ret r, ρ1)
  | .retN, ρ => some (.ret (.v .none), ρ)
  | .if_ c s t, ρ => (evT Φ c ρ).bind fun (k, ρ1) => match k with
      | true => ex s ρ1
      | false => ex t ρ1
  | .for_ tg it b, ρ => (evI Φ it ρ).bind fun (ds, ρ1) => forL (fun d ρ => (bindT tg d ρ).bind fun ρ2 => ex b ρ2) ds ρ1
  | .while_ c b, ρ => whileN (evT Φ c) (ex b) WF ρ
  | .brk, ρ => some (.brk, ρ)
  | .cont, ρ => some (.cont, ρ)
  | .pass, ρ => some (.next, ρ)
  | .drop e, ρ => (evE Φ e ρ).bind fun (_, ρ1) => some (.next, ρ1)
  | .never, _ => none
end
/-- the slots that a statement stores -/
def Tg.sl : Tg → List Nat
  | .nm i => [i]
  | .nil => []
  | .cons a b => a.sl ++ b.sl
  | .tp a => a.sl
def S.st : S → List Nat
  | .seq s t => s.st ++ t.st
  | .asg i _ => [i]
  | .asgF i _ => [i]
  | .asgT tg _ => tg.sl
  | .par i j _ _ => [i, j]
  | .aug i _ _ => [i]
  | .if_ _ s t => s.st ++ t.st
  | .for_ tg _ b => tg.sl ++ b.st
  | .while_ _ b => b.st
  | _ => []
structure Fn where
  np : Nat
  ns : Nat
  body : S
  fz : List Nat
def Fn.io (f : Fn) (j : Nat) : Bool := !(f.body.st.contains j) && !(f.fz.contains j)
def entryL (f : Fn) : Nat → List R → Env
  | _, [] => []
  | j, r :: rs => some (if f.io j = true then r else frzR r) :: entryL f (j + 1) rs
def outsL (f : Fn) (ρ : Env) : Nat → List R → Option (List R)
  | _, [] => some []
  | j, r :: rs => (if f.io j = true then getS ρ j else some (frzR r)).bind fun q => (outsL f ρ (j + 1) rs).bind fun qs => some (q :: qs)
def flR : Fl → Option R
  | .ret r => some r
  | .next => some (.v .none)
  | _ => none
def runF (Φ : Str → List R → Option (R × List R)) (f : Fn) (rs : List R) : Option (R × List R) :=
  if rs.length = f.np then
    (ex Φ f.body (entryL f 0 rs ++ List.replicate (f.ns - f.np) none)).bind fun (fl, ρ) => (flR fl).bind fun r => (outsL f ρ 0 rs).bind fun outs => some (r, outs)
  else none
/-- the program, to a depth -/
def Ph (prog : Str → Option Fn) : Nat → Str → List R → Option (R × List R)
  | 0, _, _ => none
  | k + 1, f, rs => (prog f).bind fun fn => runF (Ph prog k) fn rs
end Pv

namespace Pv
open PySem PySem.Spec L2
/-! ## the look: does the text say what the small language says? -/
structure Ctx where
  N : List Str
  sc : Scope
  fnb : Str → Bool
structure Tab where
  fns : List (Str × Nat)
  cs : List (Str × Int)
  fr : List Str
def sEq (a b : Str) : Bool := decide (a = b)
def dbgB (x : Str) : Bool := !(x == ("__debug__" : Str)) && !(x == ("__classdict__" : Str))
def kindIs (sc : Scope) (x : Str) (k : NameKind) : Bool := decide (sc.names.lookup x = some k)
def visB (sc : Scope) (x : Str) : Bool := kindIs sc x .local || kindIs sc x .cell || kindIs sc x .free
def varB (c : Ctx) (i : Nat) (x : Str) : Bool := decide (c.N[i]? = some x) && visB c.sc x && dbgB x
def stoB (c : Ctx) (i : Nat) (x : Str) : Bool := decide (c.N[i]? = some x) && (kindIs c.sc x .local || (kindIs c.sc x .cell && c.fnb x))
def gloB (c : Ctx) (x : Str) : Bool := kindIs c.sc x .globalImplicit && dbgB x
def bltB (t : Tab) (c : Ctx) (x : Str) : Bool := gloB c x && t.fr.any (sEq x)
def isStar : Expr → Bool
  | .Starred .. => true
  | _ => false
def noStar (es : List Expr) : Bool := es.all fun e => !isStar e
def notSuper : Expr → Bool
  | .Call (.Name _ _) [] [] _ => false
  | _ => true
def plainTest : Expr → Bool
  | .UnaryOp .. => false
  | .BoolOp .. => false
  | .IfExp .. => false
  | .Compare .. => false
  | _ => true
def plainIx : Expr → Bool
  | .Name .. => true
  | .BinOp .. => true
  | .Constant (.int _) _ _ => true
  | .Subscript .. => true
  | .Call .. => true
  | .UnaryOp .. => true
  | _ => false
def noSet : Expr → Bool
  | .Set .. => false
  | _ => true
def Bi.nm : Bi → Str
  | .len => "len"
  | .tuple => "tuple"
  | .list => "list"
  | .all => "all"
  | .any => "any"
  | .int => "int"
  | .abs => "abs"
  | .min2 => "min"
  | .max2 => "max"
  | .sum => "sum"
  | .min => "min"
  | .max => "max"
  | .sorted => "sorted"
def Bi.ar : Bi → Nat
  | .min2 => 2
  | .max2 => 2
  | _ => 1
def Ty.nm : Ty → Str
  | .int => "int"
  | .bool => "bool"
  | .str => "str"
  | .tuple => "tuple"
  | .list => "list"
def Mt.nm : Mt → Str
  | .index => "index"
  | .count => "count"
def chkTy (t : Tab) (c : Ctx) (y : Ty) : Expr → Bool
  | .Name x _ => sEq x y.nm && bltB t c x
  | _ => false
def chkTys (t : Tab) (c : Ctx) : List Ty → List Expr → Bool
  | [], [] => true
  | y :: ys, e :: es => chkTy t c y e && chkTys t c ys es
  | _, _ => false
def isiB (t : Tab) (c : Ctx) (ts : List Ty) : Expr → Bool
  | .Tuple es _ _ => chkTys t c ts es && decide (es.length ≤ 10)
  | f => match ts with
    | [y] => chkTy t c y f
    | _ => false
def blkCtx (c : Ctx) (scope : Scope) : Ctx := ⟨c.N, relS scope c.sc, fun x => scope.names.lookup x == some .cell⟩
def ownOf (N : List Str) (vs : List Nat) : List (Str × Nat) := vs.filterMap fun v => N[v]?.map fun x => (x, v)
mutual
def chkTg (c : Ctx) : Tg → Expr → Bool
  | .nm i, .Name x _ => stoB c i x
  | .tp a, .Tuple es _ _ => chkTgs c a es && noStar es
  | _, _ => false
def chkTgs (c : Ctx) : Tg → List Expr → Bool
  | .nil, [] => true
  | .cons a b, e :: es => chkTg c a e && chkTgs c b es
  | _, _ => false
end
def tgTup : Expr → Bool
  | .Tuple .. => true
  | _ => false
def isYes : E → Bool
  | .tyes => true
  | _ => false
section
variable (t : Tab)
mutual
def chkE : E → Ctx → Expr → Bool
  | .var i, c, .Name x _ => varB c i x
  | .mv i, c, .Name x _ => varB c i x
  | .num z, _, .Constant (.int y) _ _ => decide (z = y)
  | .bl b, _, .Constant (.bool y) _ _ => b == y
  | .non, _, .Constant .none _ _ => true
  | .str x, _, .Constant (.str y) _ _ => sEq x y
  | .cst x z, c, .Name y _ => sEq x y && gloB c y && t.cs.any fun p => sEq p.1 x && decide (p.2 = z)
  | .bin op a b, c, .BinOp l o r _ => decide (op = o) && chkE a c l && chkE b c r
  | .neg a, c, .UnaryOp .USub l _ => chkE a c l
  | .cmp op a b, c, .Compare l [o] [r] _ => decide (op = o) && chkE a c l && chkE b c r && noSet r
  | .chain p q a b d, c, .Compare l [p', q'] [m, r] _ => decide (p = p') && decide (q = q') && chkE a c l && chkE b c m && chkE d c r && noSet m && noSet r
  | .and_ a b, c, .BoolOp .And (x :: y :: []) _ => chkE a c x && chkE b c y
  | .and_ a b, c, .BoolOp .And (x :: y :: z :: r) pos => chkE a c x && chkE b c (.BoolOp .And (y :: z :: r) pos)
  | .or_ a b, c, .BoolOp .Or (x :: y :: []) _ => chkE a c x && chkE b c y
  | .or_ a b, c, .BoolOp .Or (x :: y :: z :: r) pos => chkE a c x && chkE b c (.BoolOp .Or (y :: z :: r) pos)
  | .not_ a, c, .UnaryOp .Not l _ => chkE a c l
  | .ife d a b, c, .IfExp x l r _ => chkT d c x && chkE a c l && chkE b c r
  | .tup es, c, .Tuple l _ _ => chkO es c l
  | .lst es, c, .List l _ => chkO es c l
  | .idx a b, c, .Subscript l r _ => chkE a c l && chkE b c r && plainIx r
  | .slc a lo hi, c, .Subscript l (.Slice u v none _) _ => chkE a c l && chkB lo c u && chkB hi c v
  | .rev a, c, .Subscript l (.Slice none none (some (.UnaryOp .USub (.Constant (.int y) _ _) _)) _) _ => chkE a c l && decide (y = 1)
  | .call f es, c, .Call (.Name x _) args [] _ => sEq x f && gloB c x && (t.fns.any fun p => sEq p.1 x && decide (p.2 = args.length)) && chkO es c args && !args.isEmpty && noStar args
  | .bi b es, c, .Call (.Name x _) args [] _ => sEq x b.nm && bltB t c x && chkO es c args && decide (args.length = b.ar) && noStar args
  | .isi a ts, c, .Call (.Name x _) [e, f] [] _ => sEq x "isinstance" && bltB t c x && chkE a c e && !isStar e && isiB t c ts f
  | .mt m o es, c, .Call (.Attribute l x apos) [y] [] cpos => sEq x m.nm && chkE o c l && notSuper l && chkO es c [y] && !isStar y && (apos.endLine == cpos.line)
  | .pop i, c, .Call (.Attribute (.Name y _) x apos) [] [] cpos => sEq x "pop" && varB c i y && (apos.endLine == cpos.line)
  | .lrg true it, c, .Call (.Name x _) [e] [] _ => sEq x "tuple" && bltB t c x && chkR it c e
  | .lrg false it, c, .Call (.Name x _) [e] [] _ => sEq x "list" && bltB t c x && chkR it c e
  | .comp elt tg it ifs vs, c, .ListComp e [⟨g, iter, fs, z⟩] scope _ => decide (z = 0) && chkI it c g iter && noSet iter && blkC c.N c.sc scope (ownOf c.N vs) && decide ((ownOf c.N vs).map (·.2) = vs) && (tg.sl.all fun i => vs.contains i) && decide vs.Nodup &&
      chkTg (blkCtx c scope) tg g && (match fs with
      | [] => isYes ifs
      | [f] => chkT ifs (blkCtx c scope) f
      | _ => false) && chkE elt (blkCtx c scope) e
  | _, _, _ => false
def chkT : E → Ctx → Expr → Bool
  | .tt a, c, e => chkE a c e && plainTest e
  | .tcmp op a b, c, .Compare l [o] [r] _ => decide (op = o) && chkE a c l && chkE b c r && noSet r
  | .tchain p q a b d, c, .Compare l [p', q'] [m, r] _ => decide (p = p') && decide (q = q') && chkE a c l && chkE b c m && chkE d c r && noSet m && noSet r
  | .tand a b, c, .BoolOp .And (x :: y :: []) _ => chkT a c x && chkT b c y
  | .tand a b, c, .BoolOp .And (x :: y :: z :: r) pos => chkT a c x && chkT b c (.BoolOp .And (y :: z :: r) pos)
  | .tor a b, c, .BoolOp .Or (x :: y :: []) _ => chkT a c x && chkT b c y
  | .tor a b, c, .BoolOp .Or (x :: y :: z :: r) pos => chkT a c x && chkT b c (.BoolOp .Or (y :: z :: r) pos)
  | .tnot a, c, .UnaryOp .Not l _ => chkT a c l
  | _, _, _ => false
def chkO : E → Ctx → List Expr → Bool
  | .nil, _, [] => true
  | .cons a b, c, e :: es => chkE a c e && !isStar e && chkO b c es
  | _, _, _ => false
def chkB : E → Ctx → Option Expr → Bool
  | .nob, _, none => true
  | .it a, c, some e => chkE a c e
  | _, _, _ => false
def chkR : E → Ctx → Expr → Bool
  | .rng1 a, c, .Call (.Name x _) [e] [] _ => sEq x "range" && bltB t c x && chkE a c e && !isStar e
  | .rng2 a b, c, .Call (.Name x _) [e, f] [] _ => sEq x "range" && bltB t c x && chkE a c e && chkE b c f && !isStar e && !isStar f
  | _, _, _ => false
def chkI : E → Ctx → Expr → Expr → Bool
  | .it a, c, _, e => chkE a c e
  | .rng1 a, c, _, .Call (.Name x _) [e] [] _ => sEq x "range" && bltB t c x && chkE a c e && !isStar e
  | .rng2 a b, c, _, .Call (.Name x _) [e, f] [] _ => sEq x "range" && bltB t c x && chkE a c e && chkE b c f && !isStar e && !isStar f
  | .rng3 a b d, c, _, .Call (.Name x _) [e, f, g] [] _ => sEq x "range" && bltB t c x && chkE a c e && chkE b c f && chkE d c g && !isStar e && !isStar f && !isStar g
  | .enum a, c, tg, .Call (.Name x _) [e] [] _ => sEq x "enumerate" && bltB t c x && chkE a c e && !isStar e && tgTup tg
  | .zip a b, c, tg, .Call (.Name x _) [e, f] [] _ => sEq x "zip" && bltB t c x && chkE a c e && chkE b c f && !isStar e && !isStar f && tgTup tg
  | _, _, _, _ => false
end
def isComp : Expr → Bool
  | .ListComp .. => true
  | .SetComp .. => true
  | .DictComp .. => true
  | _ => false
def asgB (c : Ctx) (x : Str) (py : Pos) : Expr → Bool
  | .ListComp _ _ scope pos => ((py.line == pos.line) && kindIs c.sc x .local && !(scope.names.any fun (n, k) => n == x && (k == .local || k == .cell))) || !(kindIs c.sc x .local)
  | v => !isComp v
def plainV : Expr → Bool
  | .Tuple .. => false
  | .SetComp .. => false
  | .DictComp .. => false
  | _ => true
/-- are the stores of x, y = v, w swapped? -/
def parA (c : Ctx) (x y : Str) (px py : Pos) (v w : Expr) : Bool := kindIs c.sc x .local && kindIs c.sc y .local && px.line == py.line && !sEq x y && !(foldedForSure 8 v && foldedForSure 8 w) && !(constantsAlone 8 v && constantsAlone 8 w)
def parB (c : Ctx) (x y : Str) (px py : Pos) (v w : Expr) : Bool := !(kindIs c.sc x .local) || !(kindIs c.sc y .local) || !(px.line == py.line) || (foldedForSure 8 v && foldedForSure 8 w)
def augOp : Operator → Bool
  | .Add => true
  | .Sub => true
  | _ => false
mutual
def chkS : S → Ctx → Stmt → Bool
  | .asg i e, c, .Assign [.Name x py] v _ => stoB c i x && chkE t e c v && asgB c x py v
  | .asgF i e, c, .Assign [.Name x py] v _ => stoB c i x && chkE t e c v && asgB c x py v
  | .asgT tg e, c, .Assign [.Tuple es k pos] v _ => chkTg c tg (.Tuple es k pos) && chkE t e c v && plainV v
  | .setx i ix e, c, .Assign [.Subscript (.Name x _) r _] v _ => varB c i x && chkE t ix c r && plainIx r && chkE t e c v && !isComp v
  | .aug i op e, c, .AugAssign (.Name x _) op' v _ => augOp op && decide (op = op') && varB c i x && stoB c i x && chkE t e c v
  | .app i e, c, .Expr (.Call (.Attribute (.Name x _) m apos) [v] [] cpos) _ => sEq m "append" && varB c i x && chkE t e c v && !isStar v && (apos.endLine == cpos.line)
  | .ext i e, c, .Expr (.Call (.Attribute (.Name x _) m apos) [v] [] cpos) _ => sEq m "extend" && varB c i x && chkE t e c v && !isStar v && (apos.endLine == cpos.line)
  | .ret e, c, .Return (some v) _ => chkE t e c v
  | .retN, _, .Return none _ => true
  | .if_ d s u, c, .If x a b _ => chkT t d c x && chkSs s c a && chkSs u c b
  | .for_ tg it b, c, .For g iter body [] _ => chkI t it c g iter && noSet iter && chkTg c tg g && chkSs b c body
  | .while_ d b, c, .While x body [] _ => chkT t d c x && chkSs b c body
  | .brk, _, .Break _ => true
  | .cont, _, .Continue _ => true
  | .pass, _, .Pass _ => true
  | .drop e, c, .Expr v _ => chkE t e c v && !isComp v
  | .par i j a b, c, .Assign [.Tuple [.Name x px, .Name y py] _ _] (.Tuple [v, w] _ _) _ => stoB c i x && stoB c j y && decide (i ≠ j) && chkE t a c v && chkE t b c w && !isStar v && !isStar w && (parA c x y px py v w || parB c x y px py v w)
  | .never, _, _ => true
  | _, _, _ => false
def chkSs : S → Ctx → List Stmt → Bool
  | .skip, _, [] => true
  | .seq s u, c, x :: xs => chkS s c x && chkSs u c xs
  | .never, _, _ => true
  | _, _, _ => false
end
end
end Pv

namespace Pv
open PySem PySem.Spec L2
/-! ## slots -/
theorem getS_eq : ∀ {ρ : Env} {i : Nat} {r : R}, getS ρ i = some r ↔ ρ[i]? = some (some r)
  | [], i, r => by simp [getS]
  | q :: ρ, 0, r => by simp [getS]
  | q :: ρ, i + 1, r => by
    rw [List.getElem?_cons_succ]
    exact getS_eq (ρ := ρ)
theorem setS_eq : ∀ (ρ : Env) (i : Nat) (r : Option R), setS ρ i r = ρ.set i r
  | [], _, _ => rfl
  | q :: ρ, 0, r => rfl
  | q :: ρ, i + 1, r => congrArg (q :: ·) (setS_eq ρ i r)
theorem setS_len (ρ : Env) (i : Nat) (r : Option R) : (setS ρ i r).length = ρ.length := by rw [setS_eq, List.length_set]
theorem getS_setS_self {ρ : Env} {i : Nat} {r : Option R} (h : i < ρ.length) : getS (setS ρ i r) i = r := by
  cases r with
  | some r => exact getS_eq.mpr (by rw [setS_eq, List.getElem?_set_self h])
  | none =>
    cases e : getS (setS ρ i none) i with
    | none => rfl
    | some q =>
      have := getS_eq.mp e
      rw [setS_eq, List.getElem?_set_self h] at this
      cases this
theorem getS_setS_ne {ρ : Env} {i j : Nat} {r : Option R} (h : i ≠ j) : getS (setS ρ i r) j = getS ρ j := by
  cases e : getS ρ j with
  | some q => exact getS_eq.mpr (by rw [setS_eq, List.getElem?_set_ne h]; exact getS_eq.mp e)
  | none =>
    cases e2 : getS (setS ρ i r) j with
    | none => rfl
    | some q =>
      have := getS_eq.mp e2
      rw [setS_eq, List.getElem?_set_ne h] at this
      rw [getS_eq.mpr this] at e
      cases e
theorem getS_lt {ρ : Env} {i : Nat} {r : R} (h : getS ρ i = some r) : i < ρ.length := (List.getElem?_eq_some_iff.mp (getS_eq.mp h)).1
section
variable {K : PySem.W.Frag} {F H : Hp} {ρ : Env} {σ : St} {i j : Nat} {r q : R} {v w : V}
theorem hold_set (hl : ρ.length = σ.length) (h : Hold (setS ρ i (some r)) (σ.set i (some v)) j q w) : (j = i ∧ q = r ∧ w = v) ∨ (j ≠ i ∧ Hold ρ σ j q w) := by
  obtain ⟨h1, h2⟩ := h
  rw [setS_eq] at h1
  by_cases e : i = j
  · subst e
    have l1 : i < ρ.length := by
      have := (List.getElem?_eq_some_iff.mp h1).1
      rw [List.length_set] at this
      exact this
    rw [List.getElem?_set_self l1] at h1
    rw [List.getElem?_set_self (by omega)] at h2
    cases h1
    cases h2
    exact .inl ⟨rfl, rfl, rfl⟩
  · rw [List.getElem?_set_ne e] at h1 h2
    exact .inr ⟨fun z => e z.symm, h1, h2⟩
theorem hold_setR (h : Hold (setS ρ i (some r)) σ j q w) : (j = i ∧ q = r ∧ σ[i]? = some (some w)) ∨ (j ≠ i ∧ Hold ρ σ j q w) := by
  obtain ⟨h1, h2⟩ := h
  rw [setS_eq] at h1
  by_cases e : i = j
  · subst e
    have l1 : i < ρ.length := by
      have := (List.getElem?_eq_some_iff.mp h1).1
      rw [List.length_set] at this
      exact this
    rw [List.getElem?_set_self l1] at h1
    cases h1
    exact .inl ⟨rfl, rfl, h2⟩
  · rw [List.getElem?_set_ne e] at h1
    exact .inr ⟨fun z => e z.symm, h1, h2⟩
theorem hold_setN (h : Hold (setS ρ i none) σ j q w) : j ≠ i ∧ Hold ρ σ j q w := by
  obtain ⟨h1, h2⟩ := h
  rw [setS_eq] at h1
  by_cases e : i = j
  · subst e
    have l1 : i < ρ.length := by
      have := (List.getElem?_eq_some_iff.mp h1).1
      rw [List.length_set] at this
      exact this
    rw [List.getElem?_set_self l1] at h1
    cases h1
  · rw [List.getElem?_set_ne e] at h1
    exact ⟨fun z => e z.symm, h1, h2⟩
/-- a slot forgotten -/
theorem Good.drop (g : Good K F H ρ σ) (i : Nat) : Good K F H (setS ρ i none) σ :=
  g.map (by rw [setS_len]; exact g.len) (fun j r h => by
    rw [setS_eq] at h
    by_cases e : i = j
    · subst e
      have l1 : i < ρ.length := by
        have := (List.getElem?_eq_some_iff.mp h).1
        rw [List.length_set] at this
        exact this
      rw [List.getElem?_set_self l1] at h
      cases h
    · rw [List.getElem?_set_ne e] at h
      exact g.has j r h) id (fun j r v h => (hold_setN h).2) (fun _ _ _ _ _ _ _ _ _ e => e)
theorem own_drop {a : Addr} : Own (setS ρ i none) σ a → Own ρ σ a := Own.map id fun j r v h => (hold_setN h).2
theorem hold_last {τ : Env} {υ : St} (hl : ρ.length = σ.length) (h : Hold (ρ ++ [some r]) (σ ++ [some v]) j q w) : (j = ρ.length ∧ q = r ∧ w = v) ∨ (j < ρ.length ∧ Hold ρ σ j q w) := by
  by_cases e : j < ρ.length
  · exact .inr ⟨e, (hold_left hl e).mp h⟩
  · have z := (hold_right hl (by omega)).mp h
    obtain ⟨h1, h2⟩ := z
    have e0 : j - ρ.length = 0 := by
      have := (List.getElem?_eq_some_iff.mp h1).1
      simp at this
      omega
    rw [e0] at h1 h2
    simp at h1 h2
    exact .inl ⟨by omega, h1.symm, h2.symm⟩
theorem hold_top (hl : ρ.length = σ.length) : Hold (ρ ++ [some r]) (σ ++ [some v]) ρ.length r v :=
  (hold_right hl (Nat.le_refl _)).mpr (by rw [Nat.sub_self]; exact ⟨rfl, rfl⟩)
/-- the last one put into a slot -/
theorem Good.put (g : Good K F H (ρ ++ [some r]) (σ ++ [some v])) (hl : ρ.length = σ.length) (i : Nat) : Good K F H (setS ρ i (some r)) (σ.set i (some v)) := by
  have g0 := g.left hl
  refine g.map (by rw [setS_len, List.length_set]; exact hl) (fun j q h => ?_) (fun j => if j = i then ρ.length else j) (fun j q w h => ?_) (fun a b q q' ad h1 h2 o1 o2 e => ?_)
  · rw [setS_eq] at h
    by_cases e : i = j
    · subst e
      have l1 : i < ρ.length := by
        have := (List.getElem?_eq_some_iff.mp h).1
        rw [List.length_set] at this
        exact this
      exact ⟨v, List.getElem?_set_self (by omega)⟩
    · rw [List.getElem?_set_ne e] at h
      rw [List.getElem?_set_ne e]
      exact g0.has j q h
  · rcases hold_set hl h with ⟨rfl, rfl, rfl⟩ | ⟨ne, h⟩
    · rw [if_pos rfl]
      exact hold_top hl
    · rw [if_neg ne]
      exact hold_app h
  · have la := hold_lt h1
    have lb := hold_lt h2
    rw [setS_len] at la lb
    by_cases ea : a = i <;> by_cases eb : b = i
    · omega
    · rw [if_pos ea, if_neg eb] at e
      omega
    · rw [if_neg ea, if_pos eb] at e
      omega
    · rw [if_neg ea, if_neg eb] at e
      exact e
theorem own_put {a : Addr} (hl : ρ.length = σ.length) : Own (setS ρ i (some r)) (σ.set i (some v)) a → Own (ρ ++ [some r]) (σ ++ [some v]) a := fun ⟨j, q, h, o⟩ => by
  rcases hold_set hl h with ⟨rfl, rfl, rfl⟩ | ⟨ne, h⟩
  · exact ⟨_, _, hold_top hl, o⟩
  · exact ⟨j, q, hold_app h, o⟩
/-- a slot's value taken out -/
theorem Good.move (g : Good K F H ρ σ) (hr : getS ρ i = some r) (hv : σ[i]? = some (some v)) : Good K F H (setS ρ i none ++ [some r]) (σ ++ [some v]) := by
  have hl := g.len
  have hl' : (setS ρ i none).length = σ.length := by rw [setS_len]; exact hl
  have hi := getS_lt hr
  refine g.map (by simp only [List.length_append, hl', List.length_cons, List.length_nil]) (fun j q h => ?_) (fun j => if j = ρ.length then i else j) (fun j q w h => ?_) (fun a b q q' ad h1 h2 o1 o2 e => ?_)
  · by_cases e : j < (setS ρ i none).length
    · rw [List.getElem?_append_left e] at h
      obtain ⟨w, z⟩ := (g.drop i).has j q h
      exact ⟨w, by rw [List.getElem?_append_left (by omega)]; exact z⟩
    · rw [List.getElem?_append_right (by omega)] at h
      have := (List.getElem?_eq_some_iff.mp h).1
      simp at this
      exact ⟨v, by rw [List.getElem?_append_right (by omega), show j - σ.length = 0 by omega]; rfl⟩
  · rcases hold_last (τ := []) (υ := []) hl' h with ⟨e, rfl, rfl⟩ | ⟨lt, h⟩
    · rw [setS_len] at e
      rw [if_pos e]
      exact ⟨getS_eq.mp hr, hv⟩
    · rw [setS_len] at lt
      rw [if_neg (by omega)]
      exact (hold_setN h).2
  · rcases hold_last (τ := []) (υ := []) hl' h1 with ⟨ea, _, _⟩ | ⟨la, k1⟩ <;> rcases hold_last (τ := []) (υ := []) hl' h2 with ⟨eb, _, _⟩ | ⟨lb, k2⟩
    · omega
    · rw [setS_len] at ea lb
      rw [if_pos ea, if_neg (by omega)] at e
      exact absurd e.symm (hold_setN k2).1
    · rw [setS_len] at eb la
      rw [if_pos eb, if_neg (by omega)] at e
      exact absurd e (hold_setN k1).1
    · rw [setS_len] at la lb
      rw [if_neg (by omega), if_neg (by omega)] at e
      exact e
theorem own_move {a : Addr} (hl : ρ.length = σ.length) (hr : getS ρ i = some r) (hv : σ[i]? = some (some v)) : Own (setS ρ i none ++ [some r]) (σ ++ [some v]) a → Own ρ σ a := fun ⟨j, q, h, o⟩ => by
  rcases hold_last (τ := []) (υ := []) (by rw [setS_len]; exact hl) h with ⟨_, rfl, rfl⟩ | ⟨_, h⟩
  · exact ⟨i, _, ⟨getS_eq.mp hr, hv⟩, o⟩
  · exact ⟨j, q, (hold_setN h).2, o⟩
/-- one more, that owns nothing -/
theorem Good.more (g : Good K F H ρ σ) (hr : r.own = false) (h : RepR K F H v r) : Good K F H (ρ ++ [some r]) (σ ++ [some v]) := by
  have hl := g.len
  refine ⟨g.sub, by simp only [List.length_append, hl, List.length_cons, List.length_nil], fun j q e => ?_, fun j q w e => ?_, fun a b q q' ad h1 h2 o1 o2 => ?_⟩
  · by_cases e2 : j < ρ.length
    · rw [List.getElem?_append_left e2] at e
      obtain ⟨w, z⟩ := g.has j q e
      exact ⟨w, by rw [List.getElem?_append_left (by omega)]; exact z⟩
    · rw [List.getElem?_append_right (by omega)] at e
      have := (List.getElem?_eq_some_iff.mp e).1
      simp at this
      exact ⟨v, by rw [List.getElem?_append_right (by omega), show j - σ.length = 0 by omega]; rfl⟩
  · rcases hold_last (τ := []) (υ := []) hl e with ⟨_, rfl, rfl⟩ | ⟨_, e⟩
    · exact h
    · exact g.rep j q w e
  · rcases hold_last (τ := []) (υ := []) hl h1 with ⟨_, rfl, _⟩ | ⟨_, k1⟩
    · rw [hr] at o1
      cases o1
    · rcases hold_last (τ := []) (υ := []) hl h2 with ⟨_, rfl, _⟩ | ⟨_, k2⟩
      · rw [hr] at o2
        cases o2
      · exact g.dis a b q q' ad k1 k2 o1 o2
theorem own_more {a : Addr} (hl : ρ.length = σ.length) (hr : r.own = false) : Own (ρ ++ [some r]) (σ ++ [some v]) a → Own ρ σ a := fun ⟨j, q, h, o⟩ => by
  rcases hold_last (τ := []) (υ := []) hl h with ⟨_, rfl, _⟩ | ⟨_, h⟩
  · rw [hr] at o
    cases o
  · exact ⟨j, q, h, o⟩
theorem own_left {τ : Env} {υ : St} {a : Addr} : Own ρ σ a → Own (ρ ++ τ) (σ ++ υ) a := fun ⟨j, q, h, o⟩ => ⟨j, q, hold_app h, o⟩
/-- objects that nobody of ours changes are added, own ones stay -/
theorem Good.grow {F1 H1 : Hp} (g : Good K F H ρ σ) (s : Step F H (fun _ => False) F1 H1 (fun _ => False)) (hs : Sub F1 H1) : Good K F1 H1 ρ σ :=
  ⟨hs, g.len, g.has, fun i r v h => (g.rep i r v h).frame s fun _ _ _ z => z, g.dis⟩
theorem own_ne (g : Good K F H ρ σ) {a p : Addr} (h : Own ρ σ a) (hp : H p = none) : a ≠ p := by
  obtain ⟨i, r, h, o⟩ := h
  have := g.rep _ _ _ h
  cases r with
  | v _ => cases o
  | s _ => cases o
  | l xs =>
    obtain ⟨b, vs, e, hb, _⟩ := this
    cases e
    exact ne_of_none hb hp
theorem own_nf (g : Good K F H ρ σ) {a : Addr} (h : Own ρ σ a) : F a = none ∧ ∃ vs, H a = some (.lst vs) := by
  obtain ⟨i, r, h, o⟩ := h
  have := g.rep _ _ _ h
  cases r with
  | v _ => cases o
  | s _ => cases o
  | l xs =>
    obtain ⟨b, vs, e, hb, _, hf⟩ := this
    cases e
    exact ⟨hf, vs, hb⟩
/-- a new own list -/
theorem Good.newL (g : Good K F H ρ σ) {p : Addr} (hp : H p = none) {vs : List V} {xs : List D} (h : RpAll F vs xs) : Good K F (upd H p (.lst vs)) (ρ ++ [some (.l xs)]) (σ ++ [some (.ref p)]) := by
  have hl := g.len
  have g1 : Good K F (upd H p (.lst vs)) ρ σ := by
    refine ⟨g.sub.updR (g.sub.none hp), g.len, g.has, fun i r v e => ?_, g.dis⟩
    refine (g.rep i r v e).frame (O := fun _ => False) (O1 := fun _ => False) ⟨fun _ _ z => z, fun a o z _ => by rw [upd_ne (ne_of_none z hp)]; exact z, fun _ z => .inl z, fun _ z => .inl z, fun a z => ?_⟩ fun _ _ _ z => z
    by_cases e : a = p
    · subst e
      exact absurd hp z
    · rw [upd_ne e]
      exact z
  refine ⟨g1.sub, by simp only [List.length_append, hl, List.length_cons, List.length_nil], fun j q e => ?_, fun j q w e => ?_, fun a b q q' ad h1 h2 o1 o2 => ?_⟩
  · by_cases e2 : j < ρ.length
    · rw [List.getElem?_append_left e2] at e
      obtain ⟨w, z⟩ := g.has j q e
      exact ⟨w, by rw [List.getElem?_append_left (by omega)]; exact z⟩
    · rw [List.getElem?_append_right (by omega)] at e
      have := (List.getElem?_eq_some_iff.mp e).1
      simp at this
      exact ⟨.ref p, by rw [List.getElem?_append_right (by omega), show j - σ.length = 0 by omega]; rfl⟩
  · rcases hold_last (τ := []) (υ := []) hl e with ⟨_, rfl, rfl⟩ | ⟨_, e⟩
    · exact ⟨p, vs, rfl, upd_same, h, g.sub.none hp⟩
    · exact g1.rep j q w e
  · rcases hold_last (τ := []) (υ := []) hl h1 with ⟨ea, rfl, e1⟩ | ⟨_, k1⟩ <;> rcases hold_last (τ := []) (υ := []) hl h2 with ⟨eb, rfl, e2⟩ | ⟨_, k2⟩
    · omega
    · cases e1
      exact absurd rfl (own_ne g ⟨_, _, k2, o2⟩ hp)
    · cases e2
      exact absurd rfl (own_ne g ⟨_, _, k1, o1⟩ hp)
    · exact g.dis a b q q' ad k1 k2 o1 o2
theorem own_newL {p a : Addr} {xs : List D} (hl : ρ.length = σ.length) : Own (ρ ++ [some (.l xs)]) (σ ++ [some (.ref p)]) a → Own ρ σ a ∨ a = p := fun ⟨j, q, h, o⟩ => by
  rcases hold_last (τ := []) (υ := []) hl h with ⟨_, rfl, e⟩ | ⟨_, h⟩
  · cases e
    exact .inr rfl
  · exact .inl ⟨j, q, h, o⟩
/-- a new object that nobody changes -/
theorem Good.newF (g : Good K F H ρ σ) {p : Addr} {o : HO} (hp : H p = none) : Good K (upd F p o) (upd H p o) ρ σ :=
  g.grow (Step.fresh hp g.sub) g.sub.upd2
/-- .. that is forgotten -/
theorem Good.junk (g : Good K F H ρ σ) {p : Addr} {o : HO} (hp : H p = none) : Good K F (upd H p o) ρ σ := by
  refine ⟨g.sub.updR (g.sub.none hp), g.len, g.has, fun i r v e => ?_, g.dis⟩
  refine (g.rep i r v e).frame (O := fun _ => False) (O1 := fun _ => False) ⟨fun _ _ z => z, fun a o z _ => by rw [upd_ne (ne_of_none z hp)]; exact z, fun _ z => .inl z, fun _ z => .inl z, fun a z => ?_⟩ fun _ _ _ z => z
  by_cases e : a = p
  · subst e
    exact absurd hp z
  · rw [upd_ne e]
    exact z
theorem Step.junk {O : Addr → Prop} {p : Addr} {o : HO} (hp : H p = none) : Step F H O F (upd H p o) O :=
  ⟨fun _ _ z => z, fun a o z _ => by rw [upd_ne (ne_of_none z hp)]; exact z, fun _ z => .inl z, fun _ z => .inl z, fun a z => by
    by_cases e : a = p
    · subst e
      exact absurd hp z
    · rw [upd_ne e]
      exact z⟩
/-- an own list written -/
theorem Good.write (g : Good K F H ρ σ) {xs ys : List D} {a : Addr} {vs : List V} (hr : getS ρ i = some (.l xs)) (hv : σ[i]? = some (some (.ref a))) (h : RpAll F vs ys) : Good K F (upd H a (.lst vs)) (setS ρ i (some (.l ys))) σ := by
  have hh : Hold ρ σ i (.l xs) (.ref a) := ⟨getS_eq.mp hr, hv⟩
  obtain ⟨b, us, e, hb, _, hf⟩ := g.rep _ _ _ hh
  cases e
  refine ⟨g.sub.updR hf, by rw [setS_len]; exact g.len, fun j q e => ?_, fun j q w e => ?_, fun x y q q' ad h1 h2 o1 o2 => ?_⟩
  · rw [setS_eq] at e
    by_cases z : i = j
    · subst z
      exact ⟨_, hv⟩
    · rw [List.getElem?_set_ne z] at e
      exact g.has j q e
  · rcases hold_setR e with ⟨rfl, rfl, e9⟩ | ⟨ne, e⟩
    · rw [hv] at e9
      cases e9
      exact ⟨a, vs, rfl, upd_same, h, hf⟩
    · have rp := g.rep j q w e
      cases q with
      | v d => exact rp
      | s ns => exact rp
      | l zs =>
        obtain ⟨c, us', e', hc, hz, hf'⟩ := rp
        subst e'
        have : c ≠ a := fun z => by
          subst z
          exact ne (g.dis j i _ _ c e hh rfl rfl)
        exact ⟨c, us', rfl, by rw [upd_ne this]; exact hc, hz, hf'⟩
  · rcases hold_setR h1 with ⟨rfl, rfl, e1⟩ | ⟨n1, k1⟩ <;> rcases hold_setR h2 with ⟨rfl, rfl, e2⟩ | ⟨n2, k2⟩
    · rfl
    · rw [hv] at e1
      cases e1
      exact g.dis _ _ _ _ a hh k2 rfl o2
    · rw [hv] at e2
      cases e2
      exact g.dis _ _ _ _ a k1 hh o1 rfl
    · exact g.dis x y q q' ad k1 k2 o1 o2
theorem own_write {xs ys : List D} {a : Addr} (hr : getS ρ i = some (.l xs)) : Own (setS ρ i (some (.l ys))) σ a → Own ρ σ a := fun ⟨j, q, h, o⟩ => by
  rcases hold_setR h with ⟨rfl, rfl, e⟩ | ⟨_, e⟩
  · exact ⟨_, _, ⟨getS_eq.mp hr, e⟩, rfl⟩
  · exact ⟨j, q, e, o⟩
/-- an own list given up -/
theorem Good.freeze (g : Good K F H ρ σ) {xs : List D} {a : Addr} (hr : getS ρ i = some (.l xs)) (hv : σ[i]? = some (some (.ref a))) :
    ∃ F1, Step F H (Own ρ σ) F1 H (Own (setS ρ i (some (.v (.list xs)))) σ) ∧ Good K F1 H (setS ρ i (some (.v (.list xs)))) σ ∧ Rp F1 (.ref a) (.list xs) ∧ ¬ Own (setS ρ i (some (.v (.list xs)))) σ a := by
  have hh : Hold ρ σ i (.l xs) (.ref a) := ⟨getS_eq.mp hr, hv⟩
  obtain ⟨b, us, e, hb, hz, hf⟩ := g.rep _ _ _ hh
  cases e
  have ow : ∀ c, Own (setS ρ i (some (.v (.list xs)))) σ c → Own ρ σ c ∧ c ≠ a := fun c ⟨j, q, h, o⟩ => by
    rcases hold_setR h with ⟨rfl, rfl, e⟩ | ⟨ne, e⟩
    · cases o
    · exact ⟨⟨j, q, e, o⟩, fun z => by subst z; exact ne (g.dis j i _ _ c e hh o rfl)⟩
  have sb : Sub F (upd F a (.lst us)) := sub_upd hf
  refine ⟨upd F a (.lst us), Step.freeze ⟨i, _, hh, rfl⟩ hb hf fun c z => (ow c z).1, ⟨g.sub.updL hb, by rw [setS_len]; exact g.len, fun j q e => ?_, fun j q w e => ?_, fun x y q q' ad h1 h2 o1 o2 => ?_⟩, .lst upd_same (hz.mono sb), fun z => (ow a z).2 rfl⟩
  · rw [setS_eq] at e
    by_cases z : i = j
    · subst z
      exact ⟨_, hv⟩
    · rw [List.getElem?_set_ne z] at e
      exact g.has j q e
  · rcases hold_setR e with ⟨rfl, rfl, e9⟩ | ⟨ne, e⟩
    · rw [hv] at e9
      cases e9
      exact .lst upd_same (hz.mono sb)
    · have rp := g.rep j q w e
      cases q with
      | v d => exact Rp.mono sb rp
      | s ns =>
        obtain ⟨c, e', h⟩ := rp
        exact ⟨c, e', SqL.sub sb h⟩
      | l zs =>
        obtain ⟨c, us', e', hc, hz', hf'⟩ := rp
        subst e'
        have : c ≠ a := fun z => by
          subst z
          exact ne (g.dis j i _ _ c e hh rfl rfl)
        exact ⟨c, us', rfl, hc, hz'.mono sb, by rw [upd_ne this]; exact hf'⟩
  · rcases hold_setR h1 with ⟨rfl, rfl, e1⟩ | ⟨n1, k1⟩
    · cases o1
    · rcases hold_setR h2 with ⟨rfl, rfl, e2⟩ | ⟨n2, k2⟩
      · cases o2
      · exact g.dis x y q q' ad k1 k2 o1 o2
end
/-- the last one given up -/
theorem Good.freezeTop {K : PySem.W.Frag} {F H : Hp} {ρ : Env} {σ : St} {r : R} {v : V} {d : D} (g : Good K F H (ρ ++ [some r]) (σ ++ [some v])) (hl : ρ.length = σ.length) (hd : frzO r = some d) :
    ∃ F1, Step F H (Own (ρ ++ [some r]) (σ ++ [some v])) F1 H (Own ρ σ) ∧ Good K F1 H ρ σ ∧ Rp F1 v d := by
  have top := hold_top (r := r) (v := v) hl
  cases r with
  | v d' =>
    cases hd
    exact ⟨F, Step.refl.weak fun a z => own_left z, g.left hl, g.rep _ _ _ top⟩
  | s _ => cases hd
  | l xs =>
    cases hd
    obtain ⟨a, us, e, _⟩ := g.rep _ _ _ top
    subst e
    obtain ⟨F1, s, g1, rp, _⟩ := g.freeze (i := ρ.length) (getS_eq.mpr top.1) top.2
    have e : setS (ρ ++ [some (R.l xs)]) ρ.length (some (.v (.list xs))) = ρ ++ [some (.v (.list xs))] := by
      rw [setS_eq, List.set_append_right _ _ (Nat.le_refl _), Nat.sub_self]
      rfl
    rw [e] at s g1
    exact ⟨F1, s.weak fun a z => own_left z, g1.left hl, rp⟩
end Pv

namespace Pv
open PySem PySem.Spec L2
/-! ## readings by what the small language does -/
abbrev Phi := Str → List R → Option (R × List R)
section
variable (Φ : Phi) (K : PySem.W.Frag)
/-- a def's promise -/
def spF (f : Str) : Sp := fun vs H Q _ => ∃ F rs r outs, Good K F H (rs.map some) (vs.map some) ∧ Φ f rs = some (r, outs) ∧
  ∀ v F1 H1, Step F H (Own (rs.map some) (vs.map some)) F1 H1 (Own (outs.map some ++ [some r]) (vs.map some ++ [some v])) →
    Good K F1 H1 (outs.map some ++ [some r]) (vs.map some ++ [some v]) → Q v H1
def PostE (F H : Hp) (ρ : Env) (σ : St) (r : R) (ρ1 : Env) (Q : VK) : Prop := ∀ v F1 H1, Step F H (Own ρ σ) F1 H1 (Own (ρ1 ++ [some r]) (σ ++ [some v])) → Good K F1 H1 (ρ1 ++ [some r]) (σ ++ [some v]) → Q v H1
def tE (i : E) : TE := fun σ H Q => ∃ F ρ r ρ1, Good K F H ρ σ ∧ evE Φ i ρ = some (r, ρ1) ∧ PostE K F H ρ σ r ρ1 Q
/-- an operand's place -/
def RO (F : Hp) (σ : St) (v : V) : Op → Prop
  | .sl i => σ[i]? = some (some v)
  | .d d => Rp F v d
def tO (i : E) : TE := fun σ H Q => ∃ F ρ o ρ1, Good K F H ρ σ ∧ opd i (evE Φ i) ρ = some (o, ρ1) ∧ ∀ v F1 H1, Step F H (Own ρ σ) F1 H1 (Own ρ1 σ) → Good K F1 H1 ρ1 σ → RO F1 σ v o → Q v H1
def tT (i : E) : TT := fun σ H Q => ∃ F ρ b ρ1, Good K F H ρ σ ∧ evT Φ i ρ = some (b, ρ1) ∧ ∀ F1 H1, Step F H (Own ρ σ) F1 H1 (Own ρ1 σ) → Good K F1 H1 ρ1 σ → Q b H1
def ROs (F : Hp) (σ : St) : List V → List Op → Prop
  | [], [] => True
  | v :: vs, o :: os => RO F σ v o ∧ ROs F σ vs os
  | _, _ => False
def tOs (i : E) : TA := fun σ H Q => ∃ F ρ os ρ1, Good K F H ρ σ ∧ evOs Φ i ρ = some (os, ρ1) ∧ ∀ vs F1 H1, Step F H (Own ρ σ) F1 H1 (Own ρ1 σ) → Good K F1 H1 ρ1 σ → ROs F1 σ vs os → Q vs H1
def tF (i : E) : TA := fun σ H Q => ∃ F ρ ds ρ1, Good K F H ρ σ ∧ evF Φ i ρ = some (ds, ρ1) ∧ ∀ vs F1 H1, Step F H (Own ρ σ) F1 H1 (Own ρ1 σ) → Good K F1 H1 ρ1 σ → RpAll F1 vs ds → Q vs H1
def Tags (σ : St) : List (R × Option Nat) → List V → Prop
  | [], [] => True
  | (_, o) :: as, v :: vs => (∀ i, o = some i → σ[i]? = some (some v)) ∧ Tags σ as vs
  | _, _ => False
abbrev argE (as : List (R × Option Nat)) : Env := as.map fun p => some p.1
def tL (i : E) : TA := fun σ H Q => ∃ F ρ as ρ1, Good K F H ρ σ ∧ evL Φ i ρ = some (as, ρ1) ∧ ∀ vs F1 H1, Step F H (Own ρ σ) F1 H1 (Own (ρ1 ++ argE as) (σ ++ vs.map some)) →
  Good K F1 H1 (ρ1 ++ argE as) (σ ++ vs.map some) → ρ1.length = σ.length → Tags σ as vs → Q vs H1
def tBd (i : E) : TO := fun σ H Q => ∃ F ρ o ρ1, Good K F H ρ σ ∧ evB Φ i ρ = some (o, ρ1) ∧ ∀ F1 H1, Step F H (Own ρ σ) F1 H1 (Own ρ1 σ) → Good K F1 H1 ρ1 σ → Q o H1
/-- what is walked gives the items ds -/
structure Wk (J : It) (F0 : Hp) (ds : List D) : Prop where
  go : ∀ (i : Nat) (F H : Hp), i < ds.length → Sub F0 F → Sub F H → J.go i H
  stop : ∀ (F H : Hp), Sub F0 F → Sub F H → J.stop ds.length H
  yld : ∀ (i : Nat) (F H : Hp) (x : V) (H1 : Hp) (d : D), ds[i]? = some d → Sub F0 F → Sub F H → J.yld i H x H1 → ∃ F1, Step F H (fun _ => False) F1 H1 (fun _ => False) ∧ Sub F1 H1 ∧ Rp F1 x d
def tIt (i : E) : TI := fun σ H R => ∃ F ρ ds ρ1, Good K F H ρ σ ∧ evI Φ i ρ = some (ds, ρ1) ∧ ∀ J F1 H1, Step F H (Own ρ σ) F1 H1 (Own ρ1 σ) → Good K F1 H1 ρ1 σ → Wk J F1 ds → R J H1
end
/-- where one stands -/
structure COk (t : Tab) (Φ : Phi) (k : Nat) (c : Ctx) (X : Cx) : Prop where
  calm : X.calm = true
  hN : X.N = c.N
  nd : X.N.Nodup
  sc : X.env.scope = c.sc
  fn : X.fn = c.fnb
  xe : X.xe = fun _ _ => False
  room : Room k X.A
  cs : ∀ p ∈ t.cs, ∃ tk, X.mg p.1 = some (.int p.2 tk)
  fr : ∀ x ∈ t.fr, X.mg x = none
  fns : ∀ p ∈ t.fns, ∃ a fd ps, ps.length = p.2 ∧ X.mg p.1 = some (.ref a) ∧ PySem.W.keepIn X.K (.ref a) = true ∧ Binds X.K fd ps [] ∧ FnOk X.prog X.w X.K X.mg X.base (fun _ _ _ _ _ _ => False) k a fd ps (spF Φ X.K p.1)
theorem _root_.L2.PE.imp {X : Cx} {e : Expr} {t u : TE} (h : PE X e t) (w : ∀ σ H Q, u σ H Q → t σ H Q) : PE X e u := ⟨fun pins s σ H Q I q => h.run pins s σ H Q I (w _ _ _ q)⟩
theorem _root_.L2.PT.imp {X : Cx} {e : Expr} {t u : TT} (h : PT X e t) (w : ∀ σ H Q, u σ H Q → t σ H Q) : PT X e u := ⟨fun pins s σ H Q I q => h.run pins s σ H Q I (w _ _ _ q)⟩
theorem _root_.L2.PW.imp {X : Cx} {e : Expr} {t u : TT} (h : PW X e t) (w : ∀ σ H Q, u σ H Q → t σ H Q) : PW X e u := ⟨fun wh pins s σ H Q I q => h.run wh pins s σ H Q I (w _ _ _ q)⟩
theorem _root_.L2.PA.imp {X : Cx} {e : List Expr} {t u : TA} (h : PA X e t) (w : ∀ σ H Q, u σ H Q → t σ H Q) : PA X e u := ⟨fun pos pins s σ H Q I q => h.run pos pins s σ H Q I (w _ _ _ q)⟩
theorem _root_.L2.PI.imp {X : Cx} {tg e : Expr} {t u : TI} (h : PI X tg e t) (w : ∀ σ H Q, u σ H Q → t σ H Q) : PI X tg e u := ⟨fun pins s σ H Q I q => h.run pins s σ H Q I (w _ _ _ q)⟩
theorem _root_.L2.PO.imp {X : Cx} {e : Option Expr} {t u : TO} (h : PO X e t) (w : ∀ σ H Q, u σ H Q → t σ H Q) : PO X e u := ⟨fun pins s σ H Q I q => h.run pins s σ H Q I (w _ _ _ q)⟩
/-! ### the looks' words -/
theorem and_t {a b : Bool} (h : (a && b) = true) : a = true ∧ b = true := Bool.and_eq_true_iff.mp h
theorem sEq_t {a b : Str} (h : sEq a b = true) : a = b := of_decide_eq_true h
theorem kind_t {sc : Scope} {x : Str} {k : NameKind} (h : kindIs sc x k = true) : sc.names.lookup x = some k := of_decide_eq_true h
theorem vis_t {sc : Scope} {x : Str} (h : visB sc x = true) : Vis sc x := by
  unfold visB at h
  rcases Bool.or_eq_true_iff.mp h with h | h
  · rcases Bool.or_eq_true_iff.mp h with h | h
    · exact .inl (kind_t h)
    · exact .inr (.inl (kind_t h))
  · exact .inr (.inr (kind_t h))
theorem dbg_t {x : Str} (h : dbgB x = true) : (x == ("__debug__" : Str)) = false ∧ (x == ("__classdict__" : Str)) = false := by
  obtain ⟨h1, h2⟩ := and_t h
  exact ⟨by simpa using h1, by simpa using h2⟩
theorem noStar_cons {e : Expr} {es : List Expr} {env : PySem.Env} (h : isStar e = false) : starEach (e :: es) env = (false, eval e env) :: starEach es env := by
  cases e <;> first | rfl | exact nomatch h
section
variable {t : Tab} {Φ : Phi} {k : Nat} {c : Ctx} {X : Cx}
theorem COk.pvar (C : COk t Φ k c X) {i : Nat} {x : Str} {pos : Pos} (h : varB c i x = true) : PE X (.Name x pos) (tVar i) := by
  obtain ⟨h, h3⟩ := and_t h
  obtain ⟨h1, h2⟩ := and_t h
  obtain ⟨d1, d2⟩ := dbg_t h3
  exact pe_var (by rw [C.hN]; exact of_decide_eq_true h1) (by rw [C.sc]; exact vis_t h2) d1 d2
theorem COk.glob (C : COk t Φ k c X) {x : Str} (h : gloB c x = true) : Gl X x ∧ (x == ("__debug__" : Str)) = false := by
  obtain ⟨h1, h2⟩ := and_t h
  refine ⟨?_, (dbg_t h2).1⟩
  show X.env.scope.names.lookup x = _
  rw [C.sc]
  exact kind_t h1
theorem COk.blt (C : COk t Φ k c X) {x : Str} (h : bltB t c x = true) : Gl X x ∧ (x == ("__debug__" : Str)) = false ∧ X.mg x = none := by
  obtain ⟨h1, h2⟩ := and_t h
  obtain ⟨g1, g2⟩ := C.glob h1
  obtain ⟨y, hy, e⟩ := List.any_eq_true.mp h2
  rw [sEq_t e]
  exact ⟨by rw [← sEq_t e]; exact g1, by rw [← sEq_t e]; exact g2, C.fr y hy⟩
/-! ### values of operands -/
/-- what stands for d as far as one looks -/
def Vw (F H : Hp) (v : V) : D → Prop
  | .list ds => ∃ a vs, v = .ref a ∧ H a = some (.lst vs) ∧ RpAll F vs ds
  | .tuple ds => ∃ a vs, v = .ref a ∧ F a = some (.tup vs) ∧ RpAll F vs ds
  | d => Rp F v d
def VwS (K : PySem.W.Frag) (F H : Hp) (v : V) : D → Prop
  | .list ds => ∃ a vs, v = .ref a ∧ SqL K H a vs ∧ RpAll F vs ds
  | d => Vw F H v d
variable {K : PySem.W.Frag} {F H : Hp} {ρ : Env} {σ : St} {v : V} {o : Op} {d : D}
theorem Rp.vw (s : Sub F H) (h : Rp F v d) : Vw F H v d := by
  cases h with
  | lst e r => exact ⟨_, _, rfl, s _ _ e, r⟩
  | tup e r => exact ⟨_, _, rfl, e, r⟩
  | non => exact .non
  | bl b => exact .bl b
  | int i => exact .int i
  | str x => exact .str x
theorem Vw.rp (s : Sub F H) (h : Vw F H v d) : Rp H v d := by
  cases d with
  | list ds =>
    obtain ⟨a, vs, e, h1, h2⟩ := h
    subst e
    exact .lst h1 (h2.mono s)
  | tuple ds =>
    obtain ⟨a, vs, e, h1, h2⟩ := h
    subst e
    exact .tup (s _ _ h1) (h2.mono s)
  | none => exact Rp.mono s h
  | bool b => exact Rp.mono s h
  | int i => exact Rp.mono s h
  | str x => exact Rp.mono s h
  | dict _ => exact Rp.mono s h
theorem Vw.vws (h : Vw F H v d) : VwS K F H v d := by
  cases d with
  | list ds =>
    obtain ⟨a, vs, e, h1, h2⟩ := h
    exact ⟨a, vs, e, SqL.of h1, h2⟩
  | _ => exact h
theorem VwS.dp (s : Sub F H) (h : VwS K F H v d) : Dp K H v d := by
  cases d with
  | list ds =>
    obtain ⟨a, vs, e, h1, h2⟩ := h
    subst e
    exact .lst h1 (h2.mono s).dp
  | tuple ds => exact (Vw.rp (d := .tuple ds) s h).dp
  | none => exact (Vw.rp (d := .none) s h).dp
  | bool b => exact (Vw.rp (d := .bool b) s h).dp
  | int i => exact (Vw.rp (d := .int i) s h).dp
  | str x => exact (Vw.rp (d := .str x) s h).dp
  | dict x => exact (Vw.rp (d := .dict x) s h).dp
theorem RepR.vw {r : R} (s : Sub F H) (h : RepR K F H v r) (e : derR r = some d) : Vw F H v d := by
  cases r with
  | v d' =>
    cases e
    exact Rp.vw s h
  | l xs =>
    cases e
    obtain ⟨a, vs, e, h1, h2, _⟩ := h
    exact ⟨a, vs, e, h1, h2⟩
  | s ns => cases e
theorem RepR.vws {r : R} (s : Sub F H) (h : RepR K F H v r) (e : derA r = some d) : VwS K F H v d := by
  cases r with
  | v d' => exact (RepR.vw s h e).vws
  | l xs => exact (RepR.vw (r := .l xs) s h e).vws
  | s ns =>
    cases e
    obtain ⟨a, e, h1⟩ := h
    exact ⟨a, _, e, SqL.sub s h1, RpAll.ofInts ns⟩
theorem Good.at (g : Good K F H ρ σ) {i : Nat} {r : R} (h : getS ρ i = some r) (hv : σ[i]? = some (some v)) : RepR K F H v r := g.rep i r v ⟨getS_eq.mp h, hv⟩
theorem RO.vw (g : Good K F H ρ σ) (h : RO F σ v o) (e : der ρ o = some d) : Vw F H v d := by
  cases o with
  | d d' =>
    cases e
    exact Rp.vw g.sub h
  | sl i =>
    obtain ⟨r, hr, e⟩ := Option.bind_eq_some_iff.mp e
    exact RepR.vw g.sub (g.at hr h) e
theorem RO.vws (g : Good K F H ρ σ) (h : RO F σ v o) (e : derS ρ o = some d) : VwS K F H v d := by
  cases o with
  | d d' =>
    cases e
    exact (Rp.vw g.sub h).vws
  | sl i =>
    obtain ⟨r, hr, e⟩ := Option.bind_eq_some_iff.mp e
    exact RepR.vws g.sub (g.at hr h) e
theorem RO.mono {F1 : Hp} (s : Sub F F1) (h : RO F σ v o) : RO F1 σ v o := by
  cases o with
  | d d' => exact Rp.mono s h
  | sl i => exact h
theorem ROs.mono {F1 : Hp} (s : Sub F F1) : ∀ {vs : List V} {os : List Op}, ROs F σ vs os → ROs F1 σ vs os
  | [], [], _ => trivial
  | _ :: _, _ :: _, h => ⟨h.1.mono s, ROs.mono s h.2⟩
  | [], _ :: _, h => h.elim
  | _ :: _, [], h => h.elim
def VwAll (F H : Hp) : List V → List D → Prop
  | [], [] => True
  | v :: vs, d :: ds => Vw F H v d ∧ VwAll F H vs ds
  | _, _ => False
theorem ROs.vw (g : Good K F H ρ σ) : ∀ {vs : List V} {os : List Op} {ds : List D}, ROs F σ vs os → derAll ρ os = some ds → VwAll F H vs ds
  | [], [], ds, _, e => by
    cases e
    trivial
  | v :: vs, o :: os, ds, h, e => by
    obtain ⟨d, e1, e⟩ := Option.bind_eq_some_iff.mp e
    obtain ⟨es, e2, e⟩ := Option.bind_eq_some_iff.mp e
    cases e
    exact ⟨h.1.vw g e1, ROs.vw g h.2 e2⟩
  | [], _ :: _, _, h, _ => h.elim
  | _ :: _, [], _, h, _ => h.elim
/-! ### posts -/
variable {F1 H1 F2 H2 : Hp} {ρ1 ρ2 : Env} {σ1 : St}
/-- behind a step: a value that owns nothing -/
theorem post_v {Q : VK} {r : R} (s : Step F H (Own ρ σ) F1 H1 (Own ρ1 σ)) (g1 : Good K F1 H1 ρ1 σ) (q : PostE K F H ρ σ r ρ1 Q) (hr : r.own = false) {v : V} (h : RepR K F1 H1 v r) : Q v H1 :=
  q v F1 H1 (s.weak fun a z => own_more g1.len hr z) (g1.more hr h)
theorem post_d {Q : VK} {d : D} (s : Step F H (Own ρ σ) F1 H1 (Own ρ1 σ)) (g1 : Good K F1 H1 ρ1 σ) (q : PostE K F H ρ σ (.v d) ρ1 Q) {v : V} (h : Rp F1 v d) : Q v H1 := post_v s g1 q rfl h
/-- .. a new own list -/
theorem post_l {Q : VK} {xs : List D} (s : Step F H (Own ρ σ) F1 H1 (Own ρ1 σ)) (g1 : Good K F1 H1 ρ1 σ) (q : PostE K F H ρ σ (.l xs) ρ1 Q) {vs : List V} (h : RpAll F1 vs xs) (p : Addr) (hp : H1 p = none) : Q (.ref p) (upd H1 p (.lst vs)) :=
  q (.ref p) F1 _ ((s.trans (Step.freshOwn hp)).weak fun a z => own_newL g1.len z) (g1.newL hp h)
/-- .. a new tuple -/
theorem post_t {Q : VK} {xs : List D} (s : Step F H (Own ρ σ) F1 H1 (Own ρ1 σ)) (g1 : Good K F1 H1 ρ1 σ) (q : PostE K F H ρ σ (.v (.tuple xs)) ρ1 Q) {vs : List V} (h : RpAll F1 vs xs) (p : Addr) (hp : H1 p = none) : Q (.ref p) (upd H1 p (.tup vs)) :=
  post_d (s.trans (Step.fresh hp g1.sub)) (g1.newF hp) q (.tup upd_same (h.mono (sub_upd (g1.sub.none hp))))
/-! ### operands -/
theorem opd_ne {i : E} {f : Env → Option (R × Env)} (h : ∀ j, i ≠ .var j) : opd i f ρ = (f ρ).bind fun (r, ρ1) => (frzO r).bind fun d => some (.d d, ρ1) := by
  cases i <;> first | rfl | exact absurd rfl (h _)
theorem s_op {i : E} {e : Expr} (hE : PE X e (tE Φ X.K i)) (hv : ∀ j, i = .var j → PE X e (tVar j)) : PE X e (tO Φ X.K i) := by
  by_cases hi : ∃ j, i = .var j
  · obtain ⟨j, rfl⟩ := hi
    refine (hv j rfl).imp fun σ H Q h => ?_
    obtain ⟨F, ρ, o, ρ1, g, ev, q⟩ := h
    obtain ⟨r, hr, ev⟩ := Option.bind_eq_some_iff.mp ev
    cases ev
    obtain ⟨v, e⟩ := g.has j r (getS_eq.mp hr)
    exact ⟨v, e, q v F H Step.refl g e⟩
  · refine hE.imp fun σ H Q h => ?_
    obtain ⟨F, ρ, o, ρ1, g, ev, q⟩ := h
    rw [opd_ne fun j z => hi ⟨j, z⟩] at ev
    obtain ⟨⟨r, ρ2⟩, e1, ev⟩ := Option.bind_eq_some_iff.mp ev
    obtain ⟨d, e2, ev⟩ := Option.bind_eq_some_iff.mp ev
    cases ev
    refine ⟨F, ρ, r, ρ1, g, e1, fun v F1 H1 s g1 => ?_⟩
    have hl : ρ1.length = σ.length := by
      have := g1.len
      simp at this
      exact this
    obtain ⟨F2, s2, g2, rp⟩ := g1.freezeTop hl e2
    exact q v F2 H1 (s.trans s2) g2 rp
theorem len1 {r : R} (g : Good K F H (ρ ++ [some r]) (σ ++ [some v])) : ρ.length = σ.length := by
  have := g.len
  simp at this
  exact this
/-- a value given up -/
theorem s_frz {i : E} {Q : VK} {σ : St} {F H : Hp} {ρ ρ1 : Env} {r : R} {d : D} (g : Good K F H ρ σ) (ev : evE Φ i ρ = some (r, ρ1)) (e : frzO r = some d)
    (q : ∀ v F1 H1, Step F H (Own ρ σ) F1 H1 (Own ρ1 σ) → Good K F1 H1 ρ1 σ → Rp F1 v d → Q v H1) : tE Φ K i σ H Q :=
  ⟨F, ρ, r, ρ1, g, ev, fun v F1 H1 s g1 => by
    obtain ⟨F2, s2, g2, rp⟩ := g1.freezeTop (len1 g1) e
    exact q v F2 H1 (s.trans s2) g2 rp⟩
theorem two_read {a b : E} {x y : Op} {R : V → V → Hp → Prop} (g : Good K F H ρ σ) (e1 : opd a (evE Φ a) ρ = some (x, ρ1)) (e2 : opd b (evE Φ b) ρ1 = some (y, ρ2))
    (q : ∀ v w F2 H2, Step F H (Own ρ σ) F2 H2 (Own ρ2 σ) → Good K F2 H2 ρ2 σ → RO F2 σ v x → RO F2 σ w y → R v w H2) : tO Φ K a σ H fun v H1 => tO Φ K b σ H1 fun w H2 => R v w H2 :=
  ⟨F, ρ, x, ρ1, g, e1, fun v F1 H1 s1 g1 r1 => ⟨F1, ρ1, y, ρ2, g1, e2, fun w F2 H2 s2 g2 r2 => q v w F2 H2 (s1.trans s2) g2 (r1.mono s2.fz) r2⟩⟩
theorem bnd {α β : Type} {o : Option α} {f : α → Option β} {b : β} (h : o.bind f = some b) : ∃ a, o = some a ∧ f a = some b := Option.bind_eq_some_iff.mp h
end
end Pv

namespace Pv
open PySem PySem.Spec L2
/-! ## operators, built-in functions, methods by data -/
/-- what is wanted of a value that may be new -/
def NewR (F H : Hp) (r : R) (Q : VK) : Prop := match r with
  | .v d => ∀ v F1 H1, Step F H (fun _ => False) F1 H1 (fun _ => False) → Sub F1 H1 → Rp F1 v d → Q v H1
  | .l xs => ∀ p vs, H p = none → RpAll F vs xs → Q (.ref p) (upd H p (.lst vs))
  | .s _ => True
section
variable {K : PySem.W.Frag} {F H F0 H0 : Hp} {ρ ρ1 : Env} {σ : St} {Q : VK} {d : D} {v : V}
theorem NewR.old (n : NewR F H (.v d) Q) (s : Sub F H) (h : Rp F v d) : Q v H := n v F H Step.refl s h
theorem NewR.tup {ds : List D} {vs : List V} (n : NewR F H (.v (.tuple ds)) Q) (s : Sub F H) (h : RpAll F vs ds) (p : Addr) (hp : H p = none) : Q (.ref p) (upd H p (.tup vs)) :=
  n (.ref p) _ _ (Step.fresh hp s) s.upd2 (.tup upd_same (h.mono (sub_upd (s.none hp))))
theorem NewR.lst {ds : List D} {vs : List V} (n : NewR F H (.l ds) Q) (h : RpAll F vs ds) (p : Addr) (hp : H p = none) : Q (.ref p) (upd H p (.lst vs)) := n p vs hp h
theorem step_none {F1 H1 : Hp} {O : Addr → Prop} (s : Step F H (fun _ => False) F1 H1 (fun _ => False)) : Step F H O F1 H1 O := by
  have z := s.frame (P := O)
  exact (z.wide fun a h => h.elim False.elim id).weak fun a h => .inr h
theorem NewR.of {r : R} (q : PostE K F0 H0 ρ σ r ρ1 Q) (s : Step F0 H0 (Own ρ σ) F H (Own ρ1 σ)) (g : Good K F H ρ1 σ) : NewR F H r Q := by
  cases r with
  | v d => exact fun v F1 H1 s1 b h => post_d (s.trans (step_none s1)) (g.grow s1 b) q h
  | l xs => exact fun p vs hp h => post_l s g q h p hp
  | s ns => trivial
end
def rN2 (g : D → D → Option R) : R2 := fun x y H Q => ∃ F d e r, Sub F H ∧ Vw F H x d ∧ Vw F H y e ∧ g d e = some r ∧ NewR F H r Q
def rN2S (K : PySem.W.Frag) (g : D → D → Option R) : R2 := fun x y H Q => ∃ F d e r, Sub F H ∧ VwS K F H x d ∧ Vw F H y e ∧ g d e = some r ∧ NewR F H r Q
def rC2 (g : D → D → Option Bool) : R2 := fun x y H Q => ∃ F d e b, Sub F H ∧ Vw F H x d ∧ Vw F H y e ∧ g d e = some b ∧ Q (.bl b) H
def rN1 (g : D → Option R) : V → Hp → VK → Prop := fun x H Q => ∃ F d r, Sub F H ∧ Vw F H x d ∧ g d = some r ∧ NewR F H r Q
def rNs (g : List D → Option R) : List V → Hp → VK → Prop := fun xs H Q => ∃ F ds r, Sub F H ∧ VwAll F H xs ds ∧ g ds = some r ∧ NewR F H r Q
def rNsS (K : PySem.W.Frag) (g : D → Option R) : List V → Hp → VK → Prop := fun xs H Q => ∃ F x d r, xs = [x] ∧ Sub F H ∧ VwS K F H x d ∧ g d = some r ∧ NewR F H r Q
def rNm (g : D → List D → Option R) : V → List V → Hp → VK → Prop := fun x xs H Q => ∃ F d ds r, Sub F H ∧ Vw F H x d ∧ VwAll F H xs ds ∧ g d ds = some r ∧ NewR F H r Q
section
variable {X : Cx}
theorem opImp {f : Value → Value → Sem Value} {r r' : R2} (h : OpR X f r) (w : ∀ x y H Q, r' x y H Q → r x y H Q) : OpR X f r' := fun pins s σ H x y v u Q I rx ry q => h pins s σ H x y v u Q I rx ry (w _ _ _ _ q)
theorem opBy2 {f : Value → Value → Sem Value} {g : D → D → Option R} (h : ∀ d e r, g d e = some r → OpR X f (fun x y H Q => ∃ F, Sub F H ∧ Vw F H x d ∧ Vw F H y e ∧ NewR F H r Q)) : OpR X f (rN2 g) := fun pins s σ H x y v u Q I rx ry q => by
  obtain ⟨F, d, e, r, s1, h1, h2, h3, n⟩ := q
  exact h d e r h3 pins s σ H x y v u Q I rx ry ⟨F, s1, h1, h2, n⟩
theorem vw_int {F H : Hp} {x : V} {i : Int} (h : Vw F H x (.int i)) : x = .int i := by
  cases (show Rp F x (.int i) from h)
  rfl
theorem vw_bl {F H : Hp} {x : V} {i : Bool} (h : Vw F H x (.bool i)) : x = .bl i := by
  cases (show Rp F x (.bool i) from h)
  rfl
theorem vw_str {F H : Hp} {x : V} {i : Str} (h : Vw F H x (.str i)) : x = .str i := by
  cases (show Rp F x (.str i) from h)
  rfl
theorem vw_non {F H : Hp} {x : V} (h : Vw F H x .none) : x = .non := by
  cases (show Rp F x .none from h)
  rfl
/-- two ints to an int -/
theorem on_ints {f : Value → Value → Sem Value} {C : Int → Int → Prop} {g : Int → Int → Int} {a b : Int} (h : OpR X f (rI C fun i j => .int (g i j))) (hc : C a b) :
    OpR X f (fun x y H Q => ∃ F, Sub F H ∧ Vw F H x (.int a) ∧ Vw F H y (.int b) ∧ NewR F H (.v (.int (g a b))) Q) := opImp h fun x y H Q ⟨F, s, h1, h2, n⟩ => ⟨a, b, vw_int h1, vw_int h2, hc, n.old s (.int _)⟩
theorem on_ints0 {f : Value → Value → Sem Value} {g : Int → Int → Int} {a b : Int} (h : OpR X f (rI0 fun i j => .int (g i j))) :
    OpR X f (fun x y H Q => ∃ F, Sub F H ∧ Vw F H x (.int a) ∧ Vw F H y (.int b) ∧ NewR F H (.v (.int (g a b))) Q) := opImp h fun x y H Q ⟨F, s, h1, h2, n⟩ => ⟨a, b, vw_int h1, vw_int h2, n.old s (.int _)⟩
theorem ite_some {α : Type} {c : Prop} [Decidable c] {a b : α} (h : (if c then some a else none) = some b) : c ∧ a = b := by
  by_cases hc : c
  · rw [if_pos hc] at h
    exact ⟨hc, Option.some.inj h⟩
  · rw [if_neg hc] at h
    cases h
theorem on_cat {a b : List D} (hz : okN (a.length + b.length) = true) : OpR X (binaryOp .Add) (fun x y H Q => ∃ F, Sub F H ∧ Vw F H x (.list a) ∧ Vw F H y (.list b) ∧ NewR F H (.l (a ++ b)) Q) :=
  opImp op_cat fun x y H Q ⟨F, s, ⟨p, vs, e1, h1, r1⟩, ⟨q, us, e2, h2, r2⟩, n⟩ => ⟨p, q, vs, us, e1, e2, h1, h2, by rw [r1.len, r2.len]; exact okN_le hz, fun w hw => n.lst (r1.app r2) w hw⟩
theorem on_catT {a b : List D} (hz : okN (a.length + b.length) = true) : OpR X (binaryOp .Add) (fun x y H Q => ∃ F, Sub F H ∧ Vw F H x (.tuple a) ∧ Vw F H y (.tuple b) ∧ NewR F H (.v (.tuple (a ++ b))) Q) :=
  opImp op_catA fun x y H Q ⟨F, s, ⟨p, vs, e1, h1, r1⟩, ⟨q, us, e2, h2, r2⟩, n⟩ => by
    refine ⟨p, q, vs, us, e1, e2, SqT.of (s _ _ h1), SqT.of (s _ _ h2), by rw [r1.len, r2.len]; exact okN_le hz, fun e => ?_, fun _ e => ?_, fun _ _ w hw => n.tup s (r1.app r2) w hw⟩
    · subst e
      cases r1
      exact n.old s (.tup h2 r2)
    · subst e
      cases r2
      rw [List.append_nil] at n
      exact n.old s (.tup h1 r1)
theorem on_rep {a : List D} {k : Int} (hk : in62 k = true) (hz : okN (a.length * k.toNat) = true) : OpR X (binaryOp .Mult) (fun x y H Q => ∃ F, Sub F H ∧ Vw F H x (.list a) ∧ Vw F H y (.int k) ∧ NewR F H (.l (List.replicate k.toNat a).flatten) Q) :=
  opImp op_rep fun x y H Q ⟨F, s, ⟨p, vs, e1, h1, r1⟩, h2, n⟩ => by
    have hk : -4611686018427387904 ≤ k ∧ k < 4611686018427387904 := in62_b.mp hk
    exact ⟨p, k, vs, e1, vw_int h2, h1, by omega, by omega, by rw [r1.len]; exact okN_le hz, fun w hw => n.lst (r1.rep _) w hw⟩
theorem on_bin (op : Operator) : OpR X (binaryOp op) (rN2 (binD op)) := by
  refine opBy2 fun d e r h => ?_
  unfold binD at h
  split at h
  · cases h
    exact on_ints0 op_add
  · cases h
    exact on_ints0 op_sub
  · obtain ⟨hc, rfl⟩ := ite_some h
    exact on_ints op_mul hc
  · obtain ⟨hc, rfl⟩ := ite_some h
    exact on_ints op_fdiv hc
  · obtain ⟨hc, rfl⟩ := ite_some h
    exact on_ints (C := fun _ j => 0 < j) (g := fun i j => i % j) op_mod hc
  · obtain ⟨hc, rfl⟩ := ite_some h
    exact on_ints (g := fun i j => i ^ j.toNat) op_pow hc
  · obtain ⟨hc, rfl⟩ := ite_some h
    exact on_ints (g := fun i j => i * 2 ^ j.toNat) op_shl hc
  · obtain ⟨hc, rfl⟩ := ite_some h
    exact on_ints (C := fun _ j => 0 ≤ j) (g := fun i j => i / 2 ^ j.toNat) op_shr hc
  · obtain ⟨hc, rfl⟩ := ite_some h
    exact on_cat hc
  · obtain ⟨hc, rfl⟩ := ite_some h
    exact on_catT hc
  · obtain ⟨hc, rfl⟩ := ite_some h
    exact on_rep hc.1 hc.2
  · cases h
theorem on_neg : UnR X (unaryOp .USub) (rN1 fun d => (negD d).map R.v) := fun pins s σ H x v Q I rx ⟨F, d, r, sb, h1, h2, n⟩ => by
  obtain ⟨e, h2', rfl⟩ := Option.map_eq_some_iff.mp h2
  unfold negD at h2'
  split at h2'
  · cases h2'
    exact un_neg pins s σ H x v Q I rx ⟨_, vw_int h1, n.old sb (.int _)⟩
  · cases h2'
/-! ### comparisons -/
theorem on_cmpI {op : CmpOp} {f : Int → Int → Bool} {a b : Int} (h : OpR X (compareOp op) (rI0 fun i j => .bl (f i j))) :
    OpR X (compareOp op) (fun x y H Q => ∃ F, Sub F H ∧ Vw F H x (.int a) ∧ Vw F H y (.int b) ∧ Q (.bl (f a b)) H) := opImp h fun x y H Q ⟨F, s, h1, h2, n⟩ => ⟨a, b, vw_int h1, vw_int h2, n⟩
def flatV_of {F H : Hp} {x : V} {d : D} (h : Vw F H x d) (f : flatD d = true) : flatV x = true := by
  cases d with
  | none => rw [vw_non h]; rfl
  | bool b => rw [vw_bl h]; rfl
  | int i => rw [vw_int h]; rfl
  | str i => rw [vw_str h]; rfl
  | list _ => cases f
  | tuple _ => cases f
  | dict _ => cases f
theorem eqV_of {F H F' H' : Hp} {x y : V} {d e : D} (h1 : Vw F H x d) (h2 : Vw F' H' y e) (f1 : flatD d = true) (f2 : flatD e = true) : eqV x y = PyData.eqv d e := by
  cases d with
  | none => rw [vw_non h1]; cases e with
    | none => rw [vw_non h2]; rfl
    | bool b => rw [vw_bl h2]; rfl
    | int i => rw [vw_int h2]; rfl
    | str i => rw [vw_str h2]; rfl
    | _ => cases f2
  | bool b => rw [vw_bl h1]; cases e with
    | none => rw [vw_non h2]; rfl
    | bool b => rw [vw_bl h2]; rfl
    | int i => rw [vw_int h2]; rfl
    | str i => rw [vw_str h2]; rfl
    | _ => cases f2
  | int i => rw [vw_int h1]; cases e with
    | none => rw [vw_non h2]; rfl
    | bool b => rw [vw_bl h2]; rfl
    | int i => rw [vw_int h2]; rfl
    | str i => rw [vw_str h2]; rfl
    | _ => cases f2
  | str i => rw [vw_str h1]; cases e with
    | none => rw [vw_non h2]; rfl
    | bool b => rw [vw_bl h2]; rfl
    | int i => rw [vw_int h2]; rfl
    | str i => rw [vw_str h2]; rfl
    | _ => cases f2
  | _ => cases f1
theorem flatAll_of {F : Hp} : ∀ {vs : List V} {ds : List D}, RpAll F vs ds → ds.all flatD = true → vs.all flatV = true
  | _, _, .nil, _ => rfl
  | _, _, .cons (v := v) (d := d) r t, h => by
    rw [List.all_cons] at h ⊢
    obtain ⟨h1, h2⟩ := and_t h
    rw [flatV_of (Rp.vw (H := F) Sub.rfl r) h1, flatAll_of t h2]
    rfl
theorem any_of {F H : Hp} {x : V} {d : D} (hx : Vw F H x d) (fx : flatD d = true) : ∀ {F : Hp} {vs : List V} {ds : List D}, RpAll F vs ds → ds.all flatD = true → (vs.any fun y => eqV y x) = ds.any fun z => PyData.eqv z d
  | _, _, _, .nil, _ => rfl
  | F', _, _, .cons (v := v) (d := e) r t, h => by
    rw [List.all_cons] at h
    obtain ⟨h1, h2⟩ := and_t h
    rw [List.any_cons, List.any_cons, eqV_of (Rp.vw (H := F') Sub.rfl r) hx h1 fx, any_of hx fx t h2]
theorem on_eqD (hu : X.A.units + 64 < cLine) {d e : D} {b : Bool} (h : eqD d e = some b) : OpR X (compareOp .Eq) (fun x y H Q => ∃ F, Sub F H ∧ Vw F H x d ∧ Vw F H y e ∧ Q (.bl b) H) := by
  unfold eqD at h
  split at h
  · cases h
    refine opImp op_eq fun x y H Q ⟨F, s, h1, h2, q⟩ => ?_
    rw [vw_int h1, vw_int h2]
    exact ⟨rfl, by rw [show decide (V.int _ = V.int _) = _ from decide_eq_decide.mpr ⟨V.int.inj, congrArg V.int⟩]; exact q⟩
  · cases h
    refine opImp op_eq fun x y H Q ⟨F, s, h1, h2, q⟩ => ?_
    rw [vw_bl h1, vw_bl h2]
    exact ⟨rfl, by rw [show decide (V.bl _ = V.bl _) = _ from decide_eq_decide.mpr ⟨V.bl.inj, congrArg V.bl⟩]; exact q⟩
  · cases h
    refine opImp op_eq fun x y H Q ⟨F, s, h1, h2, q⟩ => ?_
    rw [vw_str h1, vw_str h2]
    exact ⟨rfl, by rw [show decide (V.str _ = V.str _) = _ from decide_eq_decide.mpr ⟨V.str.inj, congrArg V.str⟩]; exact q⟩
  · obtain ⟨hc, rfl⟩ := ite_some h
    obtain ⟨c1, c2⟩ := and_t hc
    exact opImp (op_eqD hu) fun x y H Q ⟨F, s, h1, h2, q⟩ => ⟨_, _, (h1.vws).dp s, (h2.vws).dp s, c1, c2, q⟩
theorem on_neD (hu : X.A.units + 64 < cLine) {d e : D} {b : Bool} (h : eqD d e = some b) : OpR X (compareOp .NotEq) (fun x y H Q => ∃ F, Sub F H ∧ Vw F H x d ∧ Vw F H y e ∧ Q (.bl (!b)) H) := by
  unfold eqD at h
  split at h
  · cases h
    refine opImp op_ne fun x y H Q ⟨F, s, h1, h2, q⟩ => ?_
    rw [vw_int h1, vw_int h2]
    exact ⟨rfl, by rw [show decide (V.int _ = V.int _) = _ from decide_eq_decide.mpr ⟨V.int.inj, congrArg V.int⟩]; exact q⟩
  · cases h
    refine opImp op_ne fun x y H Q ⟨F, s, h1, h2, q⟩ => ?_
    rw [vw_bl h1, vw_bl h2]
    exact ⟨rfl, by rw [show decide (V.bl _ = V.bl _) = _ from decide_eq_decide.mpr ⟨V.bl.inj, congrArg V.bl⟩]; exact q⟩
  · cases h
    refine opImp op_ne fun x y H Q ⟨F, s, h1, h2, q⟩ => ?_
    rw [vw_str h1, vw_str h2]
    exact ⟨rfl, by rw [show decide (V.str _ = V.str _) = _ from decide_eq_decide.mpr ⟨V.str.inj, congrArg V.str⟩]; exact q⟩
  · obtain ⟨hc, rfl⟩ := ite_some h
    obtain ⟨c1, c2⟩ := and_t hc
    exact opImp (op_neD hu) fun x y H Q ⟨F, s, h1, h2, q⟩ => ⟨_, _, (h1.vws).dp s, (h2.vws).dp s, c1, c2, q⟩
theorem on_inB (hu : X.A.units + 65 < cLine) {d e : D} {b : Bool} (h : inD d e = some b) : OpR X (compareOp .In) (fun x y H Q => ∃ F, Sub F H ∧ Vw F H x d ∧ Vw F H y e ∧ Q (.bl b) H) ∧ OpR X (compareOp .NotIn) (fun x y H Q => ∃ F, Sub F H ∧ Vw F H x d ∧ Vw F H y e ∧ Q (.bl (!b)) H) := by
  unfold inD at h
  split at h
  · rename_i ys
    by_cases hc : (flatD d && ys.all flatD) = true
    · rw [if_pos hc] at h
      cases h
      obtain ⟨c1, c2⟩ := and_t hc
      refine ⟨opImp op_in_seq (fun x y H Q ⟨F, s, h1, ⟨p, vs, e1, e2, r⟩, q⟩ => ?_), opImp op_notIn_seq fun x y H Q ⟨F, s, h1, ⟨p, vs, e1, e2, r⟩, q⟩ => ?_⟩
      · refine ⟨p, vs, e1, .inl (SqL.of e2), flatV_of h1 c1, flatAll_of r c2, ?_⟩
        rw [if_neg (by decide)]
        unfold inV
        rw [any_of h1 c1 r c2]
        exact q
      · refine ⟨p, vs, e1, .inl (SqL.of e2), flatV_of h1 c1, flatAll_of r c2, ?_⟩
        rw [if_pos rfl]
        unfold inV
        rw [any_of h1 c1 r c2]
        exact q
    · rw [if_neg hc] at h
      obtain ⟨hc, rfl⟩ := ite_some h
      obtain ⟨c1, c2⟩ := and_t hc
      exact ⟨opImp (op_inD hu) (fun x y H Q ⟨F, s, h1, h2, q⟩ => ⟨_, _, (h1.vws).dp s, (h2.vws).dp s, c1, c2, q⟩), opImp (op_notInD hu) fun x y H Q ⟨F, s, h1, h2, q⟩ => ⟨_, _, (h1.vws).dp s, (h2.vws).dp s, c1, c2, q⟩⟩
  · rename_i ys
    obtain ⟨hc, rfl⟩ := ite_some h
    obtain ⟨c1, c2⟩ := and_t hc
    refine ⟨opImp op_in_seq (fun x y H Q ⟨F, s, h1, ⟨p, vs, e1, e2, r⟩, q⟩ => ?_), opImp op_notIn_seq fun x y H Q ⟨F, s, h1, ⟨p, vs, e1, e2, r⟩, q⟩ => ?_⟩
    · refine ⟨p, vs, e1, .inr (SqT.of (s _ _ e2)), flatV_of h1 c1, flatAll_of r c2, ?_⟩
      rw [if_neg (by decide)]
      unfold inV
      rw [any_of h1 c1 r c2]
      exact q
    · refine ⟨p, vs, e1, .inr (SqT.of (s _ _ e2)), flatV_of h1 c1, flatAll_of r c2, ?_⟩
      rw [if_pos rfl]
      unfold inV
      rw [any_of h1 c1 r c2]
      exact q
  · cases h
theorem isNon_of {F H : Hp} {x : V} {d : D} (h : Vw F H x d) : decide (x = .non) = isNonD d := by
  cases d with
  | none => rw [vw_non h]; rfl
  | bool b => rw [vw_bl h]; rfl
  | int i => rw [vw_int h]; rfl
  | str i => rw [vw_str h]; rfl
  | list _ =>
    obtain ⟨a, vs, e, _⟩ := h
    rw [e]
    rfl
  | tuple _ =>
    obtain ⟨a, vs, e, _⟩ := h
    rw [e]
    rfl
  | dict _ => cases (show Rp F x (.dict _) from h)
theorem on_cmp (hu : X.A.units + 65 < cLine) (op : CmpOp) : OpR X (compareOp op) (rC2 (cmpD op)) := by
  intro pins s σ H x y v u Q I rx ry ⟨F, d, e, b, sb, h1, h2, hb, q⟩
  unfold cmpD at hb
  split at hb
  · cases hb
    exact on_cmpI op_lt pins s σ H x y v u Q I rx ry ⟨F, sb, h1, h2, q⟩
  · cases hb
    exact on_cmpI op_le pins s σ H x y v u Q I rx ry ⟨F, sb, h1, h2, q⟩
  · cases hb
    exact on_cmpI (f := fun i j => decide (j < i)) op_gt pins s σ H x y v u Q I rx ry ⟨F, sb, h1, h2, q⟩
  · cases hb
    exact on_cmpI (f := fun i j => decide (j ≤ i)) op_ge pins s σ H x y v u Q I rx ry ⟨F, sb, h1, h2, q⟩
  · exact on_eqD (by omega) hb pins s σ H x y v u Q I rx ry ⟨F, sb, h1, h2, q⟩
  · obtain ⟨b', hb', rfl⟩ := Option.map_eq_some_iff.mp hb
    exact on_neD (by omega) hb' pins s σ H x y v u Q I rx ry ⟨F, sb, h1, h2, q⟩
  · cases hb
    exact op_isN pins s σ H x y v u Q I rx ry ⟨vw_non h2, by rw [isNon_of h1]; exact q⟩
  · cases hb
    exact op_notN pins s σ H x y v u Q I rx ry ⟨vw_non h2, by rw [isNon_of h1]; exact q⟩
  · exact (on_inB hu hb).1 pins s σ H x y v u Q I rx ry ⟨F, sb, h1, h2, q⟩
  · obtain ⟨b', hb', rfl⟩ := Option.map_eq_some_iff.mp hb
    exact (on_inB hu hb').2 pins s σ H x y v u Q I rx ry ⟨F, sb, h1, h2, q⟩
  · cases hb
/-! ### truth -/
theorem tru_of {K : PySem.W.Frag} {F H : Hp} {x : V} {d : D} {b : Bool} (s : Sub F H) (h : VwS K F H x d) (e : truD d = some b) : TruV K x H b := by
  cases d with
  | none =>
    rw [vw_non (H := H) (show Vw F H x .none from h)]
    cases e
    rfl
  | bool c =>
    rw [vw_bl (H := H) (show Vw F H x (.bool c) from h)]
    cases e
    rfl
  | int i =>
    rw [vw_int (H := H) (show Vw F H x (.int i) from h)]
    cases e
    show decide (i ≠ 0) = (i != 0)
    by_cases hi : i = 0
    · subst hi
      rfl
    · rw [decide_eq_true hi]
      exact (bne_iff_ne.mpr hi).symm
  | list xs =>
    obtain ⟨a, vs, e1, h1, r⟩ := h
    subst e1
    cases e
    exact .inl ⟨vs, h1, by cases r <;> rfl⟩
  | tuple xs =>
    obtain ⟨a, vs, e1, h1, r⟩ := h
    subst e1
    cases e
    exact .inr (.inl ⟨vs, SqT.of (s _ _ h1), by cases r <;> rfl⟩)
  | str _ => cases e
  | dict _ => cases e
/-! ### subscripts, slices -/
theorem atI_map {F : Hp} {vs : List V} {ds : List D} (r : RpAll F vs ds) {i : Int} {d : D} (h : atI ds i = some d) : ∃ v, atI vs i = some v ∧ Rp F v d := by
  unfold atI at h ⊢
  rw [r.len]
  obtain ⟨j, h1, h2⟩ := Option.bind_eq_some_iff.mp h
  obtain ⟨v, h3, h4⟩ := r.get h2
  exact ⟨v, by rw [h1]; exact h3, h4⟩
theorem on_ix : IxR X (rN2S X.K fun d e => (idxD d e).map R.v) := by
  intro value slice pins s σ H x y v u Q I rx ry ⟨F, d, e, r, sb, h1, h2, hb, n⟩ hsub
  obtain ⟨z, hb', rfl⟩ := Option.map_eq_some_iff.mp hb
  clear hb
  unfold idxD at hb'
  split at hb'
  · obtain ⟨a, vs, e1, h1, r⟩ := h1
    obtain ⟨w, hw, rw'⟩ := atI_map r hb'
    exact ix_list value slice pins s σ H x y v u Q I rx ry ⟨a, vs, _, w, e1, vw_int h2, h1, hw, n.old sb rw'⟩ hsub
  · obtain ⟨a, vs, e1, h1, r⟩ := (show Vw F H x (.tuple _) from h1)
    obtain ⟨w, hw, rw'⟩ := atI_map r hb'
    exact ix_tup value slice pins s σ H x y v u Q I rx ry ⟨a, vs, _, w, e1, vw_int h2, SqT.of (sb _ _ h1), hw, n.old sb rw'⟩ hsub
  · cases hb'
theorem cut_map {F : Hp} {vs : List V} {ds : List D} (r : RpAll F vs ds) (lo hi : Option Int) : RpAll F (cutV vs lo hi) (cutA ds lo hi) := by
  unfold cutV cutA
  rw [r.len]
  exact (r.drop _).take _
theorem cutA_all {α : Type} {xs : List α} {lo hi : Option Int} (h1 : HT.sIx xs.length 0 lo = 0) (h2 : HT.sIx xs.length xs.length hi = xs.length) : cutA xs lo hi = xs := by
  unfold cutA
  rw [h1, h2, List.drop_zero, Nat.sub_zero, List.take_length]
theorem on_sl : SlR X (fun x lo hi H Q => ∃ F d r, Sub F H ∧ VwS X.K F H x d ∧ slcD d lo hi = some r ∧ NewR F H r Q) := by
  intro pins s σ H x v vl vu lo hi sl Q I rx hs pl pu ⟨F, d, r, sb, h1, hb, n⟩
  unfold slcD at hb
  split at hb
  · cases hb
    obtain ⟨a, vs, e1, h1, r⟩ := h1
    exact sl_list pins s σ H x v vl vu lo hi sl Q I rx hs pl pu ⟨a, vs, e1, h1, fun p hp => n.lst (cut_map r lo hi) p hp⟩
  · cases hb
    obtain ⟨a, vs, e1, h1', r⟩ := (show Vw F H x (.tuple _) from h1)
    refine sl_tupA pins s σ H x v vl vu lo hi sl Q I rx hs pl pu ⟨a, vs, e1, SqT.of (sb _ _ h1'), fun ⟨q1, q2⟩ => ?_, fun _ p hp => n.tup sb (cut_map r lo hi) p hp⟩
    rw [r.len] at q1 q2
    rw [cutA_all q1 q2] at n
    subst e1
    exact n.old sb (.tup h1' r)
  · cases hb
end
end Pv

namespace Pv
open PySem PySem.Spec L2
/-! ## built-in functions and methods by data -/
section
variable {X : Cx}
theorem callImp {f : Value} {r r' : List V → Hp → VK → Prop} (h : CallR X f r) (w : ∀ xs H Q, r' xs H Q → r xs H Q) : CallR X f r' := fun pins s σ H xs us Q I rx q => h pins s σ H xs us Q I rx (w _ _ _ q)
theorem mtImp {id : String} {r r' : V → List V → Hp → VK → Prop} (h : MtR X id r) (w : ∀ x xs H Q, r' x xs H Q → r x xs H Q) : MtR X id r' := fun pins s σ H x xs v us Q I rx rxs q => h pins s σ H x xs v us Q I rx rxs (w _ _ _ _ q)
theorem all1 {F H : Hp} {xs : List V} {d : D} (h : VwAll F H xs [d]) : ∃ x, xs = [x] ∧ Vw F H x d := by
  match xs, h with
  | [x], h => exact ⟨x, rfl, h.1⟩
  | [], h => exact h.elim
  | _ :: _ :: _, h => exact h.2.elim
theorem all2 {F H : Hp} {xs : List V} {d e : D} (h : VwAll F H xs [d, e]) : ∃ x y, xs = [x, y] ∧ Vw F H x d ∧ Vw F H y e := by
  match xs, h with
  | [x, y], h => exact ⟨x, y, rfl, h.1, h.2.1⟩
  | [], h => exact h.elim
  | [_], h => exact h.2.elim
  | _ :: _ :: _ :: _, h => exact h.2.2.elim
theorem boolsOf_map : ∀ {ds : List D} {bs : List Bool}, boolsOf ds = some bs → ds = bs.map PyData.bool
  | [], bs, h => by
    cases h
    rfl
  | d :: ds, bs, h => by
    cases d with
    | bool b =>
      obtain ⟨cs, h1, h2⟩ := bnd h
      cases h2
      rw [boolsOf_map h1]
      rfl
    | _ => cases h
theorem intsOf_map : ∀ {ds : List D} {bs : List Int}, intsOf ds = some bs → ds = bs.map PyData.int
  | [], bs, h => by
    cases h
    rfl
  | d :: ds, bs, h => by
    cases d with
    | int b =>
      obtain ⟨cs, h1, h2⟩ := bnd h
      cases h2
      rw [intsOf_map h1]
      rfl
    | _ => cases h
theorem intsOf_of : ∀ ns : List Int, intsOf (ns.map PyData.int) = some ns
  | [] => rfl
  | n :: ns => by
    show (intsOf (ns.map PyData.int)).bind _ = _
    rw [intsOf_of ns]
    rfl
theorem boolsOf_of : ∀ ns : List Bool, boolsOf (ns.map PyData.bool) = some ns
  | [] => rfl
  | n :: ns => by
    show (boolsOf (ns.map PyData.bool)).bind _ = _
    rw [boolsOf_of ns]
    rfl
theorem foldl_max_ge : ∀ (xs : List Int) (a : Int), a ≤ xs.foldl max a ∧ (∀ y ∈ xs, y ≤ xs.foldl max a) ∧ (xs.foldl max a = a ∨ xs.foldl max a ∈ xs)
  | [], a => ⟨Int.le_refl _, by simp, .inl rfl⟩
  | x :: xs, a => by
    obtain ⟨h1, h2, h3⟩ := foldl_max_ge xs (max a x)
    rw [List.foldl_cons]
    refine ⟨by omega, fun y hy => ?_, ?_⟩
    · rcases List.mem_cons.mp hy with rfl | hy
      · omega
      · exact h2 y hy
    · rcases h3 with h3 | h3
      · by_cases e : a ≤ x
        · exact .inr (by rw [h3, show max a x = x by omega]; exact List.mem_cons_self)
        · exact .inl (by rw [h3]; omega)
      · exact .inr (List.mem_cons_of_mem _ h3)
theorem foldl_min_le : ∀ (xs : List Int) (a : Int), xs.foldl min a ≤ a ∧ (∀ y ∈ xs, xs.foldl min a ≤ y) ∧ (xs.foldl min a = a ∨ xs.foldl min a ∈ xs)
  | [], a => ⟨Int.le_refl _, by simp, .inl rfl⟩
  | x :: xs, a => by
    obtain ⟨h1, h2, h3⟩ := foldl_min_le xs (min a x)
    rw [List.foldl_cons]
    refine ⟨by omega, fun y hy => ?_, ?_⟩
    · rcases List.mem_cons.mp hy with rfl | hy
      · omega
      · exact h2 y hy
    · rcases h3 with h3 | h3
      · by_cases e : x ≤ a
        · exact .inr (by rw [h3, show min a x = x by omega]; exact List.mem_cons_self)
        · exact .inl (by rw [h3]; omega)
      · exact .inr (List.mem_cons_of_mem _ h3)
theorem maxL_of {ns : List Int} {m : Int} (h : maxL ns = some m) : 0 < ns.length ∧ m ∈ ns ∧ ∀ y ∈ ns, y ≤ m := by
  cases ns with
  | nil => cases h
  | cons x xs =>
    cases h
    obtain ⟨h1, h2, h3⟩ := foldl_max_ge xs x
    refine ⟨Nat.succ_pos _, ?_, fun y hy => ?_⟩
    · rcases h3 with h3 | h3
      · rw [h3]
        exact List.mem_cons_self
      · exact List.mem_cons_of_mem _ h3
    · rcases List.mem_cons.mp hy with rfl | hy
      · exact h1
      · exact h2 y hy
theorem minL_of {ns : List Int} {m : Int} (h : minL ns = some m) : 0 < ns.length ∧ m ∈ ns ∧ ∀ y ∈ ns, m ≤ y := by
  cases ns with
  | nil => cases h
  | cons x xs =>
    cases h
    obtain ⟨h1, h2, h3⟩ := foldl_min_le xs x
    refine ⟨Nat.succ_pos _, ?_, fun y hy => ?_⟩
    · rcases h3 with h3 | h3
      · rw [h3]
        exact List.mem_cons_self
      · exact List.mem_cons_of_mem _ h3
    · rcases List.mem_cons.mp hy with rfl | hy
      · exact h1
      · exact h2 y hy
theorem insI_perm (x : Int) : ∀ ys : List Int, (insI x ys).Perm (x :: ys)
  | [] => .refl _
  | y :: ys => by
    unfold insI
    split
    · exact .refl _
    · exact ((insI_perm x ys).cons y).trans (.swap x y ys)
theorem srtI_perm : ∀ xs : List Int, (srtI xs).Perm xs
  | [] => .refl _
  | x :: xs => (insI_perm x _).trans ((srtI_perm xs).cons x)
theorem insI_sorted (x : Int) : ∀ {ys : List Int}, ys.Pairwise (· ≤ ·) → (insI x ys).Pairwise (· ≤ ·)
  | [], _ => List.pairwise_singleton _ _
  | y :: ys, h => by
    unfold insI
    rw [List.pairwise_cons] at h
    split
    · rename_i hxy
      rw [List.pairwise_cons]
      refine ⟨fun z hz => ?_, List.pairwise_cons.mpr h⟩
      rcases List.mem_cons.mp hz with rfl | hz
      · exact hxy
      · exact Int.le_trans hxy (h.1 z hz)
    · rename_i hxy
      rw [List.pairwise_cons]
      refine ⟨fun z hz => ?_, insI_sorted x h.2⟩
      rcases List.mem_cons.mp ((insI_perm x ys).mem_iff.mp hz) with rfl | hz
      · omega
      · exact h.1 z hz
theorem srtI_sorted : ∀ xs : List Int, (srtI xs).Pairwise (· ≤ ·)
  | [] => List.Pairwise.nil
  | x :: xs => insI_sorted x (srtI_sorted xs)
theorem srt_same {a b : List Int} (h : a.Perm b) (h1 : a.Pairwise (· ≤ ·)) (h2 : b.Pairwise (· ≤ ·)) : a = b :=
  List.Perm.eq_of_pairwise (fun x y _ _ p q => Int.le_antisymm p q) h1 h2 h
def Bi.val : Bi → Value
  | .len => .builtin "len"
  | .tuple => .type "tuple"
  | .list => .type "list"
  | .all => .builtin "all"
  | .any => .builtin "any"
  | .int => .type "int"
  | .abs => .builtin "abs"
  | .min2 => .builtin "min"
  | .max2 => .builtin "max"
  | .sum => .builtin "sum"
  | .min => .builtin "min"
  | .max => .builtin "max"
  | .sorted => .builtin "sorted"
theorem on_len : CallR X (.builtin "len") (rNsS X.K fun d => biD .len [d]) := callImp call_len_seq fun xs H Q ⟨F, x, d, r, e, s, h, hb, n⟩ => by
  cases d with
  | list ys =>
    cases (show some _ = some r from hb)
    obtain ⟨a, vs, e1, h1, r⟩ := h
    rw [← r.len] at n
    exact ⟨a, vs, by rw [e, e1], .inl h1, n.old s (.int _)⟩
  | tuple ys =>
    cases (show some _ = some r from hb)
    obtain ⟨a, vs, e1, h1, r⟩ := (show Vw F H x (.tuple _) from h)
    rw [← r.len] at n
    exact ⟨a, vs, by rw [e, e1], .inr (SqT.of (s _ _ h1)), n.old s (.int _)⟩
  | none => exact nomatch (show (none : Option R) = some r from hb)
  | bool _ => exact nomatch (show (none : Option R) = some r from hb)
  | int _ => exact nomatch (show (none : Option R) = some r from hb)
  | str _ => exact nomatch (show (none : Option R) = some r from hb)
  | dict _ => exact nomatch (show (none : Option R) = some r from hb)
theorem on_list : CallR X (.type "list") (rNsS X.K fun d => biD .list [d]) := callImp call_list_of fun xs H Q ⟨F, x, d, r, e, s, h, hb, n⟩ => by
  cases d with
  | list ys =>
    cases (show some _ = some r from hb)
    obtain ⟨a, vs, e1, h1, r⟩ := h
    exact ⟨a, vs, by rw [e, e1], .inl h1, fun p hp => n.lst r p hp⟩
  | tuple ys =>
    cases (show some _ = some r from hb)
    obtain ⟨a, vs, e1, h1, r⟩ := (show Vw F H x (.tuple _) from h)
    exact ⟨a, vs, by rw [e, e1], .inr (SqT.of (s _ _ h1)), fun p hp => n.lst r p hp⟩
  | none => exact nomatch (show (none : Option R) = some r from hb)
  | bool _ => exact nomatch (show (none : Option R) = some r from hb)
  | int _ => exact nomatch (show (none : Option R) = some r from hb)
  | str _ => exact nomatch (show (none : Option R) = some r from hb)
  | dict _ => exact nomatch (show (none : Option R) = some r from hb)
theorem on_bi (hc : X.calm = true) (b : Bi) (hl : b ≠ .len) (hl2 : b ≠ .list) : CallR X b.val (rNs (biD b)) := by
  intro pins s σ H xs us Q I rx ⟨F, ds, r, sb, h, hb, n⟩
  unfold biD at hb
  split at hb
  · exact absurd rfl hl
  · exact absurd rfl hl
  · cases hb
    obtain ⟨x, rfl, a, vs, e1, h1, r⟩ := all1 h
    exact call_tuple_of pins s σ H _ us Q I rx ⟨a, vs, by rw [e1], .inl ⟨SqL.of h1, fun p hp => n.tup sb r p hp⟩⟩
  · cases hb
    obtain ⟨x, rfl, a, vs, e1, h1, r⟩ := all1 h
    exact call_tuple_of pins s σ H _ us Q I rx ⟨a, vs, by rw [e1], .inr ⟨SqT.of (sb _ _ h1), n.old sb (.tup h1 r)⟩⟩
  · exact absurd rfl hl2
  · exact absurd rfl hl2
  · obtain ⟨bs, h1, hb⟩ := bnd hb
    cases hb
    obtain ⟨x, rfl, a, vs, e1, h2, r⟩ := all1 h
    rw [boolsOf_map h1] at r
    have ev := r.bools
    subst ev
    exact cr_all hc pins s σ H _ us Q I rx ⟨a, bs, by rw [e1], SqL.of h2, n.old sb (.bl _)⟩
  · obtain ⟨bs, h1, hb⟩ := bnd hb
    cases hb
    obtain ⟨x, rfl, a, vs, e1, h2, r⟩ := all1 h
    rw [boolsOf_map h1] at r
    have ev := r.bools
    subst ev
    exact cr_any hc pins s σ H _ us Q I rx ⟨a, bs, by rw [e1], SqL.of h2, n.old sb (.bl _)⟩
  · cases hb
    obtain ⟨x, rfl, h1⟩ := all1 h
    exact call_int1 pins s σ H _ us Q I rx (.inl ⟨_, by rw [vw_int h1], n.old sb (.int _)⟩)
  · cases hb
    obtain ⟨x, rfl, h1⟩ := all1 h
    exact call_int1 pins s σ H _ us Q I rx (.inr ⟨_, by rw [vw_bl h1], n.old sb (.int _)⟩)
  · cases hb
    obtain ⟨x, rfl, h1⟩ := all1 h
    exact call_abs pins s σ H _ us Q I rx ⟨_, by rw [vw_int h1], n.old sb (.int _)⟩
  · cases hb
    obtain ⟨x, y, rfl, h1, h2⟩ := all2 h
    exact call_min2 hc pins s σ H _ us Q I rx ⟨_, _, by rw [vw_int h1, vw_int h2], n.old sb (.int _)⟩
  · cases hb
    obtain ⟨x, y, rfl, h1, h2⟩ := all2 h
    exact call_max2 hc pins s σ H _ us Q I rx ⟨_, _, by rw [vw_int h1, vw_int h2], n.old sb (.int _)⟩
  · obtain ⟨ns, h1, hb⟩ := bnd hb
    cases hb
    obtain ⟨x, rfl, a, vs, e1, h2, r⟩ := all1 h
    rw [intsOf_map h1] at r
    have ev := r.ints
    subst ev
    exact cr_sum hc pins s σ H _ us Q I rx ⟨a, ns, by rw [e1], SqL.of h2, n.old sb (.int _)⟩
  · obtain ⟨ns, h1, hb⟩ := bnd hb
    obtain ⟨m, h3, hb⟩ := bnd hb
    cases hb
    obtain ⟨x, rfl, a, vs, e1, h2, r⟩ := all1 h
    rw [intsOf_map h1] at r
    have ev := r.ints
    subst ev
    obtain ⟨m1, m2, m3⟩ := maxL_of h3
    refine cr_max hc pins s σ H _ us Q I rx ⟨a, ns, by rw [e1], SqL.of h2, m1, fun m' p1 p2 => ?_⟩
    rw [show m' = m from Int.le_antisymm (m3 m' p1) (p2 m m2)]
    exact n.old sb (.int _)
  · obtain ⟨ns, h1, hb⟩ := bnd hb
    obtain ⟨m, h3, hb⟩ := bnd hb
    cases hb
    obtain ⟨x, rfl, a, vs, e1, h2, r⟩ := all1 h
    rw [intsOf_map h1] at r
    have ev := r.ints
    subst ev
    obtain ⟨m1, m2, m3⟩ := minL_of h3
    refine cr_min hc pins s σ H _ us Q I rx ⟨a, ns, by rw [e1], SqL.of h2, m1, fun m' p1 p2 => ?_⟩
    rw [show m' = m from Int.le_antisymm (p2 m m2) (m3 m' p1)]
    exact n.old sb (.int _)
  · obtain ⟨ns, h1, hb⟩ := bnd hb
    cases hb
    obtain ⟨x, rfl, a, vs, e1, h2, r⟩ := all1 h
    rw [intsOf_map h1] at r
    have ev := r.ints
    subst ev
    refine cr_sortedI pins s σ H _ us Q I rx ⟨a, ns, by rw [e1], SqL.of h2, fun ns' p hp hs hn => ?_⟩
    rw [srt_same (hp.trans (srtI_perm ns).symm) hs (srtI_sorted ns)]
    have z := n.lst (vs := (srtI ns).map V.int) (RpAll.ofInts _) p hn
    exact z
  · cases hb
/-! ### isinstance -/
def tyId : D → String
  | .none => "NoneType"
  | .bool _ => "bool"
  | .int _ => "int"
  | .str _ => "str"
  | .list _ => "list"
  | .tuple _ => "tuple"
  | .dict _ => "dict"
def Ty.id : Ty → String
  | .int => "int"
  | .bool => "bool"
  | .str => "str"
  | .tuple => "tuple"
  | .list => "list"
theorem kit_all {K : PySem.W.Frag} (d : D) (y : Ty) : PySem.W.kitOne K (.type (tyId d)) (.type y.id) = some (isiD d y) := by
  cases d <;> cases y <;> (refine kit_ty ?_; simp only [tyId, Ty.id, isiD]; decide +kernel)
theorem tyX_of {K : PySem.W.Frag} {F H : Hp} {x : V} {d : D} (s : Sub F H) (h : Vw F H x d) : TyX K H x (.type (tyId d)) := by
  cases d with
  | none => rw [vw_non h]; exact .base .non
  | bool b => rw [vw_bl h]; exact .base (.bl _)
  | int i => rw [vw_int h]; exact .base (.int _)
  | str i => rw [vw_str h]; exact .base (.str _)
  | list _ =>
    obtain ⟨a, vs, e, h1, _⟩ := h
    rw [e]
    exact .base (.lst h1)
  | tuple _ =>
    obtain ⟨a, vs, e, h1, _⟩ := h
    rw [e]
    exact .base (.tup (s _ _ h1))
  | dict _ => cases (show Rp F x (.dict _) from h)
theorem kitAny_all {K : PySem.W.Frag} (d : D) : ∀ ys : List Ty, PySem.W.kitAny K (.type (tyId d)) (ys.map fun y => Value.type y.id) = some (ys.any (isiD d))
  | [] => kitAny_nil
  | y :: ys => by
    refine kitAny_cons (kit_all d y) (fun e => ?_) fun e => ?_
    · rw [kitAny_all d ys, List.any_cons, e, Bool.false_or]
    · rw [List.any_cons, e, Bool.true_or]
/-! ### methods -/
theorem ixOf_spec {x : D} : ∀ {xs : List D} {j : Nat}, ixOf x xs = some j → ∃ z, xs[j]? = some z ∧ PyData.eqv z x = true ∧ ∀ (m : Nat) (z' : D), m < j → xs[m]? = some z' → PyData.eqv z' x = false
  | [], j, h => by cases h
  | y :: ys, j, h => by
    unfold ixOf at h
    by_cases e : PyData.eqv y x = true
    · rw [if_pos e] at h
      cases h
      exact ⟨y, rfl, e, fun m z' hm => absurd hm (Nat.not_lt_zero _)⟩
    · rw [if_neg e] at h
      obtain ⟨i, h1, rfl⟩ := Option.map_eq_some_iff.mp h
      obtain ⟨z, a1, a2, a3⟩ := ixOf_spec h1
      refine ⟨z, a1, a2, fun m z' hm hz => ?_⟩
      cases m with
      | zero =>
        cases hz
        exact Bool.eq_false_iff.mpr e
      | succ m => exact a3 m z' (Nat.lt_of_succ_lt_succ hm) hz
theorem all_at {p : D → Bool} {ds : List D} (h : ds.all p = true) {i : Nat} {d : D} (e : ds[i]? = some d) : p d = true := List.all_eq_true.mp h d (List.mem_of_getElem? e)
def Mt.id : Mt → String
  | .index => "list.index"
  | .count => "list.count"
theorem on_mt (m : Mt) : MtR X m.id (rNm (mtD m)) := by
  intro pins s σ H x xs v us Q I rx rxs ⟨F, d, ds, r, sb, h1, h2, hb, n⟩
  unfold mtD at hb
  split at hb
  · rename_i ys e
    by_cases hc : (flatD e && ys.all flatD) = true
    · rw [if_pos hc] at hb
      obtain ⟨c1, c2⟩ := and_t hc
      obtain ⟨j, hj, hb⟩ := bnd hb
      cases hb
      obtain ⟨z, a1, a2, a3⟩ := ixOf_spec hj
      obtain ⟨y, rfl, h3⟩ := all1 h2
      obtain ⟨a, vs, e1, h1, r⟩ := h1
      obtain ⟨w, w1, w2⟩ := r.get a1
      refine mt_index pins s σ H x _ v us Q I rx rxs ⟨a, vs, y, j, w, e1, rfl, SqL.of h1, flatV_of h3 c1, flatAll_of r c2, w1, ?_, fun m z' hm hz => ?_, n.old sb (.int _)⟩
      · rw [eqV_of (Rp.vw (H := F) Sub.rfl w2) h3 (all_at c2 a1) c1]
        exact a2
      · obtain ⟨d', b1, b2⟩ := r.getV hz
        rw [eqV_of (Rp.vw (H := F) Sub.rfl b2) h3 (all_at c2 b1) c1]
        exact a3 m d' hm b1
    · rw [if_neg hc] at hb
      cases hb
  · obtain ⟨ns, q1, hb⟩ := bnd hb
    cases hb
    obtain ⟨y, rfl, h3⟩ := all1 h2
    obtain ⟨a, vs, e1, h1, r⟩ := h1
    rw [intsOf_map q1] at r
    have ev := r.ints
    subst ev
    exact mt_lcount pins s σ H x _ v us Q I rx rxs ⟨a, ns, _, e1, by rw [vw_int h3], SqL.of h1, n.old sb (.int _)⟩
  · cases hb
end
end Pv

namespace Pv
open PySem PySem.Spec L2
/-! ## each form, by the readings of its parts -/
section
variable {t : Tab} {Φ : Phi} {k : Nat} {c : Ctx} {X : Cx} {K : PySem.W.Frag} {F H F1 H1 : Hp} {ρ ρ1 ρ2 : Env} {σ : St}
theorem PostE.go {r : R} {Q : VK} (q : PostE K F H ρ σ r ρ2 Q) (s : Step F H (Own ρ σ) F1 H1 (Own ρ1 σ)) : PostE K F1 H1 ρ1 σ r ρ2 Q := fun v F2 H2 s2 g2 => q v F2 H2 (s.trans s2) g2
theorem s_con {e : Expr} {i : E} {v : V} {d : D} (hp : PE X e (tC v)) (hr : ∀ F, Rp F v d) (he : ∀ ρ, evE Φ i ρ = some (.v d, ρ)) : PE X e (tE Φ X.K i) := hp.imp fun σ H Q ⟨F, ρ, r, ρ1, g, ev, q⟩ => by
  rw [he] at ev
  cases ev
  exact post_d Step.refl g q (hr F)
theorem s_var {e : Expr} {j : Nat} (hp : PE X e (tVar j)) : PE X e (tE Φ X.K (.var j)) := hp.imp fun σ H Q ⟨F, ρ, r, ρ1, g, ev, q⟩ => by
  obtain ⟨r', hr, ev⟩ := bnd ev
  obtain ⟨v, hv⟩ := g.has j r' (getS_eq.mp hr)
  refine ⟨v, hv, ?_⟩
  have rep := g.at hr hv
  cases r' with
  | v d =>
    cases ev
    exact post_v Step.refl g q rfl rep
  | s ns =>
    cases ev
    exact post_v Step.refl g q rfl rep
  | l xs =>
    cases ev
    obtain ⟨a, us, e1, _⟩ := rep
    subst e1
    obtain ⟨F2, s2, g2, rp, _⟩ := g.freeze hr hv
    exact post_d s2 g2 q rp
theorem s_mv {e : Expr} {j : Nat} (hp : PE X e (tVar j)) : PE X e (tE Φ X.K (.mv j)) := hp.imp fun σ H Q ⟨F, ρ, r, ρ1, g, ev, q⟩ => by
  obtain ⟨r', hr, ev⟩ := bnd ev
  cases ev
  obtain ⟨v, hv⟩ := g.has j r (getS_eq.mp hr)
  exact ⟨v, hv, q v F H (Step.refl.weak fun a z => own_move g.len hr hv z) (g.move hr hv)⟩
theorem s_bin {op : Operator} {a b : E} {ea eb : Expr} {pos : Pos} (ha : PE X ea (tO Φ X.K a)) (hb : PE X eb (tO Φ X.K b)) : PE X (.BinOp ea op eb pos) (tE Φ X.K (.bin op a b)) :=
  (pe_op (on_bin op) ha hb).imp fun σ H Q ⟨F, ρ, r, ρ1, g, ev, q⟩ => by
    obtain ⟨⟨x, ρa⟩, e1, ev⟩ := bnd ev
    obtain ⟨⟨y, ρb⟩, e2, ev⟩ := bnd ev
    obtain ⟨d, e3, ev⟩ := bnd ev
    obtain ⟨e, e4, ev⟩ := bnd ev
    obtain ⟨r', e5, ev⟩ := bnd ev
    cases ev
    exact two_read g e1 e2 fun v w F2 H2 s2 g2 r1 r2 => ⟨F2, d, e, r, g2.sub, r1.vw g2 e3, r2.vw g2 e4, e5, NewR.of q s2 g2⟩
theorem s_neg {a : E} {ea : Expr} {pos : Pos} (ha : PE X ea (tO Φ X.K a)) : PE X (.UnaryOp .USub ea pos) (tE Φ X.K (.neg a)) :=
  (pe_un on_neg ha).imp fun σ H Q ⟨F, ρ, r, ρ1, g, ev, q⟩ => by
    obtain ⟨⟨x, ρa⟩, e1, ev⟩ := bnd ev
    obtain ⟨d, e3, ev⟩ := bnd ev
    obtain ⟨r', e5, ev⟩ := bnd ev
    cases ev
    exact ⟨F, ρ, x, _, g, e1, fun v F2 H2 s2 g2 r1 => ⟨F2, d, _, g2.sub, r1.vw g2 e3, by show (negD d).map R.v = _; rw [e5]; rfl, NewR.of q s2 g2⟩⟩
theorem behind_of {op : CmpOp} {e : Expr} (h : noSet e = true) : behindInMarks op e = false := by
  cases e <;> first | rfl | exact nomatch h
theorem COk.u65 (C : COk t Φ k c X) : X.A.units + 65 < cLine := by
  have := C.room.un
  omega
theorem s_cmp (C : COk t Φ k c X) {op : CmpOp} {a b : E} {ea eb : Expr} {pos : Pos} (hm : noSet eb = true) (ha : PE X ea (tO Φ X.K a)) (hb : PE X eb (tO Φ X.K b)) : PE X (.Compare ea [op] [eb] pos) (tE Φ X.K (.cmp op a b)) :=
  (pe_cmpR (on_cmp C.u65 op) ha hb (behind_of hm)).imp fun σ H Q ⟨F, ρ, r, ρ1, g, ev, q⟩ => by
    obtain ⟨⟨x, ρa⟩, e1, ev⟩ := bnd ev
    obtain ⟨⟨y, ρb⟩, e2, ev⟩ := bnd ev
    obtain ⟨d, e3, ev⟩ := bnd ev
    obtain ⟨e, e4, ev⟩ := bnd ev
    obtain ⟨r', e5, ev⟩ := bnd ev
    cases ev
    exact two_read g e1 e2 fun v w F2 H2 s2 g2 r1 r2 => ⟨F2, d, e, r', g2.sub, r1.vw g2 e3, r2.vw g2 e4, e5, post_d s2 g2 q (.bl _)⟩
theorem t_cmp (C : COk t Φ k c X) {op : CmpOp} {a b : E} {ea eb : Expr} {pos : Pos} (hm : noSet eb = true) (ha : PE X ea (tO Φ X.K a)) (hb : PE X eb (tO Φ X.K b)) : PT X (.Compare ea [op] [eb] pos) (tT Φ X.K (.tcmp op a b)) :=
  (pt_cmpR (on_cmp C.u65 op) ha hb (behind_of hm)).imp fun σ H Q ⟨F, ρ, r, ρ1, g, ev, q⟩ => by
    obtain ⟨⟨x, ρa⟩, e1, ev⟩ := bnd ev
    obtain ⟨⟨y, ρb⟩, e2, ev⟩ := bnd ev
    obtain ⟨d, e3, ev⟩ := bnd ev
    obtain ⟨e, e4, ev⟩ := bnd ev
    obtain ⟨r', e5, ev⟩ := bnd ev
    cases ev
    exact two_read g e1 e2 fun v w F2 H2 s2 g2 r1 r2 => ⟨F2, d, e, r, g2.sub, r1.vw g2 e3, r2.vw g2 e4, e5, r, rfl, q F2 H2 s2 g2⟩
theorem s_chain (C : COk t Φ k c X) {p p' : CmpOp} {a b d : E} {ea eb ed : Expr} {pos : Pos} (hm : noSet eb = true) (hm2 : noSet ed = true) (ha : PE X ea (tO Φ X.K a)) (hb : PE X eb (tO Φ X.K b)) (hd : PE X ed (tO Φ X.K d))
    (pe : PE X (.Compare ea [p, p'] [eb, ed] pos) (tChain (rC2 (cmpD p)) (rC2 (cmpD p')) (tO Φ X.K a) (tO Φ X.K b) (tO Φ X.K d))) : PE X (.Compare ea [p, p'] [eb, ed] pos) (tE Φ X.K (.chain p p' a b d)) :=
  pe.imp fun σ H Q ⟨F, ρ, r, ρ1, g, ev, q⟩ => by
    obtain ⟨⟨x, ρa⟩, e1, ev⟩ := bnd ev
    obtain ⟨⟨y, ρb⟩, e2, ev⟩ := bnd ev
    obtain ⟨dx, e3, ev⟩ := bnd ev
    obtain ⟨dy, e4, ev⟩ := bnd ev
    obtain ⟨r', e5, ev⟩ := bnd ev
    refine two_read g e1 e2 fun v w F2 H2 s2 g2 r1 r2 => ⟨F2, dx, dy, r', g2.sub, r1.vw g2 e3, r2.vw g2 e4, e5, r', rfl, ?_⟩
    cases r' with
    | false =>
      cases ev
      exact post_d s2 g2 q (.bl _)
    | true =>
      obtain ⟨⟨z, ρc⟩, e6, ev⟩ := bnd ev
      obtain ⟨ey, e7, ev⟩ := bnd ev
      obtain ⟨ez, e8, ev⟩ := bnd ev
      obtain ⟨r3, e9, ev⟩ := bnd ev
      cases ev
      show tO Φ X.K d σ H2 _
      exact ⟨F2, _, z, _, g2, e6, fun u F3 H3 s3 g3 r3' => ⟨F3, ey, ez, r3, g3.sub, (r2.mono s3.fz).vw g3 e7, r3'.vw g3 e8, e9, post_d (s2.trans s3) g3 q (.bl _)⟩⟩
theorem t_chain (C : COk t Φ k c X) {p p' : CmpOp} {a b d : E} {ea eb ed : Expr} {pos : Pos} (ha : PE X ea (tO Φ X.K a)) (hb : PE X eb (tO Φ X.K b)) (hd : PE X ed (tO Φ X.K d))
    (pt : PT X (.Compare ea [p, p'] [eb, ed] pos) (tTest (tChain (rC2 (cmpD p)) (rC2 (cmpD p')) (tO Φ X.K a) (tO Φ X.K b) (tO Φ X.K d)))) : PT X (.Compare ea [p, p'] [eb, ed] pos) (tT Φ X.K (.tchain p p' a b d)) :=
  pt.imp fun σ H Q ⟨F, ρ, r, ρ1, g, ev, q⟩ => by
    obtain ⟨⟨x, ρa⟩, e1, ev⟩ := bnd ev
    obtain ⟨⟨y, ρb⟩, e2, ev⟩ := bnd ev
    obtain ⟨dx, e3, ev⟩ := bnd ev
    obtain ⟨dy, e4, ev⟩ := bnd ev
    obtain ⟨r', e5, ev⟩ := bnd ev
    refine two_read g e1 e2 fun v w F2 H2 s2 g2 r1 r2 => ⟨F2, dx, dy, r', g2.sub, r1.vw g2 e3, r2.vw g2 e4, e5, r', rfl, ?_⟩
    cases r' with
    | false =>
      cases ev
      exact ⟨false, rfl, q _ _ s2 g2⟩
    | true =>
      obtain ⟨⟨z, ρc⟩, e6, ev⟩ := bnd ev
      obtain ⟨ey, e7, ev⟩ := bnd ev
      obtain ⟨ez, e8, ev⟩ := bnd ev
      obtain ⟨r3, e9, ev⟩ := bnd ev
      cases ev
      show tO Φ X.K d σ H2 _
      exact ⟨F2, _, z, _, g2, e6, fun u F3 H3 s3 g3 r3' => ⟨F3, ey, ez, r, g3.sub, (r2.mono s3.fz).vw g3 e7, r3'.vw g3 e8, e9, r, rfl, q _ _ (s2.trans s3) g3⟩⟩
theorem truR_of {K : PySem.W.Frag} {F H : Hp} {r : R} {v : V} {b : Bool} (s : Sub F H) (h : RepR K F H v r) (e : truR r = some b) : TruV K v H b := by
  obtain ⟨d, e1, e2⟩ := bnd e
  exact tru_of s (RepR.vws s h e1) e2
theorem top_rep {r : R} {v : V} (g : Good K F H (ρ ++ [some r]) (σ ++ [some v])) : RepR K F H v r := g.rep _ _ _ (hold_top (len1 g))
theorem s_or {a b : E} {x y : Expr} {rest : List Expr} {pos : Pos} (ha : PE X x (tE Φ X.K a)) (hb : PE X (.BoolOp .Or (y :: rest) pos) (tE Φ X.K b)) : PE X (.BoolOp .Or (x :: y :: rest) pos) (tE Φ X.K (.or_ a b)) :=
  (pe_orT ha hb).imp fun σ H Q ⟨F, ρ, r, ρ1, g, ev, q⟩ => by
    obtain ⟨⟨r', ρa⟩, e1, ev⟩ := bnd ev
    obtain ⟨b', e2, ev⟩ := bnd ev
    refine ⟨F, ρ, r', ρa, g, e1, fun v F2 H2 s2 g2 => ⟨b', truR_of g2.sub (top_rep g2) e2, ?_⟩⟩
    cases b' with
    | true =>
      cases ev
      exact q v F2 H2 s2 g2
    | false => exact ⟨F2, ρa, r, ρ1, g2.left (len1 g2), ev, q.go (s2.weak fun a z => own_left z)⟩
theorem s_and {a b : E} {x y : Expr} {rest : List Expr} {pos : Pos} (ha : PE X x (tE Φ X.K a)) (hb : PE X (.BoolOp .And (y :: rest) pos) (tE Φ X.K b)) : PE X (.BoolOp .And (x :: y :: rest) pos) (tE Φ X.K (.and_ a b)) :=
  (pe_andT ha hb).imp fun σ H Q ⟨F, ρ, r, ρ1, g, ev, q⟩ => by
    obtain ⟨⟨r', ρa⟩, e1, ev⟩ := bnd ev
    obtain ⟨b', e2, ev⟩ := bnd ev
    refine ⟨F, ρ, r', ρa, g, e1, fun v F2 H2 s2 g2 => ⟨b', truR_of g2.sub (top_rep g2) e2, ?_⟩⟩
    cases b' with
    | false =>
      cases ev
      exact q v F2 H2 s2 g2
    | true => exact ⟨F2, ρa, r, ρ1, g2.left (len1 g2), ev, q.go (s2.weak fun a z => own_left z)⟩
theorem s_not {a : E} {ea : Expr} {pos : Pos} (ha : PE X ea (tO Φ X.K a)) : PE X (.UnaryOp .Not ea pos) (tE Φ X.K (.not_ a)) :=
  (pe_notT ha).imp fun σ H Q ⟨F, ρ, r, ρ1, g, ev, q⟩ => by
    obtain ⟨⟨x, ρa⟩, e1, ev⟩ := bnd ev
    obtain ⟨d, e3, ev⟩ := bnd ev
    obtain ⟨b, e5, ev⟩ := bnd ev
    cases ev
    exact ⟨F, ρ, x, _, g, e1, fun v F2 H2 s2 g2 r1 => ⟨b, tru_of g2.sub (r1.vws g2 e3) e5, post_d s2 g2 q (.bl _)⟩⟩
theorem s_ife {d a b : E} {ed ea eb : Expr} {pos : Pos} (hd : PT X ed (tT Φ X.K d)) (ha : PE X ea (tE Φ X.K a)) (hb : PE X eb (tE Φ X.K b)) : PE X (.IfExp ed ea eb pos) (tE Φ X.K (.ife d a b)) :=
  (pe_ifExp hd ha hb).imp fun σ H Q ⟨F, ρ, r, ρ1, g, ev, q⟩ => by
    obtain ⟨⟨b', ρa⟩, e1, ev⟩ := bnd ev
    refine ⟨F, ρ, b', ρa, g, e1, fun F2 H2 s2 g2 => ?_⟩
    cases b' with
    | true => exact ⟨F2, ρa, r, ρ1, g2, ev, q.go s2⟩
    | false => exact ⟨F2, ρa, r, ρ1, g2, ev, q.go s2⟩
theorem s_tup {a : E} {es : List Expr} {x1 : Nat} {pos : Pos} (ha : PA X es (tF Φ X.K a)) : PE X (.Tuple es x1 pos) (tE Φ X.K (.tup a)) :=
  (pe_tup ha).imp fun σ H Q ⟨F, ρ, r, ρ1, g, ev, q⟩ => by
    obtain ⟨⟨ds, ρa⟩, e1, ev⟩ := bnd ev
    obtain ⟨hz, ev⟩ := ite_some ev
    cases ev
    exact ⟨F, ρ, ds, _, g, e1, fun vs F2 H2 s2 g2 r2 => ⟨by rw [r2.len]; exact okN_le hz, fun p hp => post_t s2 g2 q r2 p hp⟩⟩
theorem s_lst {a : E} {es : List Expr} {pos : Pos} (ha : PA X es (tF Φ X.K a)) : PE X (.List es pos) (tE Φ X.K (.lst a)) :=
  (pe_lst ha).imp fun σ H Q ⟨F, ρ, r, ρ1, g, ev, q⟩ => by
    obtain ⟨⟨ds, ρa⟩, e1, ev⟩ := bnd ev
    obtain ⟨hz, ev⟩ := ite_some ev
    cases ev
    exact ⟨F, ρ, ds, _, g, e1, fun vs F2 H2 s2 g2 r2 => ⟨by rw [r2.len]; exact okN_le hz, fun p hp => post_l s2 g2 q r2 p hp⟩⟩
theorem plainIx_of {b : Expr} (h : plainIx b = true) : PlainIx b := by
  cases b with
  | Constant v k pos =>
    cases v <;> first | (exfalso; simp [plainIx] at h; done) | exact fun _ _ => rfl
  | _ => first | (exfalso; simp [plainIx] at h; done) | exact fun _ _ => rfl
theorem s_idx {a b : E} {ea eb : Expr} {pos : Pos} (hp : plainIx eb = true) (ha : PE X ea (tO Φ X.K a)) (hb : PE X eb (tO Φ X.K b)) : PE X (.Subscript ea eb pos) (tE Φ X.K (.idx a b)) :=
  (pe_ix on_ix ha hb (plainIx_of hp)).imp fun σ H Q ⟨F, ρ, r, ρ1, g, ev, q⟩ => by
    obtain ⟨⟨x, ρa⟩, e1, ev⟩ := bnd ev
    obtain ⟨⟨y, ρb⟩, e2, ev⟩ := bnd ev
    obtain ⟨d, e3, ev⟩ := bnd ev
    obtain ⟨e, e4, ev⟩ := bnd ev
    obtain ⟨r', e5, ev⟩ := bnd ev
    cases ev
    exact two_read g e1 e2 fun v w F2 H2 s2 g2 r1 r2 => ⟨F2, d, e, .v r', g2.sub, r1.vws g2 e3, r2.vw g2 e4, by show (idxD d e).map R.v = _; rw [e5]; rfl, NewR.of q s2 g2⟩
theorem s_slc {a lo hi : E} {ea : Expr} {u v : Option Expr} {pos pos' : Pos} (ha : PE X ea (tO Φ X.K a)) (hl : PO X u (tBd Φ X.K lo)) (hh : PO X v (tBd Φ X.K hi)) : PE X (.Subscript ea (.Slice u v none pos') pos) (tE Φ X.K (.slc a lo hi)) :=
  (pe_slice on_sl ha hl hh).imp fun σ H Q ⟨F, ρ, r, ρ1, g, ev, q⟩ => by
    obtain ⟨⟨x, ρa⟩, e1, ev⟩ := bnd ev
    obtain ⟨⟨l, ρb⟩, e2, ev⟩ := bnd ev
    obtain ⟨⟨h, ρc⟩, e3, ev⟩ := bnd ev
    obtain ⟨d, e4, ev⟩ := bnd ev
    obtain ⟨r', e5, ev⟩ := bnd ev
    cases ev
    exact ⟨F, ρ, x, ρa, g, e1, fun v F2 H2 s2 g2 r1 => ⟨F2, ρa, l, ρb, g2, e2, fun F3 H3 s3 g3 => ⟨F3, ρb, h, _, g3, e3, fun F4 H4 s4 g4 =>
      ⟨F4, d, r, g4.sub, ((r1.mono s3.fz).mono s4.fz).vws g4 e4, e5, NewR.of q ((s2.trans s3).trans s4) g4⟩⟩⟩⟩
/-! ### truth -/
theorem plainTest_of {e : Expr} {env : PySem.Env} (h : plainTest e = true) : ∀ whole, isTrue e env whole = (do let v ← whole; standAt e.pos; holding [v] (truthy v)) := by
  cases e <;> first | (exfalso; simp [plainTest] at h; done) | exact fun _ => rfl
theorem t_tt {a : E} {ea : Expr} (hp : plainTest ea = true) (ha : PE X ea (tO Φ X.K a)) : PT X ea (tT Φ X.K (.tt a)) :=
  (pt_truth ha (plainTest_of hp)).imp fun σ H Q ⟨F, ρ, b, ρ1, g, ev, q⟩ => by
    obtain ⟨⟨x, ρa⟩, e1, ev⟩ := bnd ev
    obtain ⟨d, e3, ev⟩ := bnd ev
    obtain ⟨b, e5, ev⟩ := bnd ev
    cases ev
    exact ⟨F, ρ, x, _, g, e1, fun v F2 H2 s2 g2 r1 => ⟨_, tru_of g2.sub (r1.vws g2 e3) e5, q F2 H2 s2 g2⟩⟩
theorem t_and {a b : E} {x y : Expr} {rest : List Expr} {pos : Pos} (ha : PT X x (tT Φ X.K a)) (hb : PW X (.BoolOp .And (y :: rest) pos) (tT Φ X.K b)) : PW X (.BoolOp .And (x :: y :: rest) pos) (tT Φ X.K (.tand a b)) :=
  (pw_and ha hb).imp fun σ H Q ⟨F, ρ, b, ρ1, g, ev, q⟩ => by
    obtain ⟨⟨b', ρa⟩, e1, ev⟩ := bnd ev
    refine ⟨F, ρ, b', ρa, g, e1, fun F2 H2 s2 g2 => ?_⟩
    cases b' with
    | true => exact ⟨F2, ρa, b, ρ1, g2, ev, fun F3 H3 s3 g3 => q F3 H3 (s2.trans s3) g3⟩
    | false =>
      cases ev
      exact q F2 H2 s2 g2
theorem t_or {a b : E} {x y : Expr} {rest : List Expr} {pos : Pos} (ha : PT X x (tT Φ X.K a)) (hb : PW X (.BoolOp .Or (y :: rest) pos) (tT Φ X.K b)) : PW X (.BoolOp .Or (x :: y :: rest) pos) (tT Φ X.K (.tor a b)) :=
  (pw_or ha hb).imp fun σ H Q ⟨F, ρ, b, ρ1, g, ev, q⟩ => by
    obtain ⟨⟨b', ρa⟩, e1, ev⟩ := bnd ev
    refine ⟨F, ρ, b', ρa, g, e1, fun F2 H2 s2 g2 => ?_⟩
    cases b' with
    | false => exact ⟨F2, ρa, b, ρ1, g2, ev, fun F3 H3 s3 g3 => q F3 H3 (s2.trans s3) g3⟩
    | true =>
      cases ev
      exact q F2 H2 s2 g2
theorem t_not {a : E} {x : Expr} {pos : Pos} (ha : PT X x (tT Φ X.K a)) : PT X (.UnaryOp .Not x pos) (tT Φ X.K (.tnot a)) :=
  (pt_not ha).imp fun σ H Q ⟨F, ρ, b, ρ1, g, ev, q⟩ => by
    obtain ⟨⟨b', ρa⟩, e1, ev⟩ := bnd ev
    cases ev
    exact ⟨F, ρ, b', _, g, e1, fun F2 H2 s2 g2 => q F2 H2 s2 g2⟩
/-! ### lists of expressions -/
theorem star_of {e : Expr} (h : (!isStar e) = true) : isStar e = false := by simpa using h
theorem o_nil : PA X [] (tOs Φ X.K .nil) := pa_nil.imp fun σ H Q ⟨F, ρ, os, ρ1, g, ev, q⟩ => by
  cases ev
  exact q [] F H Step.refl g trivial
theorem o_cons {a b : E} {e : Expr} {es : List Expr} (hs : (!isStar e) = true) (ha : PE X e (tO Φ X.K a)) (hb : PA X es (tOs Φ X.K b)) : PA X (e :: es) (tOs Φ X.K (.cons a b)) :=
  (pa_cons ha hb (noStar_cons (star_of hs))).imp fun σ H Q ⟨F, ρ, os, ρ1, g, ev, q⟩ => by
    obtain ⟨⟨x, ρa⟩, e1, ev⟩ := bnd ev
    obtain ⟨⟨xs, ρb⟩, e2, ev⟩ := bnd ev
    cases ev
    exact ⟨F, ρ, x, ρa, g, e1, fun v F2 H2 s2 g2 r1 => ⟨F2, ρa, xs, _, g2, e2, fun vs F3 H3 s3 g3 r3 => q (v :: vs) F3 H3 (s2.trans s3) g3 ⟨r1.mono s3.fz, r3⟩⟩⟩
theorem f_nil : PA X [] (tF Φ X.K .nil) := pa_nil.imp fun σ H Q ⟨F, ρ, os, ρ1, g, ev, q⟩ => by
  cases ev
  exact q [] F H Step.refl g .nil
theorem f_cons {a b : E} {e : Expr} {es : List Expr} (hs : (!isStar e) = true) (ha : PE X e (tE Φ X.K a)) (hb : PA X es (tF Φ X.K b)) : PA X (e :: es) (tF Φ X.K (.cons a b)) :=
  (pa_cons ha hb (noStar_cons (star_of hs))).imp fun σ H Q ⟨F, ρ, os, ρ1, g, ev, q⟩ => by
    obtain ⟨⟨r, ρa⟩, e1, ev⟩ := bnd ev
    obtain ⟨d, e2, ev⟩ := bnd ev
    obtain ⟨⟨xs, ρb⟩, e3, ev⟩ := bnd ev
    cases ev
    exact s_frz g e1 e2 fun v F2 H2 s2 g2 r2 => ⟨F2, ρa, xs, _, g2, e3, fun vs F3 H3 s3 g3 r3 => q (v :: vs) F3 H3 (s2.trans s3) g3 (.cons (r2.mono s3.fz) r3)⟩
theorem l_nil : PA X [] (tL Φ X.K .nil) := pa_nil.imp fun σ H Q ⟨F, ρ, os, ρ1, g, ev, q⟩ => by
  cases ev
  refine q [] F H ?_ ?_ g.len trivial
  · show Step _ _ _ _ _ (Own (ρ ++ []) (σ ++ []))
    rw [List.append_nil, List.append_nil]
    exact Step.refl
  · show Good _ _ _ (ρ ++ []) (σ ++ [])
    rw [List.append_nil, List.append_nil]
    exact g
/-- one more argument ahead of the others -/
theorem l_step {b : E} {r : R} {o : Option Nat} {v : V} {as : List (R × Option Nat)} {F0 H0 : Hp} {ρ0 : Env} {Q : List V → Hp → Prop} (s : Step F0 H0 (Own ρ0 σ) F H (Own (ρ ++ [some r]) (σ ++ [some v]))) (g : Good K F H (ρ ++ [some r]) (σ ++ [some v]))
    (ho : ∀ i, o = some i → σ[i]? = some (some v)) (ev : evL Φ b ρ = some (as, ρ1))
    (q : ∀ vs F1 H1, Step F0 H0 (Own ρ0 σ) F1 H1 (Own (ρ1 ++ argE ((r, o) :: as)) (σ ++ vs.map some)) → Good K F1 H1 (ρ1 ++ argE ((r, o) :: as)) (σ ++ vs.map some) → ρ1.length = σ.length → Tags σ ((r, o) :: as) vs → Q vs H1) :
    tL Φ K b σ H fun vs H1 => Q (v :: vs) H1 := by
  have hl := len1 g
  refine ⟨F, ρ, as, ρ1, g.left hl, ev, fun vs F2 H2 s2 g2 hl2 tg => ?_⟩
  have ea : (argE as).length = (vs.map some).length := by
    have := g2.len
    simp only [List.length_append] at this
    omega
  have z := g.frame hl s2 g2
  have hl3 : (ρ1 ++ argE as).length = (σ ++ vs.map some).length := g2.len
  have re : ∀ (i : Nat) (q : R) (w : V), Hold (ρ1 ++ argE ((r, o) :: as)) (σ ++ (v :: vs).map some) i q w → Hold ((ρ1 ++ argE as) ++ [some r]) ((σ ++ vs.map some) ++ [some v]) (if i < ρ1.length then i else if i = ρ1.length then (ρ1 ++ argE as).length else i - 1) q w := fun i q w h => by
    by_cases hi : i < ρ1.length
    · rw [if_pos hi]
      exact hold_app (hold_app ((hold_left hl2 hi).mp h))
    · have h := (hold_right hl2 (by omega)).mp h
      rw [if_neg hi]
      by_cases e : i = ρ1.length
      · rw [if_pos e]
        rw [e, Nat.sub_self] at h
        obtain ⟨h1, h2⟩ := h
        cases h1
        cases h2
        exact hold_top hl3
      · rw [if_neg e]
        obtain ⟨j, hj⟩ : ∃ j, i - ρ1.length = j + 1 := ⟨i - ρ1.length - 1, by omega⟩
        rw [hj] at h
        obtain ⟨h1, h2⟩ := h
        refine hold_app ((hold_right hl2 (by omega)).mpr ?_)
        rw [show i - 1 - ρ1.length = j by omega]
        exact ⟨by simpa [argE] using h1, by simpa using h2⟩
  refine q (v :: vs) F2 H2 ?_ ?_ hl2 ⟨ho, tg⟩
  · refine (s.trans (s2.app (τ := [some r]) (υ := [some v]) hl hl3)).weak fun a z => ?_
    exact Own.map _ re z
  · refine z.map (by simp only [argE, List.length_append, List.length_map, List.length_cons] at hl3 ea ⊢; omega) (fun i q h => ?_) _ re (fun i j q q' a h1 h2 o1 o2 e => ?_)
    · by_cases hi : i < ρ1.length
      · rw [List.getElem?_append_left hi] at h
        obtain ⟨w, e⟩ := (g2.left hl2).has i q h
        exact ⟨w, by rw [List.getElem?_append_left (by omega)]; exact e⟩
      · rw [List.getElem?_append_right (by omega)] at h
        rw [List.getElem?_append_right (by omega), ← hl2]
        cases e : i - ρ1.length with
        | zero => exact ⟨v, rfl⟩
        | succ j =>
          rw [e] at h
          obtain ⟨w, e2⟩ := (g2.right hl2 ea).has j q (by simpa [argE] using h)
          exact ⟨w, by simpa using e2⟩
    · have l1 := hold_lt h1
      have l2 := hold_lt h2
      simp only [argE, List.length_append, List.length_map, List.length_cons] at l1 l2 e
      (repeat' split at e) <;> omega
theorem l_cons {a b : E} {e : Expr} {es : List Expr} (hs : (!isStar e) = true) (ha : PE X e (tE Φ X.K a)) (hv : ∀ j, a = .var j → PE X e (tVar j)) (hb : PA X es (tL Φ X.K b)) : PA X (e :: es) (tL Φ X.K (.cons a b)) := by
  by_cases hi : ∃ j, a = .var j
  · obtain ⟨j, rfl⟩ := hi
    refine (pa_cons (hv j rfl) hb (noStar_cons (star_of hs))).imp fun σ H Q ⟨F, ρ, as0, ρ1, g, ev, q⟩ => ?_
    obtain ⟨r0, hr0, ev⟩ := bnd ev
    obtain ⟨⟨as, ρa⟩, e2, ev⟩ := bnd ev
    obtain ⟨r, hr, ev⟩ := bnd ev
    obtain ⟨v, hv'⟩ := g.has j r0 (getS_eq.mp hr0)
    refine ⟨v, hv', F, ρ, as, ρa, g, e2, fun vs F2 H2 s2 g2 hl2 tg => ?_⟩
    have ea : (argE as).length = (vs.map some).length := by
      have := g2.len
      simp only [List.length_append] at this
      omega
    have hj : Hold ρa σ j r v := ⟨getS_eq.mp hr, hv'⟩
    have jl := hold_lt hj
    -- the slots behind the call's look-up
    have key : ∀ (ρb : Env) (o : Option Nat), ρb.length = ρa.length → (∀ (i : Nat) (q : R), ρb[i]? = some (some q) → ρa[i]? = some (some q)) → (∀ i q w, Hold ρb σ i q w → Hold ρa σ i q w) → (∀ i q w, Hold ρb σ i q w → r.own = true → i ≠ j) → (∀ i, o = some i → σ[i]? = some (some v)) → as0 = (r, o) :: as → ρ1 = ρb → Q (v :: vs) H2 := by
      intro ρb o hlb hget hsub hne ho eas er
      subst eas er
      have hl3 : ρ1.length = σ.length := hlb.trans hl2
      have re : ∀ (i : Nat) (q : R) (w : V), Hold (ρ1 ++ argE ((r, o) :: as)) (σ ++ (v :: vs).map some) i q w → Hold (ρa ++ argE as) (σ ++ vs.map some) (if i < ρ1.length then i else if i = ρ1.length then j else i - 1) q w := fun i q w h => by
        by_cases hi : i < ρ1.length
        · rw [if_pos hi]
          exact hold_app (hsub i q w ((hold_left hl3 hi).mp h))
        · have h := (hold_right hl3 (by omega)).mp h
          rw [if_neg hi]
          by_cases e : i = ρ1.length
          · rw [if_pos e]
            rw [e, Nat.sub_self] at h
            obtain ⟨h1, h2⟩ := h
            cases h1
            cases h2
            exact hold_app hj
          · rw [if_neg e]
            obtain ⟨m, hm⟩ : ∃ m, i - ρ1.length = m + 1 := ⟨i - ρ1.length - 1, by omega⟩
            rw [hm] at h
            obtain ⟨h1, h2⟩ := h
            refine (hold_right hl2 (by omega)).mpr ?_
            rw [show i - 1 - ρa.length = m by omega]
            exact ⟨by simpa [argE] using h1, by simpa using h2⟩
      refine q (v :: vs) F2 H2 (s2.weak fun a z => Own.map _ re z) ?_ hl3 ⟨ho, tg⟩
      refine g2.map (by simp only [argE, List.length_append, List.length_map, List.length_cons] at ea ⊢; omega) (fun i q h => ?_) _ re (fun i m q q' a h1 h2 o1 o2 e => ?_)
      · by_cases hi : i < ρ1.length
        · rw [List.getElem?_append_left hi] at h
          rw [List.getElem?_append_left (by omega)]
          have hx := (g2.left hl2).has i q (hget i q h)
          exact hx
        · rw [List.getElem?_append_right (by omega)] at h
          rw [List.getElem?_append_right (by omega), ← hl3]
          cases e : i - ρ1.length with
          | zero => exact ⟨v, rfl⟩
          | succ m =>
            rw [e] at h
            obtain ⟨w, e2⟩ := (g2.right hl2 ea).has m q (by simpa [argE] using h)
            exact ⟨w, by simpa using e2⟩
      · have l1 := hold_lt h1
        have l2 := hold_lt h2
        by_cases c1 : i < ρ1.length <;> by_cases c2 : m < ρ1.length
        · rw [if_pos c1, if_pos c2] at e
          exact e
        · rw [if_pos c1, if_neg c2] at e
          by_cases d2 : m = ρ1.length
          · rw [if_pos d2] at e
            have h3 := (hold_left hl3 c1).mp h1
            have h4 := (hold_right hl3 (by omega)).mp h2
            rw [d2, Nat.sub_self] at h4
            obtain ⟨h5, _⟩ := h4
            cases h5
            exact absurd e (hne i _ _ h3 o2)
          · rw [if_neg d2] at e
            omega
        · rw [if_neg c1, if_pos c2] at e
          by_cases d1 : i = ρ1.length
          · rw [if_pos d1] at e
            have h3 := (hold_left hl3 c2).mp h2
            have h4 := (hold_right hl3 (by omega)).mp h1
            rw [d1, Nat.sub_self] at h4
            obtain ⟨h5, _⟩ := h4
            cases h5
            exact absurd e.symm (hne m _ _ h3 o1)
          · rw [if_neg d1] at e
            omega
        · rw [if_neg c1, if_neg c2] at e
          by_cases d1 : i = ρ1.length <;> by_cases d2 : m = ρ1.length
          · omega
          · rw [if_pos d1, if_neg d2] at e
            omega
          · rw [if_neg d1, if_pos d2] at e
            omega
          · rw [if_neg d1, if_neg d2] at e
            omega
    by_cases ho : r.own = true
    · have ev : (if r.own = true then some ((r, some j) :: as, setS ρa j none) else some ((r, none) :: as, ρa)) = some (as0, ρ1) := ev
      rw [if_pos ho] at ev
      cases ev
      exact key (setS ρa j none) (some j) (setS_len _ _ _) (fun i q h => by
        rw [setS_eq] at h
        by_cases z : j = i
        · subst z
          rw [List.getElem?_set_self jl] at h
          cases h
        · rw [List.getElem?_set_ne z] at h
          exact h) (fun i q w h => (hold_setN h).2) (fun i q w h _ => (hold_setN h).1) (fun i e => by cases e; exact hv') rfl rfl
    · have ev : (if r.own = true then some ((r, some j) :: as, setS ρa j none) else some ((r, none) :: as, ρa)) = some (as0, ρ1) := ev
      rw [if_neg ho] at ev
      cases ev
      exact key _ none rfl (fun i q h => h) (fun i q w h => h) (fun i q w _ z => absurd z ho) (fun i e => nomatch e) rfl rfl
  · refine (pa_cons ha hb (noStar_cons (star_of hs))).imp fun σ H Q ⟨F, ρ, os, ρ1, g, ev, q⟩ => ?_
    have eL : evL Φ (.cons a b) ρ = (evE Φ a ρ).bind fun (r, ρ1) => (evL Φ b ρ1).bind fun (as, ρ2) => some ((r, (none : Option Nat)) :: as, ρ2) := by
      cases a <;> first | rfl | exact absurd ⟨_, rfl⟩ hi
    rw [eL] at ev
    obtain ⟨⟨r, ρa⟩, e1, ev⟩ := bnd ev
    obtain ⟨⟨xs, ρb⟩, e2, ev⟩ := bnd ev
    cases ev
    exact ⟨F, ρ, r, ρa, g, e1, fun v F2 H2 s2 g2 => l_step (o := none) s2 g2 (fun i e => nomatch e) e2 q⟩
theorem b_nob : PO X none (tBd Φ X.K .nob) := po_none.imp fun σ H Q ⟨F, ρ, o, ρ1, g, ev, q⟩ => by
  cases ev
  exact q F H Step.refl g
theorem b_it {a : E} {e : Expr} (ha : PE X e (tO Φ X.K a)) : PO X (some e) (tBd Φ X.K (.it a)) := (po_some ha).imp fun σ H Q ⟨F, ρ, o, ρ1, g, ev, q⟩ => by
  obtain ⟨⟨x, ρa⟩, e1, ev⟩ := bnd ev
  obtain ⟨d, e2, ev⟩ := bnd ev
  cases d with
  | int i =>
    cases ev
    exact ⟨F, ρ, x, _, g, e1, fun v F2 H2 s2 g2 r1 => ⟨i, vw_int (r1.vw g2 e2), q F2 H2 s2 g2⟩⟩
  | _ => cases ev
end
end Pv

namespace Pv
open PySem PySem.Spec L2
/-! ## calls -/
section
variable {K : PySem.W.Frag} {F H F1 H1 : Hp} {ρ ρ1 τ : Env} {σ σ1 υ : St}
theorem hold_comm {i : Nat} {r : R} {v : V} (hl : ρ.length = σ.length) (hl2 : τ.length = υ.length) (h : Hold (τ ++ ρ) (υ ++ σ) i r v) : Hold (ρ ++ τ) (σ ++ υ) (if i < τ.length then ρ.length + i else i - τ.length) r v := by
  by_cases hi : i < τ.length
  · rw [if_pos hi]
    exact (hold_right hl (by omega)).mpr (by rw [Nat.add_sub_cancel_left]; exact (hold_left hl2 hi).mp h)
  · rw [if_neg hi]
    exact hold_app ((hold_right hl2 (by omega)).mp h)
theorem Good.comm (g : Good K F H (ρ ++ τ) (σ ++ υ)) (hl : ρ.length = σ.length) : Good K F H (τ ++ ρ) (υ ++ σ) := by
  have hl2 : τ.length = υ.length := by
    have := g.len
    simp only [List.length_append] at this
    omega
  refine g.map (by simp only [List.length_append]; omega) (fun i r h => ?_) _ (fun i r v h => hold_comm hl hl2 h) (fun i j r q a h1 h2 _ _ e => ?_)
  · by_cases hi : i < τ.length
    · rw [List.getElem?_append_left hi] at h
      obtain ⟨v, e⟩ := (g.right hl hl2).has i r h
      exact ⟨v, by rw [List.getElem?_append_left (by omega)]; exact e⟩
    · rw [List.getElem?_append_right (by omega)] at h
      obtain ⟨v, e⟩ := (g.left hl).has _ r h
      exact ⟨v, by rw [List.getElem?_append_right (by omega), ← hl2]; exact e⟩
  · have l1 := hold_lt h1
    have l2 := hold_lt h2
    simp only [List.length_append] at l1 l2
    (repeat' split at e) <;> omega
theorem own_comm {a : Addr} (hl : ρ.length = σ.length) (hl2 : τ.length = υ.length) : Own (τ ++ ρ) (υ ++ σ) a → Own (ρ ++ τ) (σ ++ υ) a := Own.map _ fun i r v h => hold_comm hl hl2 h
/-- one between left out -/
theorem hold_mid {x : Option R} {y : Option V} {i : Nat} {r : R} {v : V} (hl : ρ.length = σ.length) (h : Hold (ρ ++ τ) (σ ++ υ) i r v) : Hold (ρ ++ (x :: τ)) (σ ++ (y :: υ)) (if i < ρ.length then i else i + 1) r v := by
  by_cases hi : i < ρ.length
  · rw [if_pos hi]
    exact hold_app ((hold_left hl hi).mp h)
  · rw [if_neg hi]
    have h := (hold_right hl (by omega)).mp h
    refine (hold_right hl (by omega)).mpr ?_
    rw [show i + 1 - ρ.length = (i - ρ.length) + 1 by omega]
    exact h
theorem Good.midOut {x : Option R} {y : Option V} (g : Good K F H (ρ ++ (x :: τ)) (σ ++ (y :: υ))) (hl : ρ.length = σ.length) : Good K F H (ρ ++ τ) (σ ++ υ) := by
  have hl2 : τ.length = υ.length := by
    have := g.len
    simp only [List.length_append, List.length_cons] at this
    omega
  refine g.map (by simp only [List.length_append]; omega) (fun i r h => ?_) _ (fun i r v h => hold_mid hl h) (fun i j r q a h1 h2 _ _ e => by (repeat' split at e) <;> omega)
  by_cases hi : i < ρ.length
  · rw [List.getElem?_append_left hi] at h
    obtain ⟨v, e⟩ := (g.left hl).has i r h
    exact ⟨v, by rw [List.getElem?_append_left (by omega)]; exact e⟩
  · rw [List.getElem?_append_right (by omega)] at h
    obtain ⟨v, e⟩ := (g.right hl (by simp only [List.length_cons]; omega)).has (i - ρ.length + 1) r (by simpa using h)
    exact ⟨v, by rw [List.getElem?_append_right (by omega), ← hl]; simpa using e⟩
theorem hold_put {r : R} {v : V} {i j : Nat} {q : R} {w : V} (hl : ρ.length = σ.length) (hi : i < ρ.length) (hv : σ[i]? = some (some v)) (h : Hold (setS ρ i (some r) ++ τ) (σ ++ υ) j q w) :
    Hold (ρ ++ (some r :: τ)) (σ ++ (some v :: υ)) (if j = i then ρ.length else if j < ρ.length then j else j + 1) q w := by
  have hl' : (setS ρ i (some r)).length = σ.length := by rw [setS_len]; exact hl
  by_cases hj : j < ρ.length
  · have h := (hold_left hl' (by rw [setS_len]; exact hj)).mp h
    rcases hold_setR h with ⟨rfl, rfl, e⟩ | ⟨ne, e⟩
    · rw [if_pos rfl]
      rw [hv] at e
      cases e
      exact (hold_right hl (Nat.le_refl _)).mpr (by rw [Nat.sub_self]; exact ⟨rfl, rfl⟩)
    · rw [if_neg ne, if_pos hj]
      exact hold_app e
  · have h := (hold_right hl' (by rw [setS_len]; omega)).mp h
    rw [if_neg (by omega), if_neg hj]
    refine (hold_right hl (by omega)).mpr ?_
    rw [setS_len] at h
    rw [show j + 1 - ρ.length = (j - ρ.length) + 1 by omega]
    exact h
theorem Good.midPut {r : R} {v : V} {i : Nat} (g : Good K F H (ρ ++ (some r :: τ)) (σ ++ (some v :: υ))) (hl : ρ.length = σ.length) (hv : σ[i]? = some (some v)) : Good K F H (setS ρ i (some r) ++ τ) (σ ++ υ) := by
  have hi : i < ρ.length := by
    have := (List.getElem?_eq_some_iff.mp hv).1
    omega
  have g' := g.midOut hl
  have hl' : (setS ρ i (some r)).length = σ.length := by rw [setS_len]; exact hl
  refine g.map (by have := g'.len; simp only [List.length_append, setS_len] at this ⊢; omega) (fun j q h => ?_) _ (fun j q w h => hold_put hl hi hv h) (fun a b q q' ad h1 h2 _ _ e => by (repeat' split at e) <;> omega)
  by_cases hj : j < ρ.length
  · rw [List.getElem?_append_left (by omega)] at h
    rw [List.getElem?_append_left (by omega)]
    rw [setS_eq] at h
    by_cases e : i = j
    · subst e
      exact ⟨v, hv⟩
    · rw [List.getElem?_set_ne e] at h
      exact (g.left hl).has j q h
  · rw [List.getElem?_append_right (by omega), setS_len] at h
    obtain ⟨w, e⟩ := g'.has j q (by rw [List.getElem?_append_right (by omega)]; exact h)
    exact ⟨w, e⟩
theorem wb_good : ∀ (as : List (R × Option Nat)) (outs : List R) (vs : List V) (ρ : Env), Tags σ as vs → outs.length = as.length → ρ.length = σ.length → Good K F H (ρ ++ (outs.map some ++ τ)) (σ ++ (vs.map some ++ υ)) →
    Good K F H (wb ρ as outs ++ τ) (σ ++ υ) ∧ (∀ a, Own (wb ρ as outs ++ τ) (σ ++ υ) a → Own (ρ ++ (outs.map some ++ τ)) (σ ++ (vs.map some ++ υ)) a) ∧ (wb ρ as outs).length = ρ.length
  | [], [], [], ρ, _, _, _, g => ⟨g, fun _ h => h, rfl⟩
  | (_, some i) :: as, r :: rs, v :: vs, ρ, tg, hl, hs, g => by
    have hv := tg.1 i rfl
    have hi : i < ρ.length := by
      have := (List.getElem?_eq_some_iff.mp hv).1
      omega
    obtain ⟨g1, o1, l1⟩ := wb_good as rs vs (setS ρ i (some r)) tg.2 (by simpa using hl) (by rw [setS_len]; exact hs) (Good.midPut (r := r) (v := v) g hs hv)
    exact ⟨g1, fun a h => Own.map _ (fun j q w h => hold_put hs hi hv h) (o1 a h), by rw [← setS_len ρ i (some r)]; exact l1⟩
  | (_, none) :: as, r :: rs, v :: vs, ρ, tg, hl, hs, g => by
    obtain ⟨g1, o1, l1⟩ := wb_good as rs vs ρ tg.2 (by simpa using hl) hs (Good.midOut g hs)
    exact ⟨g1, fun a h => Own.map _ (fun j q w h => hold_mid hs h) (o1 a h), l1⟩
  | [], [], _ :: _, _, tg, _, _, _ => tg.elim
  | _ :: _, _, [], _, tg, _, _, _ => by
    unfold Tags at tg
    exact tg.elim
  | [], _ :: _, _, _, _, hl, _, _ => by simp at hl
  | _ :: _, [], _, _, _, hl, _, _ => by simp at hl
end
theorem noStar_any {pos : Pos} {env : PySem.Env} : ∀ {es : List Expr}, noStar es = true → (backTo pos (starEach es env)).any (·.1) = false
  | [], _ => rfl
  | e :: es, h => by
    unfold noStar at h
    rw [List.all_cons] at h
    obtain ⟨h1, h2⟩ := and_t h
    rw [noStar_cons (star_of h1)]
    show (false || (backTo pos (starEach es env)).any (·.1)) = false
    rw [noStar_any (es := es) h2]
    rfl
section
variable {t : Tab} {Φ : Phi} {k : Nat} {c : Ctx} {X : Cx} {K : PySem.W.Frag} {F H F1 H1 : Hp} {ρ ρ1 ρ2 : Env} {σ : St}
theorem s_call (C : COk t Φ k c X) {f x : Str} {a : E} {e : Expr} {es : List Expr} {p pos : Pos} (hx : x = f) (hg : gloB c x = true) (hf : (t.fns.any fun q => sEq q.1 x && decide (q.2 = (e :: es).length)) = true)
    (hs : noStar (e :: es) = true) (ha : PA X (e :: es) (tL Φ X.K a)) : PE X (.Call (.Name x p) (e :: es) [] pos) (tE Φ X.K (.call f a)) := by
  subst hx
  obtain ⟨q, hq, e1⟩ := List.any_eq_true.mp hf
  obtain ⟨e1, e2⟩ := and_t e1
  obtain ⟨ad, fd, ps, hl, hm, hk, hb, hF⟩ := C.fns q hq
  rw [sEq_t e1] at hm hF
  obtain ⟨g1, g2⟩ := C.glob hg
  have hs' := hs
  unfold noStar at hs'
  rw [List.all_cons] at hs'
  obtain ⟨n1, n2⟩ := and_t hs'
  refine (pe_call hF C.room g1 hm hk hb .nil (fun _ _ _ _ _ _ _ h => h.elim) ha g2 (noStar_cons (star_of n1)) (noStar_any n2) (E := fun _ _ _ => False)).imp fun σ H Q ⟨F, ρ, r, ρ1, g, ev, q⟩ => ?_
  obtain ⟨⟨as, ρa⟩, e3, ev⟩ := bnd ev
  obtain ⟨⟨r', outs⟩, e4, ev⟩ := bnd ev
  obtain ⟨hlen, ev⟩ := ite_some ev
  cases ev
  refine ⟨F, ρ, as, ρa, g, e3, fun vs F2 H2 s2 g2 hl2 tg => ?_⟩
  have hA : (argE as).length = (vs.map some).length := by
    have := g2.len
    simp only [List.length_append] at this
    omega
  have eA : argE as = (as.map (·.1)).map some := by simp [argE, List.map_map, Function.comp_def]
  have gA : Good X.K F2 H2 (argE as) (vs.map some) := g2.right hl2 hA
  refine ⟨F2, as.map (·.1), r, outs, ?_, e4, fun v F3 H3 s3 g3 => ?_⟩
  · rw [List.append_nil, ← eA]
    exact gA
  · rw [List.append_nil, ← eA] at s3
    rw [List.append_nil] at g3
    have gB := (g2.comm hl2).frame hA s3 g3
    have hO : (outs.map some ++ [some r]).length = (vs.map some ++ [some v]).length := g3.len
    have gC := gB.comm hO
    have sC : Step F2 H2 (Own (argE as ++ ρa) (vs.map some ++ σ)) F3 H3 (Own ((outs.map some ++ [some r]) ++ ρa) ((vs.map some ++ [some v]) ++ σ)) := s3.app hA hO
    obtain ⟨gD, oD, lD⟩ := wb_good as outs vs ρa tg hlen hl2 gC
    refine q v F3 H3 ?_ gD
    have sW : Step F2 H2 (Own (ρa ++ argE as) (σ ++ vs.map some)) F3 H3 (Own (wb ρa as outs ++ [some r]) (σ ++ [some v])) :=
      (sC.wide fun a z => own_comm hl2 hA z).weak fun a z => own_comm hO hl2 (oD a z)
    exact s2.trans sW
theorem boot_bi (b : Bi) : bootBuiltins b.nm = some b.val := by cases b <;> decide +kernel
theorem nm_ne (b : Bi) : b.nm ≠ "__name__" := by cases b <;> decide +kernel
theorem s_bi (C : COk t Φ k c X) {b : Bi} {x : Str} {a : E} {e : Expr} {es : List Expr} {p pos : Pos} (hx : x = b.nm) (hg : bltB t c x = true) (hs : noStar (e :: es) = true) (ha : PA X (e :: es) (tOs Φ X.K a)) (har : (e :: es).length = b.ar)
    (h1 : ∀ ρ os ρ1, evOs Φ a ρ = some (os, ρ1) → os.length = (e :: es).length) : PE X (.Call (.Name x p) (e :: es) [] pos) (tE Φ X.K (.bi b a)) := by
  subst hx
  have one : ∀ {σ : St} {vs : List V} {os : List Op} {F : Hp}, os.length = 1 → ROs F σ vs os → ∃ v o, vs = [v] ∧ os = [o] := fun {σ vs os F} hl h => by
    cases os with
    | nil => cases hl
    | cons o os =>
      cases os with
      | cons _ _ => cases hl
      | nil =>
        cases vs with
        | nil => exact h.elim
        | cons v vs =>
          cases vs with
          | nil => exact ⟨v, o, rfl, rfl⟩
          | cons _ _ => exact h.2.elim
  obtain ⟨g1, g2, g3⟩ := C.blt hg
  have hs' := hs
  unfold noStar at hs'
  rw [List.all_cons] at hs'
  obtain ⟨n1, n2⟩ := and_t hs'
  have star := noStar_cons (es := es) (env := X.env) (star_of n1)
  have ns := noStar_any (pos := pos) (env := X.env) n2
  have go : ∀ {r : List V → Hp → VK → Prop}, CallR X b.val r → PE X (.Call (.Name b.nm p) (e :: es) [] pos) (tCB r (tOs Φ X.K a)) := fun {r} hr => by
    have hv := boot_bi b
    have hn := nm_ne b
    cases b <;> first
      | exact pe_callB hr g1 g3 hv ha hn g2 star ns
      | exact pe_callTy hr g1 g3 hv ha hn g2 star ns
  by_cases hb : b = .len
  · subst hb
    refine (go on_len).imp fun σ H Q ⟨F, ρ, r, ρ1, g, ev, q⟩ => ?_
    obtain ⟨⟨os, ρa⟩, e3, ev⟩ := bnd ev
    refine ⟨F, ρ, os, ρa, g, e3, fun vs F2 H2 s2 g2 ro => ?_⟩
    obtain ⟨v, o, rfl, rfl⟩ := one ((h1 _ _ _ e3).trans har) ro
    obtain ⟨d, e4, ev⟩ := bnd ev
    obtain ⟨r', e5, ev⟩ := bnd ev
    cases ev
    exact ⟨F2, v, d, r, rfl, g2.sub, ro.1.vws g2 e4, e5, NewR.of q s2 g2⟩
  by_cases hb2 : b = .list
  · subst hb2
    refine (go on_list).imp fun σ H Q ⟨F, ρ, r, ρ1, g, ev, q⟩ => ?_
    obtain ⟨⟨os, ρa⟩, e3, ev⟩ := bnd ev
    refine ⟨F, ρ, os, ρa, g, e3, fun vs F2 H2 s2 g2 ro => ?_⟩
    obtain ⟨v, o, rfl, rfl⟩ := one ((h1 _ _ _ e3).trans har) ro
    obtain ⟨d, e4, ev⟩ := bnd ev
    obtain ⟨r', e5, ev⟩ := bnd ev
    cases ev
    exact ⟨F2, v, d, r, rfl, g2.sub, ro.1.vws g2 e4, e5, NewR.of q s2 g2⟩
  refine (go (on_bi C.calm b hb hb2)).imp fun σ H Q ⟨F, ρ, r, ρ1, g, ev, q⟩ => ?_
  obtain ⟨⟨os, ρa⟩, e3, ev⟩ := bnd ev
  refine ⟨F, ρ, os, ρa, g, e3, fun vs F2 H2 s2 g2 ro => ?_⟩
  have ev : ((derAll ρa os).bind fun ds => (biD b ds).bind fun r => some (r, ρa)) = some (r, ρ1) := by
    cases b <;> first | exact absurd rfl hb | exact absurd rfl hb2 | exact ev
  obtain ⟨ds, e4, ev⟩ := bnd ev
  obtain ⟨r', e5, ev⟩ := bnd ev
  cases ev
  exact ⟨F2, ds, r, g2.sub, ro.vw g2 e4, e5, NewR.of q s2 g2⟩
/-! ### isinstance -/
theorem boot_ty (y : Ty) : bootBuiltins y.nm = some (.type y.id) := by cases y <;> decide +kernel
theorem tyname_ne (y : Ty) : y.nm ≠ "__name__" := by cases y <;> decide +kernel
theorem s_ty (C : COk t Φ k c X) {y : Ty} {e : Expr} (h : chkTy t c y e = true) : PE X e (tC (.ty y.id)) ∧ isStar e = false := by
  cases e with
  | Name x pos =>
    obtain ⟨h1, h2⟩ := and_t h
    have hx := sEq_t h1
    subst hx
    obtain ⟨g1, g2, g3⟩ := C.blt h2
    exact ⟨pe_bltn g1 g3 (boot_ty y) rfl (tyname_ne y) g2, rfl⟩
  | _ => cases h
def tTys (ts : List Ty) : TA := fun _ H Q => Q (ts.map fun y => V.ty y.id) H
theorem a_tys (C : COk t Φ k c X) : ∀ {ts : List Ty} {es : List Expr}, chkTys t c ts es = true → PA X es (tTys ts)
  | [], [], _ => pa_nil.imp fun σ H Q h => h
  | y :: ts, e :: es, h => by
    obtain ⟨h1, h2⟩ := and_t h
    obtain ⟨p, st⟩ := s_ty C h1
    exact (pa_cons p (a_tys C h2) (noStar_cons st)).imp fun σ H Q h => h
  | [], _ :: _, h => by cases h
  | _ :: _, [], h => by cases h
theorem cls_all : ∀ ts : List Ty, Paired ClsV (ts.map fun y => V.ty y.id) (ts.map fun y => Value.type y.id)
  | [] => .nil
  | y :: ts => .cons (.ty _) (cls_all ts)
theorem tys_few : ∀ {ts : List Ty} {es : List Expr}, chkTys t c ts es = true → ts.length = es.length
  | [], [], _ => rfl
  | _ :: _, _ :: _, h => congrArg (· + 1) (tys_few (and_t h).2)
  | [], _ :: _, h => by cases h
  | _ :: _, [], h => by cases h
theorem boot_isi : bootBuiltins ("isinstance" : Str) = some (.builtin "isinstance") := by decide +kernel
theorem isi_ne : ("isinstance" : Str) ≠ "__name__" := by decide +kernel
theorem s_isi1 (C : COk t Φ k c X) {y : Ty} {x : Str} {a : E} {e f : Expr} {p pos : Pos} (hx : x = "isinstance") (hg : bltB t c x = true) (hs : (!isStar e) = true) (hy : chkTy t c y f = true) (ha : PE X e (tO Φ X.K a)) :
    PE X (.Call (.Name x p) [e, f] [] pos) (tE Φ X.K (.isi a [y])) := by
  subst hx
  obtain ⟨g1, g2, g3⟩ := C.blt hg
  obtain ⟨pf, sf⟩ := s_ty C hy
  refine (pe_callB call_isi g1 g3 boot_isi (pa_cons ha (pa_cons pf pa_nil (noStar_cons sf)) (noStar_cons (star_of hs))) isi_ne g2 (noStar_cons (star_of hs)) (by rw [noStar_cons sf]; rfl)).imp fun σ H Q ⟨F, ρ, r, ρ1, g, ev, q⟩ => ?_
  obtain ⟨⟨o, ρa⟩, e3, ev⟩ := bnd ev
  obtain ⟨d, e4, ev⟩ := bnd ev
  cases ev
  refine ⟨F, ρ, o, _, g, e3, fun v F2 H2 s2 g2 ro => ?_⟩
  refine ⟨v, .ty y.id, .type (tyId d), .type y.id, isiD d y, rfl, .ty _, tyX_of g2.sub (ro.vw g2 e4), kit_all d y, ?_⟩
  have e : [y].any (isiD d) = isiD d y := by simp
  rw [e] at q
  exact post_d s2 g2 q (.bl _)
theorem s_isiT (C : COk t Φ k c X) {ts : List Ty} {x : Str} {a : E} {e : Expr} {es : List Expr} {kk : Nat} {p pos pos' : Pos} (hx : x = "isinstance") (hg : bltB t c x = true) (hs : (!isStar e) = true) (hy : chkTys t c ts es = true) (hl : es.length ≤ 10)
    (ha : PE X e (tO Φ X.K a)) : PE X (.Call (.Name x p) [e, .Tuple es kk pos'] [] pos) (tE Φ X.K (.isi a ts)) := by
  subst hx
  obtain ⟨g1, g2, g3⟩ := C.blt hg
  refine (pe_callB call_isiT g1 g3 boot_isi (pa_cons ha (pa_cons (pe_tup (a_tys C hy)) pa_nil) (noStar_cons (star_of hs))) isi_ne g2 (noStar_cons (star_of hs)) (by rfl)).imp fun σ H Q ⟨F, ρ, r, ρ1, g, ev, q⟩ => ?_
  obtain ⟨⟨o, ρa⟩, e3, ev⟩ := bnd ev
  obtain ⟨d, e4, ev⟩ := bnd ev
  cases ev
  refine ⟨F, ρ, o, _, g, e3, fun v F2 H2 s2 g2 ro => ⟨?_, fun T hT => ?_⟩⟩
  · rw [List.length_map, tys_few hy]
    exact Nat.le_trans hl (by rw [sizeLine_eq]; decide)
  · have v1 := ro.vw g2 e4
    have sb : Sub F2 (upd H2 T (.tup (ts.map fun y => V.ty y.id))) := g2.sub.updR (g2.sub.none hT)
    have v2 : Vw F2 (upd H2 T (.tup (ts.map fun y => V.ty y.id))) v d := by
      cases d with
      | list ds =>
        obtain ⟨b, us, e1, h1, h2⟩ := v1
        exact ⟨b, us, e1, by rw [upd_ne (ne_of_none h1 hT)]; exact h1, h2⟩
      | _ => exact v1
    exact ⟨v, T, _, .type (tyId d), _, _, rfl, upd_same, cls_all ts, tyX_of sb v2, kitAny_all d ts, post_d (s2.trans (Step.junk hT)) (g2.junk hT) q (.bl _)⟩
/-! ### methods -/
theorem Mt.slot (m : Mt) : Slot "list" m.nm m.id := by
  cases m
  · exact PySem.F.slot_list_index
  · exact PySem.F.slot_list_count
theorem Mt.ty (m : Mt) : typeOf (.builtin m.id) = pure (.type "method_descriptor") := by
  cases m
  · exact PySem.F.type_list_index
  · exact PySem.F.type_list_count
theorem super_of {e : Expr} {m : Str} {env : PySem.Env} (h : notSuper e = true) : attributeBase e m env (eval e env) = eval e env := by
  cases e with
  | Call f args kws pos =>
    cases f with
    | Name x p =>
      cases args with
      | nil =>
        cases kws with
        | nil => cases h
        | cons _ _ => rfl
      | cons _ _ => rfl
    | _ => rfl
  | _ => rfl
theorem tyV_list {F H : Hp} {x : V} {ds : List D} (h : Vw F H x (.list ds)) : tyV K "list" x H := by
  obtain ⟨a, vs, e, h1, _⟩ := h
  subst e
  exact .inl ⟨rfl, vs, SqL.of h1⟩
theorem s_mt (C : COk t Φ k c X) {m : Mt} {x : Str} {o a : E} {l y : Expr} {apos cpos : Pos} (hx : x = m.nm) (hn : notSuper l = true) (hl : (apos.endLine == cpos.line) = true) (hs : (!isStar y) = true)
    (ho : PE X l (tO Φ X.K o)) (ha : PA X [y] (tOs Φ X.K a)) : PE X (.Call (.Attribute l x apos) [y] [] cpos) (tE Φ X.K (.mt m o a)) := by
  subst hx
  have star := noStar_cons (es := []) (env := X.env) (star_of hs)
  refine (pe_bm PySem.F.plainAttrs_list m.slot m.ty (on_mt m) ho ha (super_of hn) (by rw [star]; rfl) hl star (by rfl)).imp fun σ H Q ⟨F, ρ, r, ρ1, g, ev, q⟩ => ?_
  obtain ⟨⟨p, ρa⟩, e1, ev⟩ := bnd ev
  obtain ⟨d0, e0, ev⟩ := bnd ev
  have il : isLst d0 = true := by
    by_cases z : isLst d0 = true
    · exact z
    · rw [if_neg z] at ev
      cases ev
  rw [if_pos il] at ev
  obtain ⟨⟨os, ρb⟩, e2, ev⟩ := bnd ev
  obtain ⟨d, e3, ev⟩ := bnd ev
  obtain ⟨ds, e4, ev⟩ := bnd ev
  obtain ⟨r', e5, ev⟩ := bnd ev
  cases ev
  cases d0 with
  | list xs =>
    refine ⟨F, ρ, p, ρa, g, e1, fun v F2 H2 s2 g2 r1 => ⟨tyV_list (r1.vw g2 e0), F2, ρa, os, _, g2, e2, fun vs F3 H3 s3 g3 r3 => ?_⟩⟩
    exact ⟨F3, d, ds, r, g3.sub, (r1.mono s3.fz).vw g3 e3, r3.vw g3 e4, e5, NewR.of q (s2.trans s3) g3⟩
  | _ => cases il
theorem s_pop (C : COk t Φ k c X) {i : Nat} {x y : Str} {p apos cpos : Pos} (hx : x = "pop") (hv : varB c i y = true) (hl : (apos.endLine == cpos.line) = true) : PE X (.Call (.Attribute (.Name y p) x apos) [] [] cpos) (tE Φ X.K (.pop i)) := by
  subst hx
  refine (pe_bm0 PySem.F.plainAttrs_list PySem.F.slot_list_pop PySem.F.type_list_pop mt_pop (C.pvar hv) (super_of rfl) hl).imp fun σ H Q ⟨F, ρ, r, ρ1, g, ev, q⟩ => ?_
  obtain ⟨r', e1, ev⟩ := bnd ev
  obtain ⟨v, hv'⟩ := g.has i r' (getS_eq.mp e1)
  have rep := g.at e1 hv'
  cases r' with
  | v d => cases ev
  | s ns => cases ev
  | l xs =>
    obtain ⟨d, e2, ev⟩ := bnd ev
    cases ev
    obtain ⟨a, vs, e3, h1, h2, h3⟩ := rep
    subst e3
    have e4 : xs[xs.length - 1]? = some d := by rw [← List.getLast?_eq_getElem?]; exact e2
    obtain ⟨w, w1, w2⟩ := h2.get e4
    refine ⟨_, hv', .inl ⟨rfl, vs, SqL.of h1⟩, ?_⟩
    refine ⟨a, vs, w, rfl, rfl, h1, by rw [h2.len]; exact w1, ?_⟩
    have s2 : Step F H (Own ρ σ) F (upd H a (.lst vs.dropLast)) (Own (setS ρ i (some (.l xs.dropLast))) σ) :=
      (Step.write (F := F) (H := H) (O := Own ρ σ) (p := a) (o := .lst vs.dropLast) ⟨i, _, ⟨getS_eq.mp e1, hv'⟩, rfl⟩).weak fun b z => own_write e1 z
    exact post_d s2 (g.write e1 hv' h2.dropLast) q w2
/-! ### list(range(..)), tuple(range(..)) -/
def tRg (Φ : Phi) (K : PySem.W.Frag) (i : E) : St → Hp → (Int → Int → Hp → Prop) → Prop := fun σ H Q => ∃ F ρ ds ρ1, Good K F H ρ σ ∧ evI Φ i ρ = some (ds, ρ1) ∧
  ∀ a b F1 H1, ds = rngD a b → in62 a = true → in62 b = true → Step F H (Own ρ σ) F1 H1 (Own ρ1 σ) → Good K F1 H1 ρ1 σ → Q a b H1
theorem rngD_len (i j : Int) : (rngD i j).length = (j - i).toNat := by simp [rngD]
theorem rng_all {F : Hp} (a b : Int) : RpAll F (rgV a b) (rngD a b) := by
  have e1 : rgV a b = ((List.range (b - a).toNat).map fun k => a + (k : Nat)).map V.int := by simp [rgV, List.map_map, Function.comp_def]
  have e2 : rngD a b = ((List.range (b - a).toNat).map fun k => a + (k : Nat)).map PyData.int := by simp [rngD, List.map_map, Function.comp_def]
  rw [e1, e2]
  exact RpAll.ofInts _
theorem in62_t {i : Int} (h : in62 i = true) : -(2 ^ 62) ≤ i ∧ i < 2 ^ 62 := by
  have := in62_b.mp h
  omega
theorem s_lrg (C : COk t Φ k c X) {b : Bool} {i : E} {x : Str} {e : Expr} {p pos : Pos} (hx : x = (if b then ("tuple" : Str) else "list")) (hg : bltB t c x = true) (hs : isStar e = false) (he : PRg X e (tRg Φ X.K i)) :
    PE X (.Call (.Name x p) [e] [] pos) (tE Φ X.K (.lrg b i)) := by
  obtain ⟨g1, g2, g3⟩ := C.blt hg
  have star := noStar_cons (es := []) (env := X.env) hs
  cases b with
  | true =>
    have hx : x = ("tuple" : Str) := hx
    subst hx
    refine (pe_tupRg C.calm g1 g3 he star).imp fun σ H Q ⟨F, ρ, r, ρ1, g, ev, q⟩ => ?_
    obtain ⟨⟨ds, ρa⟩, e1, ev⟩ := bnd ev
    obtain ⟨hz, ev⟩ := ite_some ev
    cases ev
    refine ⟨F, ρ, ds, _, g, e1, fun a b F2 H2 e2 ha hb s2 g2 => ?_⟩
    subst e2
    refine ⟨?_, fun w hw => post_t s2 g2 q (rng_all a b) w hw⟩
    have z := okN_le hz
    rw [rngD_len, sizeLine_eq] at z
    exact ⟨(in62_t ha).1, (in62_t ha).2, (in62_t hb).1, (in62_t hb).2, z⟩
  | false =>
    have hx : x = ("list" : Str) := hx
    subst hx
    refine (pe_listRg C.calm g1 g3 he star).imp fun σ H Q ⟨F, ρ, r, ρ1, g, ev, q⟩ => ?_
    obtain ⟨⟨ds, ρa⟩, e1, ev⟩ := bnd ev
    obtain ⟨hz, ev⟩ := ite_some ev
    cases ev
    refine ⟨F, ρ, ds, _, g, e1, fun a b F2 H2 e2 ha hb s2 g2 => ?_⟩
    subst e2
    refine ⟨?_, fun w hw => post_l s2 g2 q (rng_all a b) w hw⟩
    have z := okN_le hz
    rw [rngD_len, sizeLine_eq] at z
    exact ⟨(in62_t ha).1, (in62_t ha).2, (in62_t hb).1, (in62_t hb).2, z⟩
theorem PRg.imp {e : Expr} {t u : St → Hp → (Int → Int → Hp → Prop) → Prop} (h : PRg X e t) (w : ∀ σ H Q, u σ H Q → t σ H Q) : PRg X e u := by
  intro pins s σ H Q I q
  exact h pins s σ H Q I (w _ _ _ q)
theorem r_1 (C : COk t Φ k c X) {a : E} {x : Str} {e : Expr} {p pos : Pos} (hx : x = "range") (hg : bltB t c x = true) (hs : (!isStar e) = true) (ha : PE X e (tO Φ X.K a)) : PRg X (.Call (.Name x p) [e] [] pos) (tRg Φ X.K (.rng1 a)) := by
  subst hx
  obtain ⟨g1, g2, g3⟩ := C.blt hg
  refine PRg.imp (prg_1 g1 g3 ha (noStar_cons (star_of hs))) fun σ H Q ⟨F, ρ, ds, ρ1, g, ev, q⟩ => ?_
  obtain ⟨⟨o, ρa⟩, e1, ev⟩ := bnd ev
  obtain ⟨d, e2, ev⟩ := bnd ev
  cases d with
  | int j =>
    obtain ⟨h1, ev⟩ := ite_some ev
    cases ev
    exact ⟨F, ρ, o, _, g, e1, fun v F2 H2 s2 g2 ro => ⟨j, vw_int (ro.vw g2 e2), q 0 j F2 H2 rfl (by decide) h1 s2 g2⟩⟩
  | _ => cases ev
theorem r_2 (C : COk t Φ k c X) {a b : E} {x : Str} {e f : Expr} {p pos : Pos} (hx : x = "range") (hg : bltB t c x = true) (hs : (!isStar e) = true) (hs2 : (!isStar f) = true) (ha : PE X e (tO Φ X.K a)) (hb : PE X f (tO Φ X.K b)) :
    PRg X (.Call (.Name x p) [e, f] [] pos) (tRg Φ X.K (.rng2 a b)) := by
  subst hx
  obtain ⟨g1, g2, g3⟩ := C.blt hg
  refine PRg.imp (prg_2 g1 g3 ha hb (noStar_cons (star_of hs)) (noStar_cons (star_of hs2)) (by rw [noStar_cons (star_of hs2)]; rfl)) fun σ H Q ⟨F, ρ, ds, ρ1, g, ev, q⟩ => ?_
  obtain ⟨⟨o, ρa⟩, e1, ev⟩ := bnd ev
  obtain ⟨⟨y, ρb⟩, e2, ev⟩ := bnd ev
  obtain ⟨d, e3, ev⟩ := bnd ev
  obtain ⟨e, e4, ev⟩ := bnd ev
  cases d with
  | int i =>
    cases e with
    | int j =>
      obtain ⟨h1, ev⟩ := ite_some ev
      cases ev
      exact two_read g e1 e2 fun v w F2 H2 s2 g2 r1 r2 => ⟨i, j, vw_int (r1.vw g2 e3), vw_int (r2.vw g2 e4), q i j F2 H2 rfl h1.1 h1.2 s2 g2⟩
    | _ => cases ev
  | _ => cases e <;> cases ev
end
end Pv

namespace Pv
open PySem PySem.Spec L2
/-! ## targets, what is walked, comprehensions -/
section
variable (K : PySem.W.Frag)
def gT (tg : Tg) : TG := fun v σ H Q => ∃ F d ρ ρ1, Good K F H ρ σ ∧ Rp F v d ∧ bindT tg d ρ = some ρ1 ∧
  ∀ σ1, (∀ i, i ∉ tg.sl → σ1[i]? = σ[i]?) → Good K F H ρ1 σ1 → (∀ a, Own ρ1 σ1 a → Own ρ σ a) → Q σ1 H
def gTL (tg : Tg) : TGs := fun vs σ H Q => ∃ F ds ρ ρ1, Good K F H ρ σ ∧ RpAll F vs ds ∧ bindTs tg ds ρ = some ρ1 ∧
  ∀ σ1, (∀ i, i ∉ tg.sl → σ1[i]? = σ[i]?) → Good K F H ρ1 σ1 → (∀ a, Own ρ1 σ1 a → Own ρ σ a) → Q σ1 H
end
theorem _root_.L2.PG.imp {X : Cx} {e : Expr} {t u : TG} (h : PG X e t) (w : ∀ v σ H Q, u v σ H Q → t v σ H Q) : PG X e u := ⟨fun pins s σ H v x Q I r q => h.run pins s σ H v x Q I r (w _ _ _ _ q)⟩
theorem _root_.L2.PGs.imp {X : Cx} {e : List Expr} {t u : TGs} (h : PGs X e t) (w : ∀ v σ H Q, u v σ H Q → t v σ H Q) : PGs X e u := ⟨fun pins s σ H v x Q I r q => h.run pins s σ H v x Q I r (w _ _ _ _ q)⟩
theorem assign_cons {e : Expr} {es : List Expr} {env : PySem.Env} (h : isStar e = false) : assignEach (e :: es) env = (false, assign e env) :: assignEach es env := by
  cases e <;> first | rfl | exact nomatch h
theorem assign_len {env : PySem.Env} : ∀ {es : List Expr}, noStar es = true → (assignEach es env).length = es.length ∧ (assignEach es env).findIdx? (·.1) = none
  | [], _ => ⟨rfl, rfl⟩
  | e :: es, h => by
    unfold noStar at h
    rw [List.all_cons] at h
    obtain ⟨h1, h2⟩ := and_t h
    obtain ⟨i1, i2⟩ := assign_len (env := env) (es := es) h2
    rw [assign_cons (star_of h1)]
    refine ⟨by rw [List.length_cons, List.length_cons, i1], ?_⟩
    rw [List.findIdx?_cons, i2]
    rfl
theorem Good.storeD {K : PySem.W.Frag} {F H : Hp} {ρ : Env} {σ : St} {i : Nat} {v : V} {d : D} (g : Good K F H ρ σ) (h : Rp F v d) : Good K F H (setS ρ i (some (.v d))) (σ.set i (some v)) ∧ (∀ a, Own (setS ρ i (some (.v d))) (σ.set i (some v)) a → Own ρ σ a) :=
  ⟨(g.more (r := .v d) rfl h).put g.len i, fun a z => own_more g.len rfl (own_put g.len z)⟩
theorem tgs_len {c : Ctx} : ∀ {tg : Tg} {es : List Expr}, chkTgs c tg es = true → ∀ {ds : List D} {ρ ρ1 : Env}, bindTs tg ds ρ = some ρ1 → ds.length = es.length
  | .nil, [], _, [], _, _, _ => rfl
  | .cons a b, e :: es, h, d :: ds, ρ, ρ1, ev => by
    obtain ⟨ρ2, _, ev⟩ := bnd ev
    have h := (and_t (show (chkTg c a e && chkTgs c b es) = true from h)).2
    exact congrArg (· + 1) (tgs_len h ev)
  | .nil, [], _, _ :: _, _, _, ev => nomatch (show (none : Option Env) = some _ from ev)
  | .cons _ _, _ :: _, _, [], _, _, ev => nomatch (show (none : Option Env) = some _ from ev)
  | .nil, _ :: _, h, _, _, _, _ => nomatch (show false = true from h)
  | .cons _ _, [], h, _, _, _, _ => nomatch (show false = true from h)
  | .nm _, _, h, _, _, _, _ => nomatch (show false = true from h)
  | .tp _, _, h, _, _, _, _ => nomatch (show false = true from h)
section
variable {t : Tab} {Φ : Phi} {k : Nat} {c : Ctx} {X : Cx}
theorem COk.loc (C : COk t Φ k c X) {i : Nat} {x : Str} (h : stoB c i x = true) : X.N[i]? = some x ∧ Loc X.env.scope x ∧ (X.fn x = true ∨ X.env.scope.names.lookup x = some .local) := by
  obtain ⟨h1, h2⟩ := and_t h
  rw [C.hN, C.sc, C.fn]
  refine ⟨of_decide_eq_true h1, ?_⟩
  rcases Bool.or_eq_true_iff.mp h2 with h2 | h2
  · exact ⟨.inl (kind_t h2), .inr (kind_t h2)⟩
  · obtain ⟨h3, h4⟩ := and_t h2
    exact ⟨.inr (kind_t h3), .inl h4⟩
theorem g_all (C : COk t Φ k c X) (tg : Tg) : (∀ e, chkTg c tg e = true → PG X e (gT X.K tg)) ∧ (∀ es, chkTgs c tg es = true → noStar es = true → PGs X es (gTL X.K tg)) := by
  induction tg with
  | nm i =>
    refine ⟨fun e h => ?_, fun es h _ => ?_⟩
    · cases e with
      | Name x pos =>
        obtain ⟨h1, h2, h3⟩ := C.loc (show stoB c i x = true from h)
        refine (pg_name C.nd h1 h2 h3).imp fun v σ H Q ⟨F, d, ρ, ρ1, g, r, ev, q⟩ => ?_
        cases ev
        obtain ⟨g1, o1⟩ := g.storeD (i := i) r
        exact q _ (fun j hj => List.getElem?_set_ne fun e => hj (by rw [← e]; exact List.mem_singleton.mpr rfl)) g1 o1
      | _ => exact nomatch (show false = true from h)
    · exact nomatch (show false = true from h)
  | nil =>
    refine ⟨fun e h => ?_, fun es h _ => ?_⟩
    · exact nomatch (show false = true from h)
    · cases es with
      | nil =>
        refine pgs_nil.imp fun v σ H Q ⟨F, d, ρ, ρ1, g, r, ev, q⟩ => ?_
        cases d with
        | nil =>
          cases r
          cases ev
          exact ⟨rfl, q σ (fun _ _ => rfl) g fun _ z => z⟩
        | cons _ _ => exact nomatch (show (none : Option Env) = some _ from ev)
      | cons _ _ => exact nomatch (show false = true from h)
  | cons a b iha ihb =>
    refine ⟨fun e h => ?_, fun es h hs => ?_⟩
    · exact nomatch (show false = true from h)
    · cases es with
      | nil => exact nomatch (show false = true from h)
      | cons e es =>
        obtain ⟨h1, h2⟩ := and_t (show (chkTg c a e && chkTgs c b es) = true from h)
        unfold noStar at hs
        rw [List.all_cons] at hs
        obtain ⟨n1, n2⟩ := and_t hs
        refine (pgs_cons (iha.1 e h1) (ihb.2 es h2 n2) (by rw [assign_cons (star_of n1)]; rfl)).imp fun vs σ H Q ⟨F, ds, ρ, ρ1, g, r, ev, q⟩ => ?_
        cases ds with
        | nil => exact nomatch (show (none : Option Env) = some _ from ev)
        | cons d ds =>
          obtain ⟨ρ2, e1, ev⟩ := bnd ev
          cases r with
          | cons r rr =>
            refine ⟨_, _, rfl, F, d, ρ, ρ2, g, r, e1, fun σ1 k1 g1 o1 => ⟨F, ds, ρ2, ρ1, g1, rr, ev, fun σ2 k2 g2 o2 => q σ2 (fun i hi => ?_) g2 fun z hz => o1 z (o2 z hz)⟩⟩
            have hi : i ∉ a.sl ++ b.sl := hi
            rw [List.mem_append, not_or] at hi
            rw [k2 i hi.2, k1 i hi.1]
  | tp a iha =>
    refine ⟨fun e h => ?_, fun es h _ => ?_⟩
    · cases e with
      | Tuple es kk pos =>
        obtain ⟨h1, h2⟩ := and_t (show (chkTgs c a es && noStar es) = true from h)
        obtain ⟨a1, a2⟩ := assign_len (env := X.env) h2
        refine ⟨fun pins s σ H v u Q I r q => ?_⟩
        obtain ⟨F, d, ρ, ρ1, g, r1, ev, q⟩ := q
        cases d with
        | tuple ds =>
          have hl := tgs_len h1 (show bindTs a ds ρ = some ρ1 from ev)
          cases r1 with
          | tup e1 r2 => exact (pg_tup C.calm (iha.2 es h1 h2) rfl a2).run pins s σ H _ u Q I r ⟨_, _, rfl, SqT.of (g.sub _ _ e1), by rw [a1, r2.len, hl], F, ds, ρ, ρ1, g, r2, ev, q⟩
        | list ds =>
          have hl := tgs_len h1 (show bindTs a ds ρ = some ρ1 from ev)
          cases r1 with
          | lst e1 r2 => exact (pg_unl C.calm (iha.2 es h1 h2) rfl a2).run pins s σ H _ u Q I r ⟨_, _, rfl, SqL.of (g.sub _ _ e1), by rw [a1, r2.len, hl], F, ds, ρ, ρ1, g, r2, ev, q⟩
        | _ => exact nomatch (show (none : Option Env) = some _ from ev)
      | _ => exact nomatch (show false = true from h)
    · exact nomatch (show false = true from h)
end
/-! ### what is walked -/
section
variable {K : PySem.W.Frag}
theorem wk_list {F : Hp} {a : Addr} {vs : List V} {ds : List D} (h : F a = some (.lst vs)) (r : RpAll F vs ds) : Wk (Itl K a) F ds where
  go := fun i G H hi s1 s2 => ⟨vs, vs[i]'(by rw [r.len]; exact hi), SqL.of (s2 _ _ (s1 _ _ h)), List.getElem?_eq_getElem _⟩
  stop := fun G H s1 s2 => ⟨vs, SqL.of (s2 _ _ (s1 _ _ h)), by rw [r.len]; exact Nat.le_refl _⟩
  yld := fun i G H x H1 d hd s1 s2 y => by
    obtain ⟨rfl, y⟩ := y
    obtain ⟨v, e1, e2⟩ := r.get hd
    have := y vs (SqL.of (s2 _ _ (s1 _ _ h)))
    rw [e1] at this
    cases this
    exact ⟨G, Step.refl, s2, e2.mono s1⟩
theorem wk_tup {F : Hp} {a : Addr} {vs : List V} {ds : List D} (h : F a = some (.tup vs)) (r : RpAll F vs ds) : Wk (Itt K a) F ds where
  go := fun i G H hi s1 s2 => ⟨vs, vs[i]'(by rw [r.len]; exact hi), SqT.of (s2 _ _ (s1 _ _ h)), List.getElem?_eq_getElem _⟩
  stop := fun G H s1 s2 => ⟨vs, SqT.of (s2 _ _ (s1 _ _ h)), by rw [r.len]; exact Nat.le_refl _⟩
  yld := fun i G H x H1 d hd s1 s2 y => by
    obtain ⟨rfl, y⟩ := y
    obtain ⟨v, e1, e2⟩ := r.get hd
    have := y vs (SqT.of (s2 _ _ (s1 _ _ h)))
    rw [e1] at this
    cases this
    exact ⟨G, Step.refl, s2, e2.mono s1⟩
theorem rngD_get {i j : Int} {m : Nat} {d : D} (h : (rngD i j)[m]? = some d) : d = .int (i + (m : Nat)) := by
  unfold rngD at h
  rw [List.getElem?_map] at h
  obtain ⟨q, h1, rfl⟩ := Option.map_eq_some_iff.mp h
  obtain ⟨h2, h3⟩ := List.getElem?_eq_some_iff.mp h1
  rw [List.getElem_range] at h3
  rw [h3]
theorem rngC_get {i c : Int} {n m : Nat} {d : D} (h : (rngC i c n)[m]? = some d) : d = .int (i + (m : Nat) * c) := by
  unfold rngC at h
  rw [List.getElem?_map] at h
  obtain ⟨q, h1, rfl⟩ := Option.map_eq_some_iff.mp h
  obtain ⟨h2, h3⟩ := List.getElem?_eq_some_iff.mp h1
  rw [List.getElem_range] at h3
  rw [h3]
theorem wk_rng {F : Hp} (i j : Int) : Wk (Itr i (j - i).toNat) F (rngD i j) where
  go := fun m G H hm _ _ => by
    rw [rngD_len] at hm
    exact hm
  stop := fun G H _ _ => by
    rw [rngD_len]
    exact Nat.le_refl _
  yld := fun m G H x H1 d hd s1 s2 y => by
    obtain ⟨rfl, rfl⟩ := y
    rw [rngD_get hd]
    exact ⟨G, Step.refl, s2, .int _⟩
theorem wk_rngC {F : Hp} (i c : Int) (n : Nat) : Wk (Itc i c n) F (rngC i c n) where
  go := fun m G H hm _ _ => by
    simp only [rngC, List.length_map, List.length_range] at hm
    exact hm
  stop := fun G H _ _ => by
    simp only [rngC, List.length_map, List.length_range]
    exact Nat.le_refl _
  yld := fun m G H x H1 d hd s1 s2 y => by
    obtain ⟨rfl, rfl⟩ := y
    rw [rngC_get hd]
    exact ⟨G, Step.refl, s2, .int _⟩
theorem enumD_len (xs : List D) : (enumD xs).length = xs.length := by simp [enumD]
theorem enumD_get {xs : List D} {i : Nat} {d : D} (h : (enumD xs)[i]? = some d) : ∃ x, xs[i]? = some x ∧ d = .tuple [.int (i : Nat), x] := by
  unfold enumD at h
  rw [List.getElem?_map, List.getElem?_zipIdx] at h
  obtain ⟨p, h1, rfl⟩ := Option.map_eq_some_iff.mp h
  obtain ⟨x, h2, rfl⟩ := Option.map_eq_some_iff.mp h1
  exact ⟨x, h2, by simp⟩
theorem wk_enum {F : Hp} {a : Addr} {vs : List V} {ds : List D} (h : F a = some (.lst vs)) (r : RpAll F vs ds) : Wk (Ite K a) F (enumD ds) where
  go := fun i G H hi s1 s2 => ⟨vs, vs[i]'(by rw [r.len, ← enumD_len]; exact hi), SqL.of (s2 _ _ (s1 _ _ h)), List.getElem?_eq_getElem _⟩
  stop := fun G H s1 s2 => ⟨vs, SqL.of (s2 _ _ (s1 _ _ h)), by rw [r.len, enumD_len]; exact Nat.le_refl _⟩
  yld := fun i G H x H1 d hd s1 s2 y => by
    obtain ⟨T, x', rfl, hT, rfl, y⟩ := y
    obtain ⟨z, z1, rfl⟩ := enumD_get hd
    obtain ⟨v, e1, e2⟩ := r.get z1
    have := y vs (SqL.of (s2 _ _ (s1 _ _ h)))
    rw [e1] at this
    cases this
    refine ⟨_, Step.fresh hT s2, s2.upd2, .tup upd_same (.cons (.int _) (.cons ((e2.mono s1).mono (sub_upd (s2.none hT))) .nil))⟩
theorem zipD_len (xs ys : List D) : (zipD xs ys).length = min xs.length ys.length := by simp [zipD]
theorem zipD_get {xs ys : List D} {i : Nat} {d : D} (h : (zipD xs ys)[i]? = some d) : ∃ x y, xs[i]? = some x ∧ ys[i]? = some y ∧ d = .tuple [x, y] := by
  unfold zipD at h
  rw [List.getElem?_map] at h
  obtain ⟨p, h1, rfl⟩ := Option.map_eq_some_iff.mp h
  obtain ⟨h2, h3⟩ := List.getElem?_zip_eq_some.mp h1
  exact ⟨p.1, p.2, h2, h3, rfl⟩
theorem wk_zip {F : Hp} {a b : Addr} {vs us : List V} {ds es : List D} (h : F a = some (.lst vs)) (h' : F b = some (.lst us)) (r : RpAll F vs ds) (r' : RpAll F us es) : Wk (Itz K a b) F (zipD ds es) where
  go := fun i G H hi s1 s2 => by
    rw [zipD_len] at hi
    exact ⟨vs, us, vs[i]'(by rw [r.len]; omega), us[i]'(by rw [r'.len]; omega), SqL.of (s2 _ _ (s1 _ _ h)), SqL.of (s2 _ _ (s1 _ _ h')), List.getElem?_eq_getElem _, List.getElem?_eq_getElem _⟩
  stop := fun G H s1 s2 => ⟨vs, us, SqL.of (s2 _ _ (s1 _ _ h)), SqL.of (s2 _ _ (s1 _ _ h')), by rw [r.len, r'.len, zipD_len]; omega⟩
  yld := fun i G H x H1 d hd s1 s2 y => by
    obtain ⟨T, x', y', rfl, hT, rfl, k1, k2⟩ := y
    obtain ⟨z, w, z1, w1, rfl⟩ := zipD_get hd
    obtain ⟨v, e1, e2⟩ := r.get z1
    obtain ⟨u, f1, f2⟩ := r'.get w1
    have m1 := k1 vs (SqL.of (s2 _ _ (s1 _ _ h)))
    have m2 := k2 us (SqL.of (s2 _ _ (s1 _ _ h')))
    rw [e1] at m1
    rw [f1] at m2
    cases m1
    cases m2
    exact ⟨_, Step.fresh hT s2, s2.upd2, .tup upd_same (.cons ((e2.mono s1).mono (sub_upd (s2.none hT))) (.cons ((f2.mono s1).mono (sub_upd (s2.none hT))) .nil))⟩
theorem wk_zipT {F : Hp} {a b : Addr} {vs us : List V} {ds es : List D} (h : F a = some (.tup vs)) (h' : F b = some (.tup us)) (r : RpAll F vs ds) (r' : RpAll F us es) : Wk (RZ.ItzT K a b) F (zipD ds es) where
  go := fun i G H hi s1 s2 => by
    rw [zipD_len] at hi
    exact ⟨vs, us, vs[i]'(by rw [r.len]; omega), us[i]'(by rw [r'.len]; omega), SqT.of (s2 _ _ (s1 _ _ h)), SqT.of (s2 _ _ (s1 _ _ h')), List.getElem?_eq_getElem _, List.getElem?_eq_getElem _⟩
  stop := fun G H s1 s2 => ⟨vs, us, SqT.of (s2 _ _ (s1 _ _ h)), SqT.of (s2 _ _ (s1 _ _ h')), by rw [r.len, r'.len, zipD_len]; omega⟩
  yld := fun i G H x H1 d hd s1 s2 y => by
    obtain ⟨T, x', y', rfl, hT, rfl, k1, k2⟩ := y
    obtain ⟨z, w, z1, w1, rfl⟩ := zipD_get hd
    obtain ⟨v, e1, e2⟩ := r.get z1
    obtain ⟨u, f1, f2⟩ := r'.get w1
    have m1 := k1 vs (SqT.of (s2 _ _ (s1 _ _ h)))
    have m2 := k2 us (SqT.of (s2 _ _ (s1 _ _ h')))
    rw [e1] at m1
    rw [f1] at m2
    cases m1
    cases m2
    exact ⟨_, Step.fresh hT s2, s2.upd2, .tup upd_same (.cons ((e2.mono s1).mono (sub_upd (s2.none hT))) (.cons ((f2.mono s1).mono (sub_upd (s2.none hT))) .nil))⟩
end
section
variable {t : Tab} {Φ : Phi} {k : Nat} {c : Ctx} {X : Cx} {F H F1 H1 : Hp} {ρ ρ1 : Env} {σ : St}
theorem i_it {a : E} {tg e : Expr} (ha : PE X e (tE Φ X.K a)) : PI X tg e (tIt Φ X.K (.it a)) := by
  refine ⟨fun pins s σ H R I q => ?_⟩
  obtain ⟨F, ρ, ds, ρ1, g, ev, q⟩ := q
  obtain ⟨⟨r, ρa⟩, e1, ev⟩ := bnd ev
  obtain ⟨d, e2, ev⟩ := bnd ev
  obtain ⟨ds', e3, ev⟩ := bnd ev
  cases ev
  cases d with
  | list xs =>
    cases e3
    refine (pi_list ha).run pins s σ H R I (s_frz g e1 e2 fun v F2 H2 s2 g2 rp => ?_)
    cases rp with
    | lst h1 h2 => exact ⟨_, rfl, ⟨_, SqL.of (g2.sub _ _ h1)⟩, q _ F2 H2 s2 g2 (wk_list h1 h2)⟩
  | tuple xs =>
    cases e3
    refine (pi_tup ha).run pins s σ H R I (s_frz g e1 e2 fun v F2 H2 s2 g2 rp => ?_)
    cases rp with
    | tup h1 h2 => exact ⟨_, rfl, ⟨_, SqT.of (g2.sub _ _ h1)⟩, q _ F2 H2 s2 g2 (wk_tup h1 h2)⟩
  | _ => cases e3
theorem i_r1 (C : COk t Φ k c X) {a : E} {x : Str} {tg e : Expr} {p pos : Pos} (hx : x = "range") (hg : bltB t c x = true) (hs : (!isStar e) = true) (ha : PE X e (tO Φ X.K a)) : PI X tg (.Call (.Name x p) [e] [] pos) (tIt Φ X.K (.rng1 a)) := by
  subst hx
  obtain ⟨g1, g2, g3⟩ := C.blt hg
  refine (pi_range1 g1 g3 (pa_cons ha pa_nil (noStar_cons (star_of hs))) (noStar_cons (star_of hs))).imp fun σ H R ⟨F, ρ, ds, ρ1, g, ev, q⟩ => ?_
  obtain ⟨⟨o, ρa⟩, e1, ev⟩ := bnd ev
  obtain ⟨d, e2, ev⟩ := bnd ev
  cases d with
  | int j =>
    obtain ⟨h1, ev⟩ := ite_some ev
    cases ev
    refine ⟨F, ρ, o, _, g, e1, fun v F2 H2 s2 g2 ro => ⟨j, by rw [vw_int (ro.vw g2 e2)], (in62_t h1).1, (in62_t h1).2, ?_⟩⟩
    have z := q (Itr 0 (j - 0).toNat) F2 H2 s2 g2 (wk_rng 0 j)
    rw [Int.sub_zero] at z
    exact z
  | _ => cases ev
theorem i_r2 (C : COk t Φ k c X) {a b : E} {x : Str} {tg e f : Expr} {p pos : Pos} (hx : x = "range") (hg : bltB t c x = true) (hs : (!isStar e) = true) (hs2 : (!isStar f) = true) (ha : PE X e (tO Φ X.K a)) (hb : PE X f (tO Φ X.K b)) :
    PI X tg (.Call (.Name x p) [e, f] [] pos) (tIt Φ X.K (.rng2 a b)) := by
  subst hx
  obtain ⟨g1, g2, g3⟩ := C.blt hg
  have n1 := noStar_cons (es := [f]) (env := X.env) (star_of hs)
  have n2 := noStar_cons (es := []) (env := X.env) (star_of hs2)
  refine (pi_range2 g1 g3 (pa_cons ha (pa_cons hb pa_nil n2) n1) (by rw [n1, n2]; rfl) n2).imp fun σ H R ⟨F, ρ, ds, ρ1, g, ev, q⟩ => ?_
  obtain ⟨⟨o, ρa⟩, e1, ev⟩ := bnd ev
  obtain ⟨⟨y, ρb⟩, e2, ev⟩ := bnd ev
  obtain ⟨d, e3, ev⟩ := bnd ev
  obtain ⟨e, e4, ev⟩ := bnd ev
  cases d with
  | int i =>
    cases e with
    | int j =>
      obtain ⟨h1, ev⟩ := ite_some ev
      cases ev
      exact two_read g e1 e2 fun v w F2 H2 s2 g2 r1 r2 => ⟨i, j, by rw [vw_int (r1.vw g2 e3), vw_int (r2.vw g2 e4)], ⟨(in62_t h1.1).1, (in62_t h1.1).2, (in62_t h1.2).1, (in62_t h1.2).2⟩, q _ F2 H2 s2 g2 (wk_rng i j)⟩
    | _ => cases ev
  | _ => cases e <;> cases ev
theorem i_r3 (C : COk t Φ k c X) {a b m : E} {x : Str} {tg e f h : Expr} {p pos : Pos} (hx : x = "range") (hg : bltB t c x = true) (hs : (!isStar e) = true) (hs2 : (!isStar f) = true) (hs3 : (!isStar h) = true) (ha : PE X e (tO Φ X.K a)) (hb : PE X f (tO Φ X.K b)) (hm : PE X h (tO Φ X.K m)) :
    PI X tg (.Call (.Name x p) [e, f, h] [] pos) (tIt Φ X.K (.rng3 a b m)) := by
  subst hx
  obtain ⟨g1, g2, g3⟩ := C.blt hg
  have n1 := noStar_cons (es := [f, h]) (env := X.env) (star_of hs)
  have n2 := noStar_cons (es := [h]) (env := X.env) (star_of hs2)
  have n3 := noStar_cons (es := []) (env := X.env) (star_of hs3)
  refine (pi_range3 g1 g3 (pa_cons ha (pa_cons hb (pa_cons hm pa_nil n3) n2) n1) n1 (by rw [n2, n3]; rfl)).imp fun σ H R ⟨F, ρ, ds, ρ1, g, ev, q⟩ => ?_
  obtain ⟨⟨o, ρa⟩, e1, ev⟩ := bnd ev
  obtain ⟨⟨y, ρb⟩, e2, ev⟩ := bnd ev
  obtain ⟨⟨z, ρc⟩, e3, ev⟩ := bnd ev
  obtain ⟨d, e4, ev⟩ := bnd ev
  obtain ⟨e, e5, ev⟩ := bnd ev
  obtain ⟨u, e6, ev⟩ := bnd ev
  cases d with
  | int i =>
    cases e with
    | int j =>
      cases u with
      | int l =>
        obtain ⟨h1, ev⟩ := ite_some ev
        cases ev
        obtain ⟨h1, h2, h3⟩ := h1
        subst h3
        exact two_read (R := fun v w H2 => tO Φ X.K m σ H2 _) g e1 e2 fun v w F2 H2 s2 g2 r1 r2 => ⟨F2, ρb, z, _, g2, e3, fun u F3 H3 s3 g3 r3 => ⟨i, j, -1, (i - j).toNat,
          by rw [vw_int ((r1.mono s3.fz).vw g3 e4), vw_int ((r2.mono s3.fz).vw g3 e5), vw_int (r3.vw g3 e6)], RgC.neg (in62_t h1).1 (in62_t h1).2 (in62_t h2).1 (in62_t h2).2, q _ F3 H3 (s2.trans s3) g3 (wk_rngC i (-1) _)⟩⟩
      | _ => cases ev
    | _ => cases u <;> cases ev
  | _ => cases e <;> cases u <;> cases ev
theorem i_enum (C : COk t Φ k c X) {a : E} {x : Str} {tg e : Expr} {p pos : Pos} (hx : x = "enumerate") (hg : bltB t c x = true) (hs : (!isStar e) = true) (ht : tgTup tg = true) (ha : PE X e (tE Φ X.K a)) : PI X tg (.Call (.Name x p) [e] [] pos) (tIt Φ X.K (.enum a)) := by
  subst hx
  obtain ⟨g1, g2, g3⟩ := C.blt hg
  cases tg with
  | Tuple elts kk tpos =>
    refine (pi_enum g1 g3 (pa_cons ha pa_nil (noStar_cons (star_of hs))) (noStar_cons (star_of hs))).imp fun σ H R ⟨F, ρ, ds, ρ1, g, ev, q⟩ => ?_
    obtain ⟨⟨r, ρa⟩, e1, ev⟩ := bnd ev
    obtain ⟨d, e2, ev⟩ := bnd ev
    cases d with
    | list xs =>
      cases ev
      refine s_frz g e1 e2 fun v F2 H2 s2 g2 rp => ?_
      cases rp with
      | lst h1 h2 => exact ⟨_, _, rfl, SqL.of (g2.sub _ _ h1), q _ F2 H2 s2 g2 (wk_enum h1 h2)⟩
    | _ => cases ev
  | _ => exact nomatch (show false = true from ht)
theorem i_zip (C : COk t Φ k c X) {a b : E} {x : Str} {tg e f : Expr} {p pos : Pos} (hx : x = "zip") (hg : bltB t c x = true) (hs : (!isStar e) = true) (hs2 : (!isStar f) = true) (ht : tgTup tg = true) (ha : PE X e (tE Φ X.K a)) (hb : PE X f (tE Φ X.K b)) :
    PI X tg (.Call (.Name x p) [e, f] [] pos) (tIt Φ X.K (.zip a b)) := by
  subst hx
  obtain ⟨g1, g2, g3⟩ := C.blt hg
  have n1 := noStar_cons (es := [f]) (env := X.env) (star_of hs)
  have n2 := noStar_cons (es := []) (env := X.env) (star_of hs2)
  cases tg with
  | Tuple elts kk tpos =>
    refine (RZ.pi_zipA g1 g3 (pa_cons ha (pa_cons hb pa_nil n2) n1) n1 (by rw [n2]; rfl)).imp fun σ H R ⟨F, ρ, ds, ρ1, g, ev, q⟩ => ?_
    obtain ⟨⟨r, ρa⟩, e1, ev⟩ := bnd ev
    obtain ⟨d, e2, ev⟩ := bnd ev
    obtain ⟨⟨r', ρb⟩, e3, ev⟩ := bnd ev
    obtain ⟨d', e4, ev⟩ := bnd ev
    refine s_frz g e1 e2 fun v F2 H2 s2 g2 rp => s_frz g2 e3 e4 fun w F3 H3 s3 g3 rq => ?_
    have rp := rp.mono s3.fz
    cases d with
    | list xs =>
      cases d' with
      | list ys =>
        cases ev
        cases rp with
        | lst h1 h2 => cases rq with
          | lst h3 h4 => exact ⟨_, _, _, _, rfl, .inl ⟨SqL.of (g3.sub _ _ h1), SqL.of (g3.sub _ _ h3), q _ F3 H3 (s2.trans s3) g3 (wk_zip h1 h3 h2 h4)⟩⟩
      | _ => cases ev
    | tuple xs =>
      cases d' with
      | tuple ys =>
        cases ev
        cases rp with
        | tup h1 h2 => cases rq with
          | tup h3 h4 => exact ⟨_, _, _, _, rfl, .inr ⟨SqT.of (g3.sub _ _ h1), SqT.of (g3.sub _ _ h3), q _ F3 H3 (s2.trans s3) g3 (wk_zipT h1 h3 h2 h4)⟩⟩
      | _ => cases ev
    | _ => cases d' <;> cases ev
  | _ => exact nomatch (show false = true from ht)
end
end Pv

namespace Pv
open PySem PySem.Spec L2
/-! ## list comprehensions -/
theorem wipe_out {σ : St} {j : Nat} : ∀ {vs : List Nat}, j ∉ vs → (wipe σ vs)[j]? = σ[j]?
  | [], _ => rfl
  | v :: vs, h => by
    rw [List.mem_cons, not_or] at h
    unfold wipe
    rw [List.getElem?_set_ne (Ne.symm h.1)]
    exact wipe_out h.2
theorem wipe_in {σ : St} {j : Nat} : ∀ {vs : List Nat}, j ∈ vs → ∀ v, (wipe σ vs)[j]? ≠ some (some v)
  | [], h, _ => absurd h (by simp)
  | v :: vs, h, w => by
    unfold wipe
    by_cases e : v = j
    · subst e
      intro z
      by_cases hl : v < (wipe σ vs).length
      · rw [List.getElem?_set_self hl] at z
        cases z
      · rw [List.getElem?_eq_none (by simpa using hl)] at z
        cases z
    · rw [List.getElem?_set_ne e]
      exact wipe_in ((List.mem_cons.mp h).resolve_left fun z => e z.symm) w
theorem wipeE_len (ρ : Env) : ∀ vs : List Nat, (wipeE ρ vs).length = ρ.length
  | [] => rfl
  | v :: vs => by
    unfold wipeE
    rw [setS_len, wipeE_len ρ vs]
theorem wipeE_out {ρ : Env} {j : Nat} : ∀ {vs : List Nat}, j ∉ vs → (wipeE ρ vs)[j]? = ρ[j]?
  | [], _ => rfl
  | v :: vs, h => by
    rw [List.mem_cons, not_or] at h
    unfold wipeE
    rw [setS_eq, List.getElem?_set_ne (Ne.symm h.1)]
    exact wipeE_out h.2
theorem wipeE_in {ρ : Env} {j : Nat} : ∀ {vs : List Nat}, j ∈ vs → ∀ r, (wipeE ρ vs)[j]? ≠ some (some r)
  | [], h, _ => absurd h (by simp)
  | v :: vs, h, w => by
    unfold wipeE
    rw [setS_eq]
    by_cases e : v = j
    · subst e
      intro z
      by_cases hl : v < (wipeE ρ vs).length
      · rw [List.getElem?_set_self hl] at z
        cases z
      · rw [List.getElem?_eq_none (by simpa using hl)] at z
        cases z
    · rw [List.getElem?_set_ne e]
      exact wipeE_in ((List.mem_cons.mp h).resolve_left fun z => e z.symm) w
theorem wipe_ext {σ σ2 : St} {vs : List Nat} (hl : σ2.length = σ.length) (h : ∀ j, j ∉ vs → σ2[j]? = σ[j]?) : wipe σ2 vs = wipe σ vs := by
  apply List.ext_getElem?
  intro j
  by_cases hj : j ∈ vs
  · have z1 := wipe_in (σ := σ2) hj
    have z2 := wipe_in (σ := σ) hj
    have l1 := wipe_length σ2 vs
    have l2 := wipe_length σ vs
    by_cases lt : j < σ.length
    · have e1 : j < (wipe σ2 vs).length := by omega
      have e2 : j < (wipe σ vs).length := by omega
      rw [List.getElem?_eq_getElem e1, List.getElem?_eq_getElem e2] at *
      cases c1 : (wipe σ2 vs)[j] with
      | some v => exact absurd (by rw [c1]) (z1 v)
      | none => cases c2 : (wipe σ vs)[j] with
        | some v => exact absurd (by rw [c2]) (z2 v)
        | none => rfl
    · rw [List.getElem?_eq_none (by omega), List.getElem?_eq_none (by omega)]
  · rw [wipe_out hj, wipe_out hj, h j hj]
theorem back_len (ρ ρ' : Env) : ∀ vs : List Nat, (back ρ ρ' vs).length = ρ'.length
  | [] => rfl
  | v :: vs => by
    show (setS (back ρ ρ' vs) v (getS ρ v)).length = _
    rw [setS_len, back_len ρ ρ' vs]
theorem back_out {ρ ρ' : Env} {j : Nat} : ∀ {vs : List Nat}, j ∉ vs → (back ρ ρ' vs)[j]? = ρ'[j]?
  | [], _ => rfl
  | v :: vs, h => by
    rw [List.mem_cons, not_or] at h
    show (setS (back ρ ρ' vs) v (getS ρ v))[j]? = _
    rw [setS_eq, List.getElem?_set_ne (Ne.symm h.1)]
    exact back_out h.2
theorem back_in {ρ ρ' : Env} {j : Nat} : ∀ {vs : List Nat}, j ∈ vs → ∀ {r : R}, (back ρ ρ' vs)[j]? = some (some r) → getS ρ j = some r
  | [], h, _, _ => absurd h (by simp)
  | v :: vs, h, r, e => by
    have e : (setS (back ρ ρ' vs) v (getS ρ v))[j]? = some (some r) := e
    rw [setS_eq] at e
    by_cases q : v = j
    · subst q
      have hl : v < (back ρ ρ' vs).length := by
        have := (List.getElem?_eq_some_iff.mp e).1
        rw [List.length_set] at this
        exact this
      rw [List.getElem?_set_self hl] at e
      exact Option.some.inj e
    · rw [List.getElem?_set_ne q] at e
      exact back_in ((List.mem_cons.mp h).resolve_left fun z => q z.symm) e
abbrev savE (ρ : Env) (vs : List Nat) : Env := vs.map fun v => getS ρ v
abbrev savS (σ : St) (vs : List Nat) : St := vs.map fun v => (σ[v]?).join
theorem sav_hold {ρ : Env} {σ : St} {vs : List Nat} {j : Nat} {r : R} {v : V} (h : Hold (savE ρ vs) (savS σ vs) j r v) : ∃ i, vs[j]? = some i ∧ Hold ρ σ i r v := by
  obtain ⟨h1, h2⟩ := h
  rw [List.getElem?_map] at h1 h2
  obtain ⟨i, e1, e2⟩ := Option.map_eq_some_iff.mp h1
  rw [e1] at h2
  have h2 : some ((σ[i]?).join) = some (some v) := h2
  refine ⟨i, e1, getS_eq.mp e2, ?_⟩
  have h3 := Option.some.inj h2
  cases q : σ[i]? with
  | none =>
    rw [q] at h3
    cases h3
  | some o =>
    rw [q] at h3
    have : o = some v := h3
    rw [this]
section
variable {K : PySem.W.Frag} {F H : Hp} {ρ ρ1 ρ2 τ : Env} {σ σ2 υ : St} {vs : List Nat}
/-- the slots vs set aside -/
theorem Good.aside (g : Good K F H ρ σ) (nd : vs.Nodup) : Good K F H (wipeE ρ vs ++ savE ρ vs) (wipe σ vs ++ savS σ vs) ∧ ∀ a, Own (wipeE ρ vs ++ savE ρ vs) (wipe σ vs ++ savS σ vs) a → Own ρ σ a := by
  have hl : (wipeE ρ vs).length = (wipe σ vs).length := by rw [wipeE_len, wipe_length]; exact g.len
  have re : ∀ i r v, Hold (wipeE ρ vs ++ savE ρ vs) (wipe σ vs ++ savS σ vs) i r v → Hold ρ σ (if i < ρ.length then i else vs.getD (i - ρ.length) 0) r v ∧ (i < ρ.length → i ∉ vs) ∧ (¬ i < ρ.length → ∃ j, vs[i - ρ.length]? = some j) := fun i r v h => by
    by_cases hi : i < ρ.length
    · have h := (hold_left hl (by rw [wipeE_len]; exact hi)).mp h
      have hn : i ∉ vs := fun z => wipeE_in z r h.1
      rw [if_pos hi]
      exact ⟨⟨by rw [← wipeE_out hn]; exact h.1, by rw [← wipe_out hn]; exact h.2⟩, fun _ => hn, fun z => absurd hi z⟩
    · have h := (hold_right hl (by rw [wipeE_len]; omega)).mp h
      rw [wipeE_len] at h
      obtain ⟨j, e1, e2⟩ := sav_hold h
      have eg : vs.getD (i - ρ.length) 0 = j := by rw [List.getD_eq_getElem?_getD, e1]; rfl
      rw [if_neg hi, eg]
      exact ⟨e2, fun z => absurd z hi, fun _ => ⟨j, e1⟩⟩
  refine ⟨g.map (by simp only [List.length_append, List.length_map]; omega) (fun i r h => ?_) _ (fun i r v h => (re i r v h).1) (fun i j r q a h1 h2 _ _ e => ?_), fun a => Own.map _ fun i r v h => (re i r v h).1⟩
  · by_cases hi : i < (wipeE ρ vs).length
    · rw [List.getElem?_append_left hi] at h
      have hn : i ∉ vs := fun z => wipeE_in z r h
      rw [wipeE_out hn] at h
      obtain ⟨v, e⟩ := g.has i r h
      exact ⟨v, by rw [List.getElem?_append_left (by omega), wipe_out hn]; exact e⟩
    · rw [List.getElem?_append_right (by omega), List.getElem?_map] at h
      obtain ⟨m, e1, e2⟩ := Option.map_eq_some_iff.mp h
      obtain ⟨v, e⟩ := g.has m r (getS_eq.mp e2)
      refine ⟨v, ?_⟩
      rw [List.getElem?_append_right (by omega), ← hl, List.getElem?_map, e1]
      show some ((σ[m]?).join) = _
      rw [e]
      rfl
  · obtain ⟨_, a1, b1⟩ := re i r _ h1
    obtain ⟨_, a2, b2⟩ := re j q _ h2
    have gd : ∀ {m x : Nat}, vs[m]? = some x → vs.getD m 0 = x := fun {m x} e => by rw [List.getD_eq_getElem?_getD, e]; rfl
    by_cases c1 : i < ρ.length <;> by_cases c2 : j < ρ.length
    · rw [if_pos c1, if_pos c2] at e
      exact e
    · rw [if_pos c1, if_neg c2] at e
      obtain ⟨m, hm⟩ := b2 c2
      rw [gd hm] at e
      exact absurd (List.mem_of_getElem? hm) (by rw [← e]; exact a1 c1)
    · rw [if_neg c1, if_pos c2] at e
      obtain ⟨m, hm⟩ := b1 c1
      rw [gd hm] at e
      exact absurd (List.mem_of_getElem? hm) (by rw [e]; exact a2 c2)
    · rw [if_neg c1, if_neg c2] at e
      obtain ⟨m, hm⟩ := b1 c1
      obtain ⟨n, hn⟩ := b2 c2
      rw [gd hm, gd hn] at e
      subst e
      obtain ⟨l1, e1⟩ := List.getElem?_eq_some_iff.mp hm
      obtain ⟨l2, e2⟩ := List.getElem?_eq_some_iff.mp hn
      have := (List.getElem_inj nd).mp (e1.trans e2.symm)
      omega
/-- a turn's own slots forgotten -/
theorem Good.wiped (g : Good K F H (ρ ++ τ) (σ2 ++ υ)) (hl : ρ.length = σ2.length) (hw : wipe σ2 vs = wipe σ vs) : Good K F H (wipeE ρ vs ++ τ) (wipe σ vs ++ υ) ∧ ∀ a, Own (wipeE ρ vs ++ τ) (wipe σ vs ++ υ) a → Own (ρ ++ τ) (σ2 ++ υ) a := by
  have hl1 : (wipeE ρ vs).length = (wipe σ vs).length := by rw [wipeE_len, ← hw, wipe_length]; exact hl
  have re : ∀ i r v, Hold (wipeE ρ vs ++ τ) (wipe σ vs ++ υ) i r v → Hold (ρ ++ τ) (σ2 ++ υ) i r v := fun i r v h => by
    by_cases hi : i < ρ.length
    · have h := (hold_left hl1 (by rw [wipeE_len]; exact hi)).mp h
      have hn : i ∉ vs := fun z => wipeE_in z r h.1
      refine hold_app ⟨by rw [← wipeE_out hn]; exact h.1, ?_⟩
      rw [← wipe_out (σ := σ2) hn, hw]
      exact h.2
    · have h := (hold_right hl1 (by rw [wipeE_len]; omega)).mp h
      rw [wipeE_len] at h
      exact (hold_right hl (by omega)).mpr h
  have hl2 : τ.length = υ.length := by
    have := g.len
    simp only [List.length_append] at this
    omega
  refine ⟨g.map (by simp only [List.length_append]; omega) (fun i r h => ?_) id re (fun _ _ _ _ _ _ _ _ _ e => e), fun a => Own.map id re⟩
  by_cases hi : i < (wipeE ρ vs).length
  · rw [List.getElem?_append_left hi] at h
    have hn : i ∉ vs := fun z => wipeE_in z r h
    rw [wipeE_out hn] at h
    obtain ⟨v, e⟩ := (g.left hl).has i r h
    refine ⟨v, ?_⟩
    rw [List.getElem?_append_left (by omega), ← hw, wipe_out hn]
    exact e
  · rw [List.getElem?_append_right (by omega), wipeE_len] at h
    obtain ⟨v, e⟩ := (g.right hl hl2).has _ r h
    refine ⟨v, ?_⟩
    rw [List.getElem?_append_right (by omega), ← hl1, wipeE_len]
    exact e
/-- the slots set aside come back -/
theorem Good.aback {r : R} {v : V} (g : Good K F H (ρ2 ++ (savE ρ1 vs ++ [some r])) (wipe σ vs ++ (savS σ vs ++ [some v]))) (hl : ρ2.length = (wipe σ vs).length) (nd : vs.Nodup) :
    Good K F H (back ρ1 ρ2 vs ++ [some r]) (σ ++ [some v]) ∧ ∀ a, Own (back ρ1 ρ2 vs ++ [some r]) (σ ++ [some v]) a → Own (ρ2 ++ (savE ρ1 vs ++ [some r])) (wipe σ vs ++ (savS σ vs ++ [some v])) a := by
  have hs : ρ2.length = σ.length := by rw [hl, wipe_length]
  have hb : (back ρ1 ρ2 vs).length = σ.length := by rw [back_len]; exact hs
  have hsv : (savE ρ1 vs).length = (savS σ vs).length := by simp
  have re : ∀ i q w, Hold (back ρ1 ρ2 vs ++ [some r]) (σ ++ [some v]) i q w → Hold (ρ2 ++ (savE ρ1 vs ++ [some r])) (wipe σ vs ++ (savS σ vs ++ [some v])) (if i = ρ2.length then ρ2.length + vs.length else if i ∈ vs then ρ2.length + vs.idxOf i else i) q w := fun i q w h => by
    rcases hold_last (τ := []) (υ := []) hb h with ⟨e, rfl, rfl⟩ | ⟨lt, h⟩
    · rw [back_len] at e
      rw [if_pos e]
      refine (hold_right hl (by omega)).mpr ?_
      rw [Nat.add_sub_cancel_left]
      have z := hold_top (ρ := savE ρ1 vs) (σ := savS σ vs) (r := q) (v := w) hsv
      rw [List.length_map] at z
      exact z
    · rw [back_len] at lt
      rw [if_neg (by omega)]
      by_cases hi : i ∈ vs
      · rw [if_pos hi]
        refine (hold_right hl (by omega)).mpr ?_
        rw [Nat.add_sub_cancel_left]
        refine hold_app ⟨?_, ?_⟩
        · rw [List.getElem?_map, List.getElem?_eq_getElem (List.idxOf_lt_length_iff.mpr hi), List.getElem_idxOf]
          show some (getS ρ1 i) = _
          rw [back_in hi h.1]
        · rw [List.getElem?_map, List.getElem?_eq_getElem (List.idxOf_lt_length_iff.mpr hi), List.getElem_idxOf]
          show some ((σ[i]?).join) = _
          rw [h.2]
          rfl
      · rw [if_neg hi]
        refine hold_app ⟨by rw [← back_out hi]; exact h.1, by rw [wipe_out hi]; exact h.2⟩
  refine ⟨g.map (by simp only [List.length_append, List.length_cons, List.length_nil]; omega) (fun i q h => ?_) _ re (fun i j q q' a h1 h2 _ _ e => ?_), fun a => Own.map _ re⟩
  · by_cases hi : i < (back ρ1 ρ2 vs).length
    · rw [List.getElem?_append_left hi] at h
      rw [List.getElem?_append_left (by omega)]
      by_cases hm : i ∈ vs
      · have z := back_in hm h
        have hk : vs.idxOf i < vs.length := List.idxOf_lt_length_iff.mpr hm
        obtain ⟨w, e⟩ := ((g.right hl (by simp only [List.length_append, List.length_cons, List.length_nil]; omega)).left hsv).has (vs.idxOf i) q (by rw [List.getElem?_map, List.getElem?_eq_getElem hk, List.getElem_idxOf]; exact congrArg some z)
        rw [List.getElem?_map, List.getElem?_eq_getElem hk, List.getElem_idxOf] at e
        have e : some ((σ[i]?).join) = some (some w) := e
        have e := Option.some.inj e
        cases c : σ[i]? with
        | none =>
          rw [c] at e
          cases e
        | some o =>
          rw [c] at e
          exact ⟨w, congrArg some e⟩
      · rw [back_out hm] at h
        obtain ⟨w, e⟩ := (g.left hl).has i q h
        exact ⟨w, by rw [← wipe_out hm]; exact e⟩
    · rw [List.getElem?_append_right (by omega)] at h
      have := (List.getElem?_eq_some_iff.mp h).1
      simp at this
      exact ⟨v, by rw [List.getElem?_append_right (by omega), show i - σ.length = 0 by omega]; rfl⟩
  · have l1 := hold_lt h1
    have l2 := hold_lt h2
    simp only [List.length_append, back_len, List.length_cons, List.length_nil] at l1 l2
    by_cases c1 : i = ρ2.length <;> by_cases c2 : j = ρ2.length
    · omega
    · rw [if_pos c1, if_neg c2] at e
      by_cases d2 : j ∈ vs
      · rw [if_pos d2] at e
        have := List.idxOf_lt_length_iff.mpr d2
        omega
      · rw [if_neg d2] at e
        omega
    · rw [if_neg c1, if_pos c2] at e
      by_cases d1 : i ∈ vs
      · rw [if_pos d1] at e
        have := List.idxOf_lt_length_iff.mpr d1
        omega
      · rw [if_neg d1] at e
        omega
    · rw [if_neg c1, if_neg c2] at e
      by_cases d1 : i ∈ vs <;> by_cases d2 : j ∈ vs
      · rw [if_pos d1, if_pos d2] at e
        have e2 : vs.idxOf i = vs.idxOf j := by omega
        have k1 := List.getElem_idxOf (List.idxOf_lt_length_iff.mpr d1)
        have k2 := List.getElem_idxOf (List.idxOf_lt_length_iff.mpr d2)
        rw [← k1, ← k2]
        simp only [e2]
      · rw [if_pos d1, if_neg d2] at e
        omega
      · rw [if_neg d1, if_pos d2] at e
        omega
      · rw [if_neg d1, if_neg d2] at e
        exact e
end
section
variable {t : Tab} {Φ : Phi} {k : Nat} {c : Ctx} {X : Cx} {K : PySem.W.Frag} {F H F1 H1 : Hp} {ρ ρ1 ρ2 : Env} {σ : St}
theorem COk.blk (C : COk t Φ k c X) (s : Shared) (H : Hp) (scope : Scope) (Cd : Addr) (cl : List (Str × Addr)) (fp : List Addr) : COk t Φ k (blkCtx c scope) (X.blk s H scope (compEnvC scope cl Cd X.env) fp) where
  calm := C.calm
  hN := C.hN
  nd := C.nd
  sc := by
    show relS scope X.env.scope = relS scope c.sc
    rw [C.sc]
  fn := rfl
  xe := rfl
  room := C.room
  cs := C.cs
  fr := C.fr
  fns := C.fns
/-- one turn of a comprehension -/
def turnE (Φ : Phi) (elt : E) (tg : Tg) (ifs : E) (d : D) (ρ : Env) : Option (Option D × Env) := (bindT tg d ρ).bind fun ρa => (evT Φ ifs ρa).bind fun (k, ρb) => match k with
  | true => (evE Φ elt ρb).bind fun (r, ρc) => (frzO r).bind fun x => some (some x, ρc)
  | false => some (none, ρb)
theorem lc_read {elt it ifs : E} {tg : Tg} {vs : List Nat} (nd : vs.Nodup) (hsub : ∀ i, i ∈ tg.sl → i ∈ vs) {σ : St} {H : Hp} {Q : VK} (h : tE Φ K (.comp elt tg it ifs vs) σ H Q) :
    tLc (tIt Φ K it) (gT K tg) (tT Φ K ifs) (tE Φ K elt) vs σ H Q := by
  obtain ⟨F, ρ, r, ρz, g, ev, q⟩ := h
  obtain ⟨⟨ds, ρ1⟩, e1, ev⟩ := bnd ev
  obtain ⟨hz, ev⟩ : okN ds.length = true ∧ ((compL (turnE Φ elt tg ifs) vs ds (wipeE ρ1 vs)).bind fun (xs, ρ2) => some (R.l xs, back ρ1 ρ2 vs)) = some (r, ρz) := by
    by_cases z : okN ds.length = true
    · exact ⟨z, by
        have ev : (if okN ds.length = true then (compL (turnE Φ elt tg ifs) vs ds (wipeE ρ1 vs)).bind fun (xs, ρ2) => some (R.l xs, back ρ1 ρ2 vs) else none) = some (r, ρz) := ev
        rw [if_pos z] at ev
        exact ev⟩
    · have ev : (if okN ds.length = true then (compL (turnE Φ elt tg ifs) vs ds (wipeE ρ1 vs)).bind fun (xs, ρ2) => some (R.l xs, back ρ1 ρ2 vs) else none) = some (r, ρz) := ev
      rw [if_neg z] at ev
      cases ev
  obtain ⟨⟨xs, ρ2⟩, e2, ev⟩ := bnd ev
  cases ev
  refine ⟨F, ρ, ds, ρ1, g, e1, fun J F1 H1 s1 g1 wk Dd hD => ?_⟩
  have hlw : (wipeE ρ1 vs).length = (wipe σ vs).length := by rw [wipeE_len, wipe_length]; exact g1.len
  let P : Nat → Hp → Prop := fun i H => ∃ F ρc acc rest, ρc.length = (wipe σ vs).length ∧ Good K F H (ρc ++ (savE ρ1 vs ++ [some (.l acc)])) (wipe σ vs ++ (savS σ vs ++ [some (.ref Dd)])) ∧
    Step F1 H1 (Own ρ1 σ) F H (Own (ρc ++ (savE ρ1 vs ++ [some (.l acc)])) (wipe σ vs ++ (savS σ vs ++ [some (.ref Dd)]))) ∧
    compL (turnE Φ elt tg ifs) vs (ds.drop i) ρc = some (rest, ρ2) ∧ acc ++ rest = xs ∧ acc.length ≤ i
  refine ⟨fun i m H => m = ds.length - i ∧ i ≤ ds.length ∧ P i H, ⟨ds.length, by simp, Nat.zero_le _, ?_⟩, ?_⟩
  · obtain ⟨ga, oa⟩ := g1.aside nd
    have gb := ga.newL (p := Dd) hD (xs := []) (vs := []) .nil
    have sb : Step F1 H1 (Own ρ1 σ) F1 (upd H1 Dd (.lst [])) (Own ((wipeE ρ1 vs ++ savE ρ1 vs) ++ [some (.l [])]) ((wipe σ vs ++ savS σ vs) ++ [some (.ref Dd)])) :=
      (Step.freshOwn (F := F1) (O := Own ρ1 σ) (o := .lst []) hD).weak fun a z => (own_newL ga.len z).imp (oa a) id
    rw [List.append_assoc, List.append_assoc] at gb sb
    exact ⟨F1, _, [], xs, hlw, gb, sb, e2, rfl, Nat.le_refl _⟩
  · rintro i m H ⟨rfl, hi, F, ρc, acc, rest, hl, gg, sg, ec, ex, al⟩
    have sb := sg.fz
    by_cases lt : i < ds.length
    · refine .inr ⟨wk.go i F H lt sb gg.sub, P (i + 1), fun H' p' => ⟨ds.length - (i + 1), by omega, rfl, lt, p'⟩, fun x H' y => ?_⟩
      have hd : ds[i]? = some ds[i] := List.getElem?_eq_getElem lt
      obtain ⟨F', s2, sub2, rp⟩ := wk.yld i F H x H' _ hd sb gg.sub y
      have g2 := gg.grow s2 sub2
      have sg2 := sg.trans (step_none s2)
      rw [List.drop_eq_getElem_cons lt] at ec
      obtain ⟨⟨o, ρx⟩, e3, ec⟩ := bnd ec
      obtain ⟨⟨xs', ρy⟩, e4, ec⟩ := bnd ec
      have ery : ρy = ρ2 := by
        cases o <;> (cases ec; rfl)
      subst ery
      obtain ⟨ρa, e5, e3⟩ := bnd e3
      obtain ⟨⟨b, ρb⟩, e6, e3⟩ := bnd e3
      refine ⟨F', ds[i], ρc, ρa, g2.left hl, rp, e5, fun σ2 hk g3 o3 => ?_⟩
      have hl2 : σ2.length = (wipe σ vs).length := by
        have l1 := g3.len
        have l2 : ∀ (tg : Tg) (d : D) (ρ ρ' : Env), (bindT tg d ρ = some ρ' → ρ'.length = ρ.length) ∧ (∀ dl, bindTs tg dl ρ = some ρ' → ρ'.length = ρ.length) := by
          intro tg
          induction tg with
          | nm i => exact fun d ρ ρ' => ⟨fun e => by cases e; exact setS_len _ _ _, fun dl e => nomatch (show (none : Option Env) = some _ from e)⟩
          | nil => exact fun d ρ ρ' => ⟨fun e => (nomatch (show (none : Option Env) = some _ from e)), fun dl e => by
              cases dl with
              | nil => cases e; rfl
              | cons _ _ => exact nomatch (show (none : Option Env) = some _ from e)⟩
          | cons a b iha ihb => exact fun d ρ ρ' => ⟨fun e => (nomatch (show (none : Option Env) = some _ from e)), fun dl e => by
              cases dl with
              | nil => exact nomatch (show (none : Option Env) = some _ from e)
              | cons d dl =>
                obtain ⟨ρ2, e1, e2⟩ := bnd e
                rw [(ihb d ρ2 ρ').2 dl e2, (iha d ρ ρ2).1 e1]⟩
          | tp a iha => exact fun d ρ ρ' => ⟨fun e => by
              cases d with
              | tuple dl => exact (iha .none ρ ρ').2 dl e
              | list dl => exact (iha .none ρ ρ').2 dl e
              | _ => exact (nomatch (show (none : Option Env) = some _ from e)), fun dl e => nomatch (show (none : Option Env) = some _ from e)⟩
        rw [← l1, (l2 tg ds[i] ρc ρa).1 e5, hl]
      have hla : ρa.length = σ2.length := g3.len
      have hw : wipe σ2 vs = wipe σ vs := by
        rw [wipe_ext (σ := wipe σ vs) (σ2 := σ2) hl2 fun j hj => hk j fun z => hj (hsub j z)]
        exact wipe_ext (wipe_length σ vs) fun j hj => wipe_out hj
      have g4 := g2.frame hl (Step.refl.weak o3) g3
      have s4 : Step F1 H1 (Own ρ1 σ) F' H' (Own (ρa ++ (savE ρ1 vs ++ [some (.l acc)])) (σ2 ++ (savS σ vs ++ [some (.ref Dd)]))) :=
        sg2.trans ((Step.refl.weak o3).app hl hla)
      refine ⟨hw, F', ρa, b, ρb, g3, e6, fun F5 H5 s5 g5 => ?_⟩
      have g6 := g4.frame hla s5 g5
      have s6 := s4.trans (s5.app (τ := savE ρ1 vs ++ [some (.l acc)]) (υ := savS σ vs ++ [some (.ref Dd)]) hla g5.len)
      cases b with
      | false =>
        show P (i + 1) H5
        cases e3
        cases ec
        obtain ⟨g7, o7⟩ := g6.wiped (vs := vs) (σ := σ) g5.len hw
        exact ⟨F5, _, acc, rest, by rw [wipeE_len, g5.len, hl2], g7, s6.weak o7, e4, ex, Nat.le_succ_of_le al⟩
      | true =>
        show tE Φ K elt σ2 H5 _
        obtain ⟨⟨r, ρd⟩, e7, e3⟩ := bnd e3
        obtain ⟨x', e8, e3⟩ := bnd e3
        cases e3
        cases ec
        refine s_frz g5 e7 e8 fun y F7 H7 s7 g7 rp7 => ?_
        have g8 := g6.frame g5.len s7 g7
        have s8 := s6.trans (s7.app (τ := savE ρ1 vs ++ [some (.l acc)]) (υ := savS σ vs ++ [some (.ref Dd)]) g5.len g7.len)
        have hsv : (savE ρ1 vs).length = (savS σ vs).length := by simp
        have top : Hold (ρx ++ (savE ρ1 vs ++ [some (.l acc)])) (σ2 ++ (savS σ vs ++ [some (.ref Dd)])) (ρx.length + vs.length) (.l acc) (.ref Dd) := by
          refine (hold_right g7.len (by omega)).mpr ?_
          rw [Nat.add_sub_cancel_left]
          have z := hold_top (ρ := savE ρ1 vs) (σ := savS σ vs) (r := .l acc) (v := .ref Dd) hsv
          rw [List.length_map] at z
          exact z
        obtain ⟨a, accV, ea, h1, h2, h3⟩ := g8.rep _ _ _ top
        cases ea
        have hw8 := g8.write (ys := acc ++ [x']) (vs := accV ++ [y]) (getS_eq.mpr top.1) top.2 (h2.app (.one rp7))
        have eset : setS (ρx ++ (savE ρ1 vs ++ [some (R.l acc)])) (ρx.length + vs.length) (some (.l (acc ++ [x']))) = ρx ++ (savE ρ1 vs ++ [some (.l (acc ++ [x']))]) := by
          rw [setS_eq, List.set_append_right _ _ (by omega), Nat.add_sub_cancel_left, List.set_append_right _ _ (by simp), List.length_map, Nat.sub_self]
          rfl
        rw [eset] at hw8
        have s9 : Step F7 H7 (Own (ρx ++ (savE ρ1 vs ++ [some (.l acc)])) (σ2 ++ (savS σ vs ++ [some (.ref Dd)]))) F7 (upd H7 Dd (.lst (accV ++ [y]))) (Own (ρx ++ (savE ρ1 vs ++ [some (.l (acc ++ [x']))])) (σ2 ++ (savS σ vs ++ [some (.ref Dd)]))) :=
          (Step.write (F := F7) (H := H7) (o := .lst (accV ++ [y])) ⟨_, _, top, rfl⟩).weak fun b z => by
            rw [← eset] at z
            exact own_write (getS_eq.mpr top.1) z
        obtain ⟨g10, o10⟩ := hw8.wiped (vs := vs) (σ := σ) g7.len hw
        refine ⟨accV, h1, ?_, F7, _, acc ++ [x'], _, by rw [wipeE_len, g7.len, hl2], g10, (s8.trans s9).weak o10, e4, by rw [← ex, List.append_assoc]; rfl, by rw [List.length_append, List.length_singleton]; omega⟩
        have z := okN_le hz
        rw [h2.len]
        omega
    · have e : i = ds.length := by omega
      subst e
      rw [List.drop_length] at ec
      cases ec
      rw [List.append_nil] at ex
      subst ex
      obtain ⟨g3, o3⟩ := gg.aback hl nd
      exact .inl ⟨wk.stop F H sb gg.sub, q (.ref Dd) F H ((s1.trans sg).weak o3) g3⟩
end
end Pv

namespace HT
open PySem PySem.Spec PyProof.Rows
section
variable {prog : Program} {w : World} {A : Around} {E : Value → Shared → Prop} {s : Shared}
theorem rv_adjust (n : Nat) : Builtin.Slice.sliceAdjust none none (-1) (n : Int) = ((n : Int) - 1, -1) := rfl
theorem rv_places (n : Nat) : Builtin.Slice.slicePlaces ((n : Int) - 1) (-1) (-1) = n := by
  unfold Builtin.Slice.slicePlaces
  have h1 : ¬ ((-1 : Int) > 0) := by omega
  have h2 : (- -1 : Int) = 1 := by decide
  simp only [h1, if_false, h2, Int.ediv_one]
  split <;> omega
theorem rv_applied {sl : Addr} {vk : Value} {n : Nat} {Q : Int × Int × Nat → Shared → Prop} (hs : s.heap.IsSliceOf sl .none .none vk) (pk : IsPart vk (some (-1))) (h : Q ((n : Int) - 1, -1, n) s) :
    wpAny (model prog w) A (Builtin.Slice.sliceApplied (.ref sl) (pure (n : Int))) Q E s := by
  obtain ⟨os, hos, hcs, hds⟩ := id hs
  unfold Builtin.Slice.sliceApplied Builtin.Slice.sliceFields
  refine wpAny_bind (wpAny_bind (wpAny_field hos hds (x := .none) rfl (wpAny_bind (wpAny_field hos hds (x := .none) rfl (wpAny_bind (wpAny_field hos hds (x := vk) rfl (wpAny_pure ?_)))))))
  refine wpAny_bind (slicePart_ pk ?_)
  show wpAny _ _ (if ((-1 : Int) == 0) = true then _ else _) _ _ s
  rw [if_neg (by decide)]
  refine wpAny_bind (slicePart_none (wpAny_bind (slicePart_none (wpAny_bind (wpAny_pure ?_)))))
  show wpAny _ _ (match Builtin.Slice.sliceAdjust none none (-1) (n : Int) with | (lo, hi) => pure (lo, (-1 : Int), Builtin.Slice.slicePlaces lo hi (-1))) _ _ s
  rw [rv_adjust n]
  show wpAny _ _ (pure ((n : Int) - 1, (-1 : Int), Builtin.Slice.slicePlaces ((n : Int) - 1) (-1) (-1))) _ _ s
  rw [rv_places]
  exact wpAny_pure h
theorem fm_congr {α β : Type} {f g : α → Option β} : ∀ {l : List α}, (∀ x ∈ l, f x = g x) → l.filterMap f = l.filterMap g
  | [], _ => rfl
  | x :: l, h => by
    rw [List.filterMap_cons, List.filterMap_cons, h x (List.mem_cons_self ..), fm_congr fun y hy => h y (List.mem_cons_of_mem _ hy)]
theorem rv_pick (xs : Array Value) : ((List.range xs.size).filterMap fun (m : Nat) => xs[((xs.size : Int) - 1 + (m : Int) * -1).toNat]?) = xs.toList.reverse := by
  have e : (List.range xs.size).filterMap (fun (m : Nat) => xs[((xs.size : Int) - 1 + (m : Int) * -1).toNat]?) = ((List.range xs.size).map fun k => xs.size - 1 - k).filterMap (xs[·]?) := by
    rw [List.filterMap_map]
    apply fm_congr
    intro k hk
    have := List.mem_range.mp hk
    show xs[_]? = xs[_]?
    rw [show ((xs.size : Int) - 1 + (k : Int) * -1).toNat = xs.size - 1 - k by omega]
  rw [e, PySem.W.krv_range, List.filterMap_reverse, PySem.W.krv_all]
theorem getItem_tuple_rev {t sl : Addr} {items : Array Value} {vk : Value} {Q : Value → Shared → Prop} (ht : IsTup s.heap t items) (hs : s.heap.IsSliceOf sl .none .none vk) (pk : IsPart vk (some (-1)))
    (h : Q (.ref s.heap.objs.size) { s with heap := s.heap.push { cls := .type "tuple", data := .seq items.toList.reverse.toArray } })
    (hsz : items.size ≤ sizeLine) : wpAny (model prog w) A (getItem (.ref t) (.ref sl)) Q E s := by
  have htake : sizeOk (.seq items.toList.reverse.toArray) := by
    show items.toList.reverse.toArray.size ≤ sizeLine
    rw [List.size_toArray, List.length_reverse, Array.length_toList]
    omega
  obtain ⟨os, hos, hcs, hds⟩ := id hs
  have hTs : s.TypeIs (.ref sl) "slice" := ⟨os, hos, hcs⟩
  unfold getItem
  try with_reducible refine wpAny_holding ?_
  first | refine wpAny_bind (wpAny_pure ?_) | skip
  refine wpAny_bind (wpAny_sequenceKey ht.typeIs (by decide) ?_)
  refine wpAny_bind (wpAny_callSpecial?_slot (name := Str.ofString "__getitem__") ht.typeIs PyProof.Rows.slot_tuple_getitem
    (wpAny_call_entry PyProof.Rows.slot_tuple_getitem ht.typeIs entry_tuple_getitem ?_ (args_tuple_getitem _ _)))
  show wpAny _ _ (Builtin.Tuple.tupleItemsOf (.ref t) >>= _) _ _ s
  refine wpAny_bind (tupleItemsOf_ ht ?_)
  refine wpAny_bind (wpAny_typeOf hTs ?_)
  rw [if_pos (by decide)]
  refine wpAny_bind (rv_applied hs pk ?_)
  have hno : ¬ ((((items.size : Int) - 1 == 0) && (-1 : Int) == 1 && items.size == items.size) = true) := by
    rw [show ((-1 : Int) == 1) = false by decide, Bool.and_false, Bool.false_and]
    decide
  show wpAny _ _ (if ((((items.size : Int) - 1 == 0) && (-1 : Int) == 1 && items.size == items.size) = true) then _ else _) _ _ s
  rw [if_neg hno, rv_pick]
  first
    | exact wpAny_bind (m := Builtin.Tuple.tupleExact _) (wpAny_newObj_type (wpAny_pure ⟨_, rfl, wpAny_pure h⟩) htake)
    | exact wpAny_bind (m := Builtin.Tuple.tupleExact _) (wpAny_newObj_type (wpAny_bind (wpAny_pure (wpAny_pure ⟨_, rfl, wpAny_pure h⟩))) htake)
    | exact wpAny_bind (wpAny_bind (m := Builtin.Tuple.tupleExact _) (wpAny_newObj_type (wpAny_pure (wpAny_pure ⟨_, rfl, wpAny_pure h⟩)) htake))
    | exact wpAny_bind (wpAny_bind (m := Builtin.Tuple.tupleExact _) (wpAny_newObj_type (wpAny_pure ⟨_, rfl, wpAny_pure h⟩) htake))
end
end HT
namespace Pv
open PySem PySem.Spec L2 PyProof.Rows
section
variable {t : Tab} {Φ : Phi} {k : Nat} {c : Ctx} {X : Cx}
theorem vals_app : ∀ {xs ys : List V} {us ws : List Value}, Vals xs us → Vals ys ws → Vals (xs ++ ys) (us ++ ws)
  | _, _, _, _, .nil, h => h
  | _, _, _, _, .cons a b, h => .cons a (vals_app b h)
theorem vals_rev : ∀ {xs : List V} {us : List Value}, Vals xs us → Vals xs.reverse us.reverse
  | _, _, .nil => .nil
  | _, _, .cons a b => by
    rw [List.reverse_cons, List.reverse_cons]
    exact vals_app (vals_rev b) (.cons a .nil)
theorem pe_m1 {kk} {q1 q2 : Pos} : PE X (.UnaryOp .USub (.Constant (.int 1) kk q1) q2) (tC (.int (-1))) := (pe_un un_neg pe_int).imp fun σ H Q q => ⟨1, rfl, q⟩
theorem s_rev {a : E} {ea : Expr} {kk} {q1 q2 p2 pos : Pos} (ha : PE X ea (tO Φ X.K a)) : PE X (.Subscript ea (.Slice none none (some (.UnaryOp .USub (.Constant (.int 1) kk q1) q2)) p2) pos) (tE Φ X.K (.rev a)) := by
  refine ⟨fun pins s σ H Q I ⟨F, ρ, r, ρ1, g, ev, q⟩ => ?_⟩
  obtain ⟨⟨x, ρa⟩, e1, ev⟩ := bnd ev
  obtain ⟨d, e2, ev⟩ := bnd ev
  obtain ⟨r', e3, ev⟩ := bnd ev
  cases ev
  refine Subscript_ (thn (ha.run pins s σ H (fun v H2 => ∃ F2, Step F H (Own ρ σ) F2 H2 (Own ρ1 σ) ∧ Good X.K F2 H2 ρ1 σ ∧ RO F2 σ v x) I ⟨F, ρ, x, ρ1, g, e1, fun v F2 H2 s2 g2 r2 => ⟨F2, s2, g2, r2⟩⟩) fun v s1 ⟨y, H2, I2, r2, F2, st2, g2, ro⟩ => ?_)
  refine wpAny_Slice ?_
  rw [evalPart_none]
  refine wpAny_pure (wpAny_pure ?_)
  refine thn ((po_some pe_m1).run pins s1 σ H2 (fun o H3 => o = some (-1) ∧ H3 = H2) I2 ⟨-1, rfl, rfl, rfl⟩) fun vk s3 ⟨o, H3, I3, pk, eo, eh⟩ => ?_
  subst eo eh
  have I4 : Inv X pins σ H3 { s3 with heap := s3.heap.push { cls := .type "slice", data := .fields #[.none, .none, vk] } } := I3.kept (t' := s3.toks) fun b ob q => Heap.get?_push_of_some _ q
  have nr : NewR F2 H3 r Q := NewR.of q st2 g2
  have vw := ro.vw g2 e2
  have hsl : Heap.IsSliceOf (s3.heap.push { cls := .type "slice", data := .fields #[.none, .none, vk] }) s3.heap.objs.size .none .none vk := Heap.IsSliceOf.new ..
  show wpAny (model X.prog X.w) X.A (subscriptTail ea (.Slice none none (some (.UnaryOp .USub (.Constant (.int 1) kk q1) q2)) p2) v (.ref s3.heap.objs.size)) (EP X pins σ Q) X.xe { s3 with heap := s3.heap.push { cls := .type "slice", data := .fields #[.none, .none, vk] } }
  cases d with
  | list ds =>
    cases e3
    obtain ⟨ad, us, ea, h1, h2⟩ := vw
    subst ea
    cases r2
    obtain ⟨its, r, ht, hz⟩ := I4.list (SqL.of h1)
    have hlen := r.length
    refine tail_any (ops := [.ref ad, .ref s3.heap.objs.size]) ht.isList.typeIs slot_list_getitem.lookup ?_ (by with_unfolding_all rfl)
    refine wpAny_getItem_list_slice ht.isList hsl .none .none pk (by simp) ?_ (by rw [List.size_toArray] <;> omega)
    rw [PySem.W.krv_pick]
    refine ⟨.ref (s3.heap.push { cls := .type "slice", data := .fields #[.none, .none, vk] }).objs.size, _, I4.laid (t' := s3.toks) (o := .lst us.reverse) (fun b ob q => Heap.get?_push_of_some _ q) (Nat.le_refl _) ?_, rfl, nr.lst h2.rev _ (I4.hok.fresh (Nat.le_refl _))⟩
    exact ⟨by rw [List.length_reverse]; exact hz, its.reverse, 0, by
      have : Vals us.reverse its.reverse := by
        exact vals_rev r
      exact this, Heap.get?_push_size _ rfl⟩
  | tuple ds =>
    cases e3
    obtain ⟨ad, us, ea, h1, h2⟩ := (show Vw F2 H3 _ (.tuple _) from vw)
    subst ea
    cases r2
    obtain ⟨its, r, ht, hz⟩ := I4.tuple (SqT.of (g2.sub _ _ h1))
    have hlen := r.length
    refine tail_any (ops := [.ref ad, .ref s3.heap.objs.size]) ht.typeIs PyProof.Rows.slot_tuple_getitem.lookup ?_ (by with_unfolding_all rfl)
    refine HT.getItem_tuple_rev ht hsl pk ?_ (by rw [List.size_toArray] <;> omega)
    refine ⟨.ref (s3.heap.push { cls := .type "slice", data := .fields #[.none, .none, vk] }).objs.size, _, I4.laid (t' := s3.toks) (o := .tup us.reverse) (fun b ob q => Heap.get?_push_of_some _ q) (Nat.le_refl _) ?_, rfl, nr.tup g2.sub h2.rev _ (I4.hok.fresh (Nat.le_refl _))⟩
    exact ⟨by rw [List.length_reverse]; exact hz, its.reverse, by
      have : Vals us.reverse its.reverse := by
        exact vals_rev r
      exact this, IsTup.new _ _⟩
  | _ => cases e3
end
end Pv

namespace Pv
open PySem PySem.Spec L2
/-! ## what the looks say -/
section
variable {t : Tab}
theorem v_var {i : Nat} {c : Ctx} {e : Expr} (h : chkE t (.var i) c e = true) : ∃ x p, e = .Name x p ∧ varB c i x = true := by
  cases e with
  | Name x p =>
    exact ⟨x, p, rfl, h⟩
  | _ => exact nomatch (show false = true from h)

theorem v_mv {i : Nat} {c : Ctx} {e : Expr} (h : chkE t (.mv i) c e = true) : ∃ x p, e = .Name x p ∧ varB c i x = true := by
  cases e with
  | Name x p =>
    exact ⟨x, p, rfl, h⟩
  | _ => exact nomatch (show false = true from h)

theorem v_num {z : Int} {c : Ctx} {e : Expr} (h : chkE t (.num z) c e = true) : ∃ k p, e = .Constant (.int z) k p := by
  cases e with
  | Constant v k p =>
    cases v with
    | int y =>
      obtain rfl : z = y := of_decide_eq_true h
      exact ⟨k, p, rfl⟩
    | _ => exact nomatch (show false = true from h)
  | _ => exact nomatch (show false = true from h)

theorem v_bl {z : Bool} {c : Ctx} {e : Expr} (h : chkE t (.bl z) c e = true) : ∃ k p, e = .Constant (.bool z) k p := by
  cases e with
  | Constant v k p =>
    cases v with
    | bool y =>
      obtain rfl : z = y := eq_of_beq (show (z == y) = true from h)
      exact ⟨k, p, rfl⟩
    | _ => exact nomatch (show false = true from h)
  | _ => exact nomatch (show false = true from h)

theorem v_str {z : Str} {c : Ctx} {e : Expr} (h : chkE t (.str z) c e = true) : ∃ k p, e = .Constant (.str z) k p := by
  cases e with
  | Constant v k p =>
    cases v with
    | str y =>
      obtain rfl : z = y := sEq_t h
      exact ⟨k, p, rfl⟩
    | _ => exact nomatch (show false = true from h)
  | _ => exact nomatch (show false = true from h)

theorem v_non  {c : Ctx} {e : Expr} (h : chkE t (.non) c e = true) : ∃ k p, e = .Constant .none k p := by
  cases e with
  | Constant v k p =>
    cases v with
    | none  =>
      exact ⟨k, p, rfl⟩
    | _ => exact nomatch (show false = true from h)
  | _ => exact nomatch (show false = true from h)

theorem v_cst {x : Str} {z : Int} {c : Ctx} {e : Expr} (h : chkE t (.cst x z) c e = true) : ∃ p, e = .Name x p ∧ gloB c x = true ∧ (t.cs.any fun p => sEq p.1 x && decide (p.2 = z)) = true := by
  cases e with
  | Name y p =>
    obtain ⟨h, h3⟩ := and_t h
    obtain ⟨h1, h2⟩ := and_t h
    obtain rfl := sEq_t h1
    exact ⟨p, rfl, h2, h3⟩
  | _ => exact nomatch (show false = true from h)

theorem v_bin {op : Operator} {a b : E} {c : Ctx} {e : Expr} (h : chkE t (.bin op a b) c e = true) : ∃ l r p, e = .BinOp l op r p ∧ chkE t a c l = true ∧ chkE t b c r = true := by
  cases e with
  | BinOp l o r p =>
    obtain ⟨h, h3⟩ := and_t h
    obtain ⟨h1, h2⟩ := and_t h
    obtain rfl : op = o := of_decide_eq_true h1
    exact ⟨l, r, p, rfl, h2, h3⟩
  | _ => exact nomatch (show false = true from h)

theorem v_neg {a : E} {c : Ctx} {e : Expr} (h : chkE t (.neg a) c e = true) : ∃ l p, e = .UnaryOp .USub l p ∧ chkE t a c l = true := by
  cases e with
  | UnaryOp o l p =>
    cases o with
    | USub  =>
      exact ⟨l, p, rfl, h⟩
    | _ => exact nomatch (show false = true from h)
  | _ => exact nomatch (show false = true from h)

theorem v_not {a : E} {c : Ctx} {e : Expr} (h : chkE t (.not_ a) c e = true) : ∃ l p, e = .UnaryOp .Not l p ∧ chkE t a c l = true := by
  cases e with
  | UnaryOp o l p =>
    cases o with
    | Not  =>
      exact ⟨l, p, rfl, h⟩
    | _ => exact nomatch (show false = true from h)
  | _ => exact nomatch (show false = true from h)

theorem v_cmp {op : CmpOp} {a b : E} {c : Ctx} {e : Expr} (h : chkE t (.cmp op a b) c e = true) : ∃ l r p, e = .Compare l [op] [r] p ∧ chkE t a c l = true ∧ chkE t b c r = true ∧ noSet r = true := by
  cases e with
  | Compare l os rs p =>
    cases os with
    | nil => exact nomatch (show false = true from h)
    | cons o os =>
      cases os with
      | cons _ _ => exact nomatch (show false = true from h)
      | nil =>
        cases rs with
        | nil => exact nomatch (show false = true from h)
        | cons r rs =>
          cases rs with
          | cons _ _ => exact nomatch (show false = true from h)
          | nil =>
            obtain ⟨h, h4⟩ := and_t h
            obtain ⟨h, h3⟩ := and_t h
            obtain ⟨h1, h2⟩ := and_t h
            obtain rfl : op = o := of_decide_eq_true h1
            exact ⟨l, r, p, rfl, h2, h3, h4⟩
  | _ => exact nomatch (show false = true from h)

theorem v_tcmp {op : CmpOp} {a b : E} {c : Ctx} {e : Expr} (h : chkT t (.tcmp op a b) c e = true) : ∃ l r p, e = .Compare l [op] [r] p ∧ chkE t a c l = true ∧ chkE t b c r = true ∧ noSet r = true := by
  cases e with
  | Compare l os rs p =>
    cases os with
    | nil => exact nomatch (show false = true from h)
    | cons o os =>
      cases os with
      | cons _ _ => exact nomatch (show false = true from h)
      | nil =>
        cases rs with
        | nil => exact nomatch (show false = true from h)
        | cons r rs =>
          cases rs with
          | cons _ _ => exact nomatch (show false = true from h)
          | nil =>
            obtain ⟨h, h4⟩ := and_t h
            obtain ⟨h, h3⟩ := and_t h
            obtain ⟨h1, h2⟩ := and_t h
            obtain rfl : op = o := of_decide_eq_true h1
            exact ⟨l, r, p, rfl, h2, h3, h4⟩
  | _ => exact nomatch (show false = true from h)

theorem v_chain {o1 o2 : CmpOp} {a b d : E} {c : Ctx} {e : Expr} (h : chkE t (.chain o1 o2 a b d) c e = true) : ∃ l m r p, e = .Compare l [o1, o2] [m, r] p ∧ chkE t a c l = true ∧ chkE t b c m = true ∧ chkE t d c r = true ∧ noSet m = true ∧ noSet r = true := by
  cases e with
  | Compare l os rs p =>
    cases os with
    | nil => exact nomatch (show false = true from h)
    | cons q1 os =>
      cases os with
      | nil => 
        cases rs with
        | nil => exact nomatch (show false = true from h)
        | cons _ _ => exact nomatch (show false = true from h)
      | cons q2 os =>
        cases os with
        | cons _ _ => exact nomatch (show false = true from h)
        | nil =>
          cases rs with
          | nil => exact nomatch (show false = true from h)
          | cons m rs =>
            cases rs with
            | nil => exact nomatch (show false = true from h)
            | cons r rs =>
              cases rs with
              | cons _ _ => exact nomatch (show false = true from h)
              | nil =>
                obtain ⟨h, h7⟩ := and_t h
                obtain ⟨h, h6⟩ := and_t h
                obtain ⟨h, h5⟩ := and_t h
                obtain ⟨h, h4⟩ := and_t h
                obtain ⟨h, h3⟩ := and_t h
                obtain ⟨h1, h2⟩ := and_t h
                obtain rfl : o1 = q1 := of_decide_eq_true h1
                obtain rfl : o2 = q2 := of_decide_eq_true h2
                exact ⟨l, m, r, p, rfl, h3, h4, h5, h6, h7⟩
  | _ => exact nomatch (show false = true from h)

theorem v_tchain {o1 o2 : CmpOp} {a b d : E} {c : Ctx} {e : Expr} (h : chkT t (.tchain o1 o2 a b d) c e = true) : ∃ l m r p, e = .Compare l [o1, o2] [m, r] p ∧ chkE t a c l = true ∧ chkE t b c m = true ∧ chkE t d c r = true ∧ noSet m = true ∧ noSet r = true := by
  cases e with
  | Compare l os rs p =>
    cases os with
    | nil => exact nomatch (show false = true from h)
    | cons q1 os =>
      cases os with
      | nil => 
        cases rs with
        | nil => exact nomatch (show false = true from h)
        | cons _ _ => exact nomatch (show false = true from h)
      | cons q2 os =>
        cases os with
        | cons _ _ => exact nomatch (show false = true from h)
        | nil =>
          cases rs with
          | nil => exact nomatch (show false = true from h)
          | cons m rs =>
            cases rs with
            | nil => exact nomatch (show false = true from h)
            | cons r rs =>
              cases rs with
              | cons _ _ => exact nomatch (show false = true from h)
              | nil =>
                obtain ⟨h, h7⟩ := and_t h
                obtain ⟨h, h6⟩ := and_t h
                obtain ⟨h, h5⟩ := and_t h
                obtain ⟨h, h4⟩ := and_t h
                obtain ⟨h, h3⟩ := and_t h
                obtain ⟨h1, h2⟩ := and_t h
                obtain rfl : o1 = q1 := of_decide_eq_true h1
                obtain rfl : o2 = q2 := of_decide_eq_true h2
                exact ⟨l, m, r, p, rfl, h3, h4, h5, h6, h7⟩
  | _ => exact nomatch (show false = true from h)

theorem v_and {a b : E} {c : Ctx} {e : Expr} (h : chkE t (.and_ a b) c e = true) : ∃ x y r p, e = .BoolOp .And (x :: y :: r) p ∧ chkE t a c x = true ∧ ((r = [] ∧ chkE t b c y = true) ∨ chkE t b c (.BoolOp .And (y :: r) p) = true) := by
  cases e with
  | BoolOp o xs p =>
    cases o with
    | And  =>
      cases xs with
      | nil => exact nomatch (show false = true from h)
      | cons x xs =>
        cases xs with
        | nil => exact nomatch (show false = true from h)
        | cons y xs =>
          cases xs with
          | nil =>
            obtain ⟨h1, h2⟩ := and_t h
            exact ⟨x, y, [], p, rfl, h1, .inl ⟨rfl, h2⟩⟩
          | cons z r =>
            obtain ⟨h1, h2⟩ := and_t h
            exact ⟨x, y, z :: r, p, rfl, h1, .inr h2⟩
    | _ => exact nomatch (show false = true from h)
  | _ => exact nomatch (show false = true from h)

theorem v_or {a b : E} {c : Ctx} {e : Expr} (h : chkE t (.or_ a b) c e = true) : ∃ x y r p, e = .BoolOp .Or (x :: y :: r) p ∧ chkE t a c x = true ∧ ((r = [] ∧ chkE t b c y = true) ∨ chkE t b c (.BoolOp .Or (y :: r) p) = true) := by
  cases e with
  | BoolOp o xs p =>
    cases o with
    | Or  =>
      cases xs with
      | nil => exact nomatch (show false = true from h)
      | cons x xs =>
        cases xs with
        | nil => exact nomatch (show false = true from h)
        | cons y xs =>
          cases xs with
          | nil =>
            obtain ⟨h1, h2⟩ := and_t h
            exact ⟨x, y, [], p, rfl, h1, .inl ⟨rfl, h2⟩⟩
          | cons z r =>
            obtain ⟨h1, h2⟩ := and_t h
            exact ⟨x, y, z :: r, p, rfl, h1, .inr h2⟩
    | _ => exact nomatch (show false = true from h)
  | _ => exact nomatch (show false = true from h)

theorem v_tand {a b : E} {c : Ctx} {e : Expr} (h : chkT t (.tand a b) c e = true) : ∃ x y r p, e = .BoolOp .And (x :: y :: r) p ∧ chkT t a c x = true ∧ ((r = [] ∧ chkT t b c y = true) ∨ chkT t b c (.BoolOp .And (y :: r) p) = true) := by
  cases e with
  | BoolOp o xs p =>
    cases o with
    | And  =>
      cases xs with
      | nil => exact nomatch (show false = true from h)
      | cons x xs =>
        cases xs with
        | nil => exact nomatch (show false = true from h)
        | cons y xs =>
          cases xs with
          | nil =>
            obtain ⟨h1, h2⟩ := and_t h
            exact ⟨x, y, [], p, rfl, h1, .inl ⟨rfl, h2⟩⟩
          | cons z r =>
            obtain ⟨h1, h2⟩ := and_t h
            exact ⟨x, y, z :: r, p, rfl, h1, .inr h2⟩
    | _ => exact nomatch (show false = true from h)
  | _ => exact nomatch (show false = true from h)

theorem v_tor {a b : E} {c : Ctx} {e : Expr} (h : chkT t (.tor a b) c e = true) : ∃ x y r p, e = .BoolOp .Or (x :: y :: r) p ∧ chkT t a c x = true ∧ ((r = [] ∧ chkT t b c y = true) ∨ chkT t b c (.BoolOp .Or (y :: r) p) = true) := by
  cases e with
  | BoolOp o xs p =>
    cases o with
    | Or  =>
      cases xs with
      | nil => exact nomatch (show false = true from h)
      | cons x xs =>
        cases xs with
        | nil => exact nomatch (show false = true from h)
        | cons y xs =>
          cases xs with
          | nil =>
            obtain ⟨h1, h2⟩ := and_t h
            exact ⟨x, y, [], p, rfl, h1, .inl ⟨rfl, h2⟩⟩
          | cons z r =>
            obtain ⟨h1, h2⟩ := and_t h
            exact ⟨x, y, z :: r, p, rfl, h1, .inr h2⟩
    | _ => exact nomatch (show false = true from h)
  | _ => exact nomatch (show false = true from h)

theorem v_tnot {a : E} {c : Ctx} {e : Expr} (h : chkT t (.tnot a) c e = true) : ∃ l p, e = .UnaryOp .Not l p ∧ chkT t a c l = true := by
  cases e with
  | UnaryOp o l p =>
    cases o with
    | Not  =>
      exact ⟨l, p, rfl, h⟩
    | _ => exact nomatch (show false = true from h)
  | _ => exact nomatch (show false = true from h)

theorem v_ife {d a b : E} {c : Ctx} {e : Expr} (h : chkE t (.ife d a b) c e = true) : ∃ x l r p, e = .IfExp x l r p ∧ chkT t d c x = true ∧ chkE t a c l = true ∧ chkE t b c r = true := by
  cases e with
  | IfExp x l r p =>
    obtain ⟨h, h3⟩ := and_t h
    obtain ⟨h1, h2⟩ := and_t h
    exact ⟨x, l, r, p, rfl, h1, h2, h3⟩
  | _ => exact nomatch (show false = true from h)

theorem v_tup {a : E} {c : Ctx} {e : Expr} (h : chkE t (.tup a) c e = true) : ∃ l k p, e = .Tuple l k p ∧ chkO t a c l = true := by
  cases e with
  | Tuple l k p =>
    exact ⟨l, k, p, rfl, h⟩
  | _ => exact nomatch (show false = true from h)

theorem v_lst {a : E} {c : Ctx} {e : Expr} (h : chkE t (.lst a) c e = true) : ∃ l p, e = .List l p ∧ chkO t a c l = true := by
  cases e with
  | List l p =>
    exact ⟨l, p, rfl, h⟩
  | _ => exact nomatch (show false = true from h)

theorem v_idx {a b : E} {c : Ctx} {e : Expr} (h : chkE t (.idx a b) c e = true) : ∃ l r p, e = .Subscript l r p ∧ chkE t a c l = true ∧ chkE t b c r = true ∧ plainIx r = true := by
  cases e with
  | Subscript l r p =>
    obtain ⟨h, h3⟩ := and_t h
    obtain ⟨h1, h2⟩ := and_t h
    exact ⟨l, r, p, rfl, h1, h2, h3⟩
  | _ => exact nomatch (show false = true from h)

theorem v_slc {a lo hi : E} {c : Ctx} {e : Expr} (h : chkE t (.slc a lo hi) c e = true) : ∃ l u v q p, e = .Subscript l (.Slice u v none q) p ∧ chkE t a c l = true ∧ chkB t lo c u = true ∧ chkB t hi c v = true := by
  cases e with
  | Subscript l r p =>
    cases r with
    | Slice u v w q =>
      cases w with
      | some _ => exact nomatch (show false = true from h)
      | none =>
        obtain ⟨h, h3⟩ := and_t h
        obtain ⟨h1, h2⟩ := and_t h
        exact ⟨l, u, v, q, p, rfl, h1, h2, h3⟩
    | _ => exact nomatch (show false = true from h)
  | _ => exact nomatch (show false = true from h)

theorem v_rev {a : E} {c : Ctx} {e : Expr} (h : chkE t (.rev a) c e = true) : ∃ l k q1 q2 q3 p, e = .Subscript l (.Slice none none (some (.UnaryOp .USub (.Constant (.int 1) k q1) q2)) q3) p ∧ chkE t a c l = true := by
  cases e with
  | Subscript l r p =>
    cases r with
    | Slice u v w q =>
      cases u with
      | some _ => exact nomatch (show false = true from h)
      | none =>
        cases v with
        | some _ => exact nomatch (show false = true from h)
        | none =>
          cases w with
          | none => exact nomatch (show false = true from h)
          | some w =>
            cases w with
            | UnaryOp o x q2 =>
              cases o with
              | USub  =>
                cases x with
                | Constant y k q1 =>
                  cases y with
                  | int z =>
                    obtain ⟨h1, h2⟩ := and_t h
                    obtain rfl : z = 1 := of_decide_eq_true h2
                    exact ⟨l, k, q1, q2, q, p, rfl, h1⟩
                  | _ => exact nomatch (show false = true from h)
                | _ => exact nomatch (show false = true from h)
              | _ => exact nomatch (show false = true from h)
            | _ => exact nomatch (show false = true from h)
    | _ => exact nomatch (show false = true from h)
  | _ => exact nomatch (show false = true from h)

theorem v_call {f : Str} {es : E} {c : Ctx} {e : Expr} (h : chkE t (.call f es) c e = true) : ∃ y ys q p, e = .Call (.Name f q) (y :: ys) [] p ∧ gloB c f = true ∧ (t.fns.any fun p => sEq p.1 f && decide (p.2 = (y :: ys).length)) = true ∧ chkO t es c (y :: ys) = true ∧ noStar (y :: ys) = true := by
  cases e with
  | Call f as kws p =>
    cases f with
    | Name x q =>
      cases kws with
      | cons _ _ => exact nomatch (show false = true from h)
      | nil =>
        obtain ⟨h, h6⟩ := and_t h
        obtain ⟨h, h5⟩ := and_t h
        obtain ⟨h, h4⟩ := and_t h
        obtain ⟨h, h3⟩ := and_t h
        obtain ⟨h1, h2⟩ := and_t h
        obtain rfl := sEq_t h1
        cases as with
        | nil => exact nomatch (show false = true from h5)
        | cons y ys => exact ⟨y, ys, q, p, rfl, h2, h3, h4, h6⟩
    | _ => exact nomatch (show false = true from h)
  | _ => exact nomatch (show false = true from h)

theorem v_bi {b : Bi} {es : E} {c : Ctx} {e : Expr} (h : chkE t (.bi b es) c e = true) : ∃ as q p, e = .Call (.Name b.nm q) as [] p ∧ bltB t c b.nm = true ∧ chkO t es c as = true ∧ as.length = b.ar ∧ noStar as = true := by
  cases e with
  | Call f as kws p =>
    cases f with
    | Name x q =>
      cases kws with
      | cons _ _ => exact nomatch (show false = true from h)
      | nil =>
        obtain ⟨h, h5⟩ := and_t h
        obtain ⟨h, h4⟩ := and_t h
        obtain ⟨h, h3⟩ := and_t h
        obtain ⟨h1, h2⟩ := and_t h
        obtain rfl := sEq_t h1
        exact ⟨as, q, p, rfl, h2, h3, of_decide_eq_true h4, h5⟩
    | _ => exact nomatch (show false = true from h)
  | _ => exact nomatch (show false = true from h)

theorem v_isi {a : E} {ts : List Ty} {c : Ctx} {e : Expr} (h : chkE t (.isi a ts) c e = true) : ∃ y f q p, e = .Call (.Name "isinstance" q) [y, f] [] p ∧ bltB t c "isinstance" = true ∧ chkE t a c y = true ∧ (!isStar y) = true ∧ isiB t c ts f = true := by
  cases e with
  | Call f as kws p =>
    cases f with
    | Name x q =>
      cases as with
      | nil => exact nomatch (show false = true from h)
      | cons y as =>
        cases as with
        | nil => exact nomatch (show false = true from h)
        | cons f as =>
          cases as with
          | cons _ _ => exact nomatch (show false = true from h)
          | nil =>
            cases kws with
            | cons _ _ => exact nomatch (show false = true from h)
            | nil =>
              obtain ⟨h, h5⟩ := and_t h
              obtain ⟨h, h4⟩ := and_t h
              obtain ⟨h, h3⟩ := and_t h
              obtain ⟨h1, h2⟩ := and_t h
              obtain rfl := sEq_t h1
              exact ⟨y, f, q, p, rfl, h2, h3, h4, h5⟩
    | _ => exact nomatch (show false = true from h)
  | _ => exact nomatch (show false = true from h)

theorem v_mt {m : Mt} {o es : E} {c : Ctx} {e : Expr} (h : chkE t (.mt m o es) c e = true) : ∃ l ap y p, e = .Call (.Attribute l m.nm ap) [y] [] p ∧ chkE t o c l = true ∧ notSuper l = true ∧ chkO t es c [y] = true ∧ (!isStar y) = true ∧ (ap.endLine == p.line) = true := by
  cases e with
  | Call f as kws p =>
    cases f with
    | Attribute l x q =>
      cases as with
      | nil => exact nomatch (show false = true from h)
      | cons y as =>
        cases as with
        | cons _ _ => exact nomatch (show false = true from h)
        | nil =>
          cases kws with
          | cons _ _ => exact nomatch (show false = true from h)
          | nil =>
            obtain ⟨h, h6⟩ := and_t h
            obtain ⟨h, h5⟩ := and_t h
            obtain ⟨h, h4⟩ := and_t h
            obtain ⟨h, h3⟩ := and_t h
            obtain ⟨h1, h2⟩ := and_t h
            obtain rfl := sEq_t h1
            exact ⟨l, q, y, p, rfl, h2, h3, h4, h5, h6⟩
    | _ => exact nomatch (show false = true from h)
  | _ => exact nomatch (show false = true from h)

theorem v_pop {i : Nat} {c : Ctx} {e : Expr} (h : chkE t (.pop i) c e = true) : ∃ y yp ap p, e = .Call (.Attribute (.Name y yp) "pop" ap) [] [] p ∧ varB c i y = true ∧ (ap.endLine == p.line) = true := by
  cases e with
  | Call f as kws p =>
    cases f with
    | Attribute l x q =>
      cases l with
      | Name y yp =>
        cases as with
        | cons _ _ => exact nomatch (show false = true from h)
        | nil =>
          cases kws with
          | cons _ _ => exact nomatch (show false = true from h)
          | nil =>
            obtain ⟨h, h3⟩ := and_t h
            obtain ⟨h1, h2⟩ := and_t h
            obtain rfl := sEq_t h1
            exact ⟨y, yp, q, p, rfl, h2, h3⟩
      | _ => exact nomatch (show false = true from h)
    | _ => exact nomatch (show false = true from h)
  | _ => exact nomatch (show false = true from h)

theorem v_lrg_true {it : E} {c : Ctx} {e : Expr} (h : chkE t (.lrg true it) c e = true) : ∃ y q p, e = .Call (.Name "tuple" q) [y] [] p ∧ bltB t c "tuple" = true ∧ chkR t it c y = true := by
  cases e with
  | Call f as kws p =>
    cases f with
    | Name x q =>
      cases as with
      | nil => exact nomatch (show false = true from h)
      | cons y as =>
        cases as with
        | cons _ _ => exact nomatch (show false = true from h)
        | nil =>
          cases kws with
          | cons _ _ => exact nomatch (show false = true from h)
          | nil =>
            obtain ⟨h, h3⟩ := and_t h
            obtain ⟨h1, h2⟩ := and_t h
            obtain rfl := sEq_t h1
            exact ⟨y, q, p, rfl, h2, h3⟩
    | _ => exact nomatch (show false = true from h)
  | _ => exact nomatch (show false = true from h)

theorem v_lrg_false {it : E} {c : Ctx} {e : Expr} (h : chkE t (.lrg false it) c e = true) : ∃ y q p, e = .Call (.Name "list" q) [y] [] p ∧ bltB t c "list" = true ∧ chkR t it c y = true := by
  cases e with
  | Call f as kws p =>
    cases f with
    | Name x q =>
      cases as with
      | nil => exact nomatch (show false = true from h)
      | cons y as =>
        cases as with
        | cons _ _ => exact nomatch (show false = true from h)
        | nil =>
          cases kws with
          | cons _ _ => exact nomatch (show false = true from h)
          | nil =>
            obtain ⟨h, h3⟩ := and_t h
            obtain ⟨h1, h2⟩ := and_t h
            obtain rfl := sEq_t h1
            exact ⟨y, q, p, rfl, h2, h3⟩
    | _ => exact nomatch (show false = true from h)
  | _ => exact nomatch (show false = true from h)

theorem v_comp {elt : E} {tg : Tg} {it ifs : E} {vs : List Nat} {c : Ctx} {e : Expr} (h : chkE t (.comp elt tg it ifs vs) c e = true) : ∃ y g iter fs scope p, e = .ListComp y [⟨g, iter, fs, 0⟩] scope p ∧ chkI t it c g iter = true ∧ noSet iter = true ∧ blkC c.N c.sc scope (ownOf c.N vs) = true ∧ (ownOf c.N vs).map (·.2) = vs ∧ (∀ i, i ∈ tg.sl → i ∈ vs) ∧ vs.Nodup ∧ chkTg (blkCtx c scope) tg g = true ∧ ((fs = [] ∧ isYes ifs = true) ∨ ∃ f, fs = [f] ∧ chkT t ifs (blkCtx c scope) f = true) ∧ chkE t elt (blkCtx c scope) y = true := by
  cases e with
  | ListComp y gs scope p =>
    cases gs with
    | nil => exact nomatch (show false = true from h)
    | cons cl gs =>
      cases cl with
      | mk g iter fs z =>
        cases gs with
        | cons _ _ => exact nomatch (show false = true from h)
        | nil =>
          obtain ⟨h, h10⟩ := and_t h
          obtain ⟨h, h9⟩ := and_t h
          obtain ⟨h, h8⟩ := and_t h
          obtain ⟨h, h7⟩ := and_t h
          obtain ⟨h, h6⟩ := and_t h
          obtain ⟨h, h5⟩ := and_t h
          obtain ⟨h, h4⟩ := and_t h
          obtain ⟨h, h3⟩ := and_t h
          obtain ⟨h1, h2⟩ := and_t h
          obtain rfl : z = 0 := of_decide_eq_true h1
          have h9 : (fs = [] ∧ isYes ifs = true) ∨ ∃ f, fs = [f] ∧ chkT t ifs (blkCtx c scope) f = true := by
            cases fs with
            | nil => exact .inl ⟨rfl, h9⟩
            | cons f fs =>
              cases fs with
              | nil => exact .inr ⟨f, rfl, h9⟩
              | cons _ _ => exact nomatch (show false = true from h9)
          exact ⟨y, g, iter, fs, scope, p, rfl, h2, h3, h4, of_decide_eq_true h5, fun i hi => List.contains_iff_mem.mp (List.all_eq_true.mp h6 i hi), of_decide_eq_true h7, h8, h9, h10⟩
  | _ => exact nomatch (show false = true from h)

theorem v_tt {a : E} {c : Ctx} {e : Expr} (h : chkT t (.tt a) c e = true) : chkE t a c e = true ∧ plainTest e = true := by
  exact and_t h

theorem v_onil {c : Ctx} {es : List Expr} (h : chkO t .nil c es = true) : es = [] := by
  cases es with
  | nil => rfl
  | cons _ _ => exact nomatch (show false = true from h)

theorem v_ocons {a b : E} {c : Ctx} {es : List Expr} (h : chkO t (.cons a b) c es = true) : ∃ y ys, es = y :: ys ∧ chkE t a c y = true ∧ (!isStar y) = true ∧ chkO t b c ys = true := by
  cases es with
  | nil => exact nomatch (show false = true from h)
  | cons y ys =>
    obtain ⟨h, h3⟩ := and_t h
    obtain ⟨h1, h2⟩ := and_t h
    exact ⟨y, ys, rfl, h1, h2, h3⟩

theorem v_bnob {c : Ctx} {o : Option Expr} (h : chkB t .nob c o = true) : o = none := by
  cases o with
  | none => rfl
  | some _ => exact nomatch (show false = true from h)

theorem v_bit {a : E} {c : Ctx} {o : Option Expr} (h : chkB t (.it a) c o = true) : ∃ y, o = some y ∧ chkE t a c y = true := by
  cases o with
  | none => exact nomatch (show false = true from h)
  | some y => exact ⟨y, rfl, h⟩

theorem v_r1 {a : E} {c : Ctx} {e : Expr} (h : chkR t (.rng1 a) c e = true) : ∃ y q p, e = .Call (.Name "range" q) [y] [] p ∧ bltB t c "range" = true ∧ chkE t a c y = true ∧ (!isStar y) = true := by
  cases e with
  | Call f as kws p =>
    cases f with
    | Name x q =>
      cases as with
      | nil => exact nomatch (show false = true from h)
      | cons y as =>
        cases as with
        | cons _ _ => exact nomatch (show false = true from h)
        | nil =>
          cases kws with
          | cons _ _ => exact nomatch (show false = true from h)
          | nil =>
            obtain ⟨h, h4⟩ := and_t h
            obtain ⟨h, h3⟩ := and_t h
            obtain ⟨h1, h2⟩ := and_t h
            obtain rfl := sEq_t h1
            exact ⟨y, q, p, rfl, h2, h3, h4⟩
    | _ => exact nomatch (show false = true from h)
  | _ => exact nomatch (show false = true from h)

theorem v_r2 {a b : E} {c : Ctx} {e : Expr} (h : chkR t (.rng2 a b) c e = true) : ∃ y z q p, e = .Call (.Name "range" q) [y, z] [] p ∧ bltB t c "range" = true ∧ chkE t a c y = true ∧ chkE t b c z = true ∧ (!isStar y) = true ∧ (!isStar z) = true := by
  cases e with
  | Call f as kws p =>
    cases f with
    | Name x q =>
      cases as with
      | nil => exact nomatch (show false = true from h)
      | cons y as =>
        cases as with
        | nil => exact nomatch (show false = true from h)
        | cons z as =>
          cases as with
          | cons _ _ => exact nomatch (show false = true from h)
          | nil =>
            cases kws with
            | cons _ _ => exact nomatch (show false = true from h)
            | nil =>
              obtain ⟨h, h6⟩ := and_t h
              obtain ⟨h, h5⟩ := and_t h
              obtain ⟨h, h4⟩ := and_t h
              obtain ⟨h, h3⟩ := and_t h
              obtain ⟨h1, h2⟩ := and_t h
              obtain rfl := sEq_t h1
              exact ⟨y, z, q, p, rfl, h2, h3, h4, h5, h6⟩
    | _ => exact nomatch (show false = true from h)
  | _ => exact nomatch (show false = true from h)

theorem v_i1 {a : E} {c : Ctx} {tg : Expr} {e : Expr} (h : chkI t (.rng1 a) c tg e = true) : ∃ y q p, e = .Call (.Name "range" q) [y] [] p ∧ bltB t c "range" = true ∧ chkE t a c y = true ∧ (!isStar y) = true := by
  cases e with
  | Call f as kws p =>
    cases f with
    | Name x q =>
      cases as with
      | nil => exact nomatch (show false = true from h)
      | cons y as =>
        cases as with
        | cons _ _ => exact nomatch (show false = true from h)
        | nil =>
          cases kws with
          | cons _ _ => exact nomatch (show false = true from h)
          | nil =>
            obtain ⟨h, h4⟩ := and_t h
            obtain ⟨h, h3⟩ := and_t h
            obtain ⟨h1, h2⟩ := and_t h
            obtain rfl := sEq_t h1
            exact ⟨y, q, p, rfl, h2, h3, h4⟩
    | _ => exact nomatch (show false = true from h)
  | _ => exact nomatch (show false = true from h)

theorem v_i2 {a b : E} {c : Ctx} {tg : Expr} {e : Expr} (h : chkI t (.rng2 a b) c tg e = true) : ∃ y z q p, e = .Call (.Name "range" q) [y, z] [] p ∧ bltB t c "range" = true ∧ chkE t a c y = true ∧ chkE t b c z = true ∧ (!isStar y) = true ∧ (!isStar z) = true := by
  cases e with
  | Call f as kws p =>
    cases f with
    | Name x q =>
      cases as with
      | nil => exact nomatch (show false = true from h)
      | cons y as =>
        cases as with
        | nil => exact nomatch (show false = true from h)
        | cons z as =>
          cases as with
          | cons _ _ => exact nomatch (show false = true from h)
          | nil =>
            cases kws with
            | cons _ _ => exact nomatch (show false = true from h)
            | nil =>
              obtain ⟨h, h6⟩ := and_t h
              obtain ⟨h, h5⟩ := and_t h
              obtain ⟨h, h4⟩ := and_t h
              obtain ⟨h, h3⟩ := and_t h
              obtain ⟨h1, h2⟩ := and_t h
              obtain rfl := sEq_t h1
              exact ⟨y, z, q, p, rfl, h2, h3, h4, h5, h6⟩
    | _ => exact nomatch (show false = true from h)
  | _ => exact nomatch (show false = true from h)

theorem v_i3 {a b d : E} {c : Ctx} {tg : Expr} {e : Expr} (h : chkI t (.rng3 a b d) c tg e = true) : ∃ y z u q p, e = .Call (.Name "range" q) [y, z, u] [] p ∧ bltB t c "range" = true ∧ chkE t a c y = true ∧ chkE t b c z = true ∧ chkE t d c u = true ∧ (!isStar y) = true ∧ (!isStar z) = true ∧ (!isStar u) = true := by
  cases e with
  | Call f as kws p =>
    cases f with
    | Name x q =>
      cases as with
      | nil => exact nomatch (show false = true from h)
      | cons y as =>
        cases as with
        | nil => exact nomatch (show false = true from h)
        | cons z as =>
          cases as with
          | nil => exact nomatch (show false = true from h)
          | cons u as =>
            cases as with
            | cons _ _ => exact nomatch (show false = true from h)
            | nil =>
              cases kws with
              | cons _ _ => exact nomatch (show false = true from h)
              | nil =>
                obtain ⟨h, h8⟩ := and_t h
                obtain ⟨h, h7⟩ := and_t h
                obtain ⟨h, h6⟩ := and_t h
                obtain ⟨h, h5⟩ := and_t h
                obtain ⟨h, h4⟩ := and_t h
                obtain ⟨h, h3⟩ := and_t h
                obtain ⟨h1, h2⟩ := and_t h
                obtain rfl := sEq_t h1
                exact ⟨y, z, u, q, p, rfl, h2, h3, h4, h5, h6, h7, h8⟩
    | _ => exact nomatch (show false = true from h)
  | _ => exact nomatch (show false = true from h)

theorem v_enum {a : E} {c : Ctx} {tg : Expr} {e : Expr} (h : chkI t (.enum a) c tg e = true) : ∃ y q p, e = .Call (.Name "enumerate" q) [y] [] p ∧ bltB t c "enumerate" = true ∧ chkE t a c y = true ∧ (!isStar y) = true ∧ tgTup tg = true := by
  cases e with
  | Call f as kws p =>
    cases f with
    | Name x q =>
      cases as with
      | nil => exact nomatch (show false = true from h)
      | cons y as =>
        cases as with
        | cons _ _ => exact nomatch (show false = true from h)
        | nil =>
          cases kws with
          | cons _ _ => exact nomatch (show false = true from h)
          | nil =>
            obtain ⟨h, h5⟩ := and_t h
            obtain ⟨h, h4⟩ := and_t h
            obtain ⟨h, h3⟩ := and_t h
            obtain ⟨h1, h2⟩ := and_t h
            obtain rfl := sEq_t h1
            exact ⟨y, q, p, rfl, h2, h3, h4, h5⟩
    | _ => exact nomatch (show false = true from h)
  | _ => exact nomatch (show false = true from h)

theorem v_zip {a b : E} {c : Ctx} {tg : Expr} {e : Expr} (h : chkI t (.zip a b) c tg e = true) : ∃ y z q p, e = .Call (.Name "zip" q) [y, z] [] p ∧ bltB t c "zip" = true ∧ chkE t a c y = true ∧ chkE t b c z = true ∧ (!isStar y) = true ∧ (!isStar z) = true ∧ tgTup tg = true := by
  cases e with
  | Call f as kws p =>
    cases f with
    | Name x q =>
      cases as with
      | nil => exact nomatch (show false = true from h)
      | cons y as =>
        cases as with
        | nil => exact nomatch (show false = true from h)
        | cons z as =>
          cases as with
          | cons _ _ => exact nomatch (show false = true from h)
          | nil =>
            cases kws with
            | cons _ _ => exact nomatch (show false = true from h)
            | nil =>
              obtain ⟨h, h7⟩ := and_t h
              obtain ⟨h, h6⟩ := and_t h
              obtain ⟨h, h5⟩ := and_t h
              obtain ⟨h, h4⟩ := and_t h
              obtain ⟨h, h3⟩ := and_t h
              obtain ⟨h1, h2⟩ := and_t h
              obtain rfl := sEq_t h1
              exact ⟨y, z, q, p, rfl, h2, h3, h4, h5, h6, h7⟩
    | _ => exact nomatch (show false = true from h)
  | _ => exact nomatch (show false = true from h)
end
end Pv

namespace Pv
open PySem PySem.Spec L2
/-! ## every expression -/
section
variable {t : Tab} {Φ : Phi} {k : Nat} {c : Ctx} {X : Cx}
theorem fold_of {e : Expr} {env : PySem.Env} (h : noSet e = true) : ∀ x, foldedSetIterable e env x = pure x := by
  cases e <;> first | exact fun _ => rfl | exact nomatch h
theorem s_comp (C : COk t Φ k c X) {elt it ifs : E} {tg : Tg} {vs : List Nat} {y g iter : Expr} {fs : List Expr} {scope : Scope} {p : Pos} (hI : PI X g iter (tIt Φ X.K it)) (hn : noSet iter = true)
    (hb : blkC c.N c.sc scope (ownOf c.N vs) = true) (hv : (ownOf c.N vs).map (·.2) = vs) (hs : ∀ i, i ∈ tg.sl → i ∈ vs) (nd : vs.Nodup) (hG : chkTg (blkCtx c scope) tg g = true)
    (hF : ∀ Y : Cx, COk t Φ k (blkCtx c scope) Y → PTs Y fs (tT Φ Y.K ifs)) (hE : ∀ Y : Cx, COk t Φ k (blkCtx c scope) Y → PE Y y (tE Φ Y.K elt)) :
    PE X (.ListComp y [⟨g, iter, fs, 0⟩] scope p) (tE Φ X.K (.comp elt tg it ifs vs)) := by
  have ok : BlkOk X.N X.env.scope scope (ownOf c.N vs) := by
    rw [C.hN, C.sc]
    exact blkOk_by hb
  have z := pe_lc (pos := p) C.calm C.nd hI ok (g := gT X.K tg) (tt := tT Φ X.K ifs) (te := tE Φ X.K elt) (fun s H Cd cl fp => (g_all (C.blk s H scope Cd cl fp) tg).1 g hG)
    (fun s H Cd cl fp => hF _ (C.blk s H scope Cd cl fp)) (fun s H Cd cl fp => hE _ (C.blk s H scope Cd cl fp)) (fold_of hn)
  rw [hv] at z
  exact z.imp fun σ H Q h => lc_read nd hs h
theorem sw_of {elt : Expr} {gs : List Comprehension} {scope : Scope} {pos py : Pos} {y : Str} {l : Nat} {env : PySem.Env} (hk : env.scope.kind = .function) (hy : env.scope.names.lookup y = some .local) (hl : (py.line == pos.line) = true)
    (ha : (scope.names.any fun (n, k) => n == y && (k == .local || k == .cell)) = false) : swapsWith (.ListComp elt gs scope pos) (some (.Name y py)) l env = pure true := sw_true hk hy hl ha
/-- what the looks give -/
structure All (t : Tab) (Φ : Phi) (k : Nat) (i : E) : Prop where
  ae : ∀ {c : Ctx} {X : Cx}, COk t Φ k c X → ∀ {e : Expr}, chkE t i c e = true → PE X e (tE Φ X.K i)
  aq : ∀ {c : Ctx} {X : Cx}, COk t Φ k c X → ∀ {e : Expr}, chkT t i c e = true → PT X e (tT Φ X.K i)
  aw : ∀ {c : Ctx} {X : Cx}, COk t Φ k c X → ∀ {o : BoolOp} {es : List Expr} {p : Pos}, chkT t i c (.BoolOp o es p) = true → PW X (.BoolOp o es p) (tT Φ X.K i)
  ao : ∀ {c : Ctx} {X : Cx}, COk t Φ k c X → ∀ {es : List Expr}, chkO t i c es = true → PA X es (tOs Φ X.K i) ∧ PA X es (tF Φ X.K i) ∧ PA X es (tL Φ X.K i)
  ab : ∀ {c : Ctx} {X : Cx}, COk t Φ k c X → ∀ {o : Option Expr}, chkB t i c o = true → PO X o (tBd Φ X.K i)
  ar : ∀ {c : Ctx} {X : Cx}, COk t Φ k c X → ∀ {e : Expr}, chkR t i c e = true → PRg X e (tRg Φ X.K i)
  ai : ∀ {c : Ctx} {X : Cx}, COk t Φ k c X → ∀ {tg e : Expr}, chkI t i c tg e = true → PI X tg e (tIt Φ X.K i)
/-- .. a list only -/
theorem All.ofO {i : E} (h : ∀ {c : Ctx} {X : Cx}, COk t Φ k c X → ∀ {es : List Expr}, chkO t i c es = true → PA X es (tOs Φ X.K i) ∧ PA X es (tF Φ X.K i) ∧ PA X es (tL Φ X.K i))
    (h1 : ∀ c e, chkE t i c e = false) (h2 : ∀ c e, chkT t i c e = false) (h3 : ∀ c e, chkB t i c e = false) (h4 : ∀ c e, chkR t i c e = false) (h5 : ∀ c g e, chkI t i c g e = false) : All t Φ k i where
  ao := h
  ae := fun {_ _} _ {e} z => by rw [h1] at z; cases z
  aq := fun {_ _} _ {e} z => by rw [h2] at z; cases z
  aw := fun {_ _} _ {_ _ _} z => by rw [h2] at z; cases z
  ab := fun {_ _} _ {e} z => by rw [h3] at z; cases z
  ar := fun {_ _} _ {e} z => by rw [h4] at z; cases z
  ai := fun {_ _} _ {g e} z => by rw [h5] at z; cases z
/-- .. what is walked, a bound -/
theorem All.ofI {i : E} (hi : ∀ {c : Ctx} {X : Cx}, COk t Φ k c X → ∀ {tg e : Expr}, chkI t i c tg e = true → PI X tg e (tIt Φ X.K i))
    (hr : ∀ {c : Ctx} {X : Cx}, COk t Φ k c X → ∀ {e : Expr}, chkR t i c e = true → PRg X e (tRg Φ X.K i))
    (hb : ∀ {c : Ctx} {X : Cx}, COk t Φ k c X → ∀ {o : Option Expr}, chkB t i c o = true → PO X o (tBd Φ X.K i))
    (h1 : ∀ c e, chkE t i c e = false) (h2 : ∀ c e, chkT t i c e = false) (h3 : ∀ c e, chkO t i c e = false) : All t Φ k i where
  ai := hi
  ar := hr
  ab := hb
  ae := fun {_ _} _ {e} z => by rw [h1] at z; cases z
  aq := fun {_ _} _ {e} z => by rw [h2] at z; cases z
  aw := fun {_ _} _ {_ _ _} z => by rw [h2] at z; cases z
  ao := fun {_ _} _ {e} z => by rw [h3] at z; cases z
theorem COk.va (C : COk t Φ k c X) {j : Nat} {e : Expr} (h : chkE t (.var j) c e = true) : PE X e (tVar j) := by
  obtain ⟨x, p, rfl, h⟩ := v_var h
  exact C.pvar h
theorem All.op {i : E} (A : All t Φ k i) (C : COk t Φ k c X) {e : Expr} (h : chkE t i c e = true) : PE X e (tO Φ X.K i) := s_op (A.ae C h) fun j ej => by
  subst ej
  exact C.va h
/-- an expression that is a value only -/
theorem All.ofE {i : E} (h : ∀ {c : Ctx} {X : Cx}, COk t Φ k c X → ∀ {e : Expr}, chkE t i c e = true → PE X e (tE Φ X.K i))
    (h1 : ∀ c e, chkT t i c e = false) (h2 : ∀ c e, chkO t i c e = false) (h3 : ∀ c e, chkB t i c e = false) (h4 : ∀ c e, chkR t i c e = false) (h5 : ∀ c g e, chkI t i c g e = false) : All t Φ k i where
  ae := h
  aq := fun {_ _} _ {e} z => by rw [h1] at z; cases z
  aw := fun {_ _} _ {_ _ _} z => by rw [h1] at z; cases z
  ao := fun {_ _} _ {e} z => by rw [h2] at z; cases z
  ab := fun {_ _} _ {e} z => by rw [h3] at z; cases z
  ar := fun {_ _} _ {e} z => by rw [h4] at z; cases z
  ai := fun {_ _} _ {g e} z => by rw [h5] at z; cases z
/-- .. a test only -/
theorem All.ofT {i : E} (h : ∀ {c : Ctx} {X : Cx}, COk t Φ k c X → ∀ {e : Expr}, chkT t i c e = true → PT X e (tT Φ X.K i) ∧ ∀ {o : BoolOp} {es : List Expr} {p : Pos}, e = .BoolOp o es p → PW X e (tT Φ X.K i))
    (h1 : ∀ c e, chkE t i c e = false) (h2 : ∀ c e, chkO t i c e = false) (h3 : ∀ c e, chkB t i c e = false) (h4 : ∀ c e, chkR t i c e = false) (h5 : ∀ c g e, chkI t i c g e = false) : All t Φ k i where
  aq := fun {_ _} C {_} z => (h C z).1
  aw := fun {_ _} C {_ _ _} z => (h C z).2 rfl
  ae := fun {_ _} _ {e} z => by rw [h1] at z; cases z
  ao := fun {_ _} _ {e} z => by rw [h2] at z; cases z
  ab := fun {_ _} _ {e} z => by rw [h3] at z; cases z
  ar := fun {_ _} _ {e} z => by rw [h4] at z; cases z
  ai := fun {_ _} _ {g e} z => by rw [h5] at z; cases z
theorem o_len : ∀ {i : E} {c : Ctx} {es : List Expr}, chkO t i c es = true → ∀ {Φ : Phi} {ρ ρ1 : Env} {os : List Op}, evOs Φ i ρ = some (os, ρ1) → os.length = es.length := by
  intro i
  induction i with
  | nil =>
    intro c es h Φ ρ ρ1 os ev
    obtain rfl := v_onil h
    cases ev
    rfl
  | cons a b iha ihb =>
    intro c es h Φ ρ ρ1 os ev
    obtain ⟨y, ys, rfl, h1, h2, h3⟩ := v_ocons h
    obtain ⟨⟨x, ρa⟩, e1, ev⟩ := bnd ev
    obtain ⟨⟨xs, ρb⟩, e2, ev⟩ := bnd ev
    cases ev
    rw [List.length_cons, List.length_cons, ihb h3 e2]
  | _ => intro c es h; exact nomatch (show false = true from h)
theorem nm_pv {e : Expr} {j : Nat} (C : COk t Φ k c X) {a : E} (h : chkE t a c e = true) : ∀ j, a = .var j → PE X e (tVar j) := fun j ej => by
  subst ej
  exact C.va h
theorem last_of {o1 o2 : CmpOp} {m r : Expr} (h1 : noSet m = true) (h2 : noSet r = true) : lastMarks [o1, o2] [m, r] = false := by
  cases r <;> first | rfl | exact nomatch h2
theorem star_R {a : E} {e : Expr} (z : chkR t a c e = true) : isStar e = false := by
  cases e <;> first | rfl | (exfalso; cases a <;> exact nomatch (show false = true from z))
theorem lrg_E {b : Bool} {a : E} (iha : All t Φ k a) (C : COk t Φ k c X) {e : Expr} (h : chkE t (.lrg b a) c e = true) : PE X e (tE Φ X.K (.lrg b a)) := by
  cases b with
  | true =>
    obtain ⟨y, q, p, rfl, h1, h2⟩ := v_lrg_true h
    exact s_lrg C rfl h1 (star_R h2) (iha.ar C h2)
  | false =>
    obtain ⟨y, q, p, rfl, h1, h2⟩ := v_lrg_false h
    exact s_lrg C rfl h1 (star_R h2) (iha.ar C h2)
theorem tests_E {ifs : E} (ihf : All t Φ k ifs) {fs : List Expr} {c : Ctx} (h8 : (fs = [] ∧ isYes ifs = true) ∨ ∃ f, fs = [f] ∧ chkT t ifs c f = true) {Y : Cx} (CY : COk t Φ k c Y) : PTs Y fs (tT Φ Y.K ifs) := by
  rcases h8 with ⟨rfl, h8⟩ | ⟨f, rfl, h8⟩
  · cases ifs with
    | tyes =>
      refine ⟨fun pins s σ H Q I ⟨F, ρ, b, ρ1, g, ev, q⟩ => pts_nil.run pins s σ H Q I ?_⟩
      cases ev
      exact q F H Step.refl g
    | _ => exact nomatch (show false = true from h8)
  · exact pts_one (ihf.aq CY h8)
theorem comp_E {elt : E} {tg : Tg} {it ifs : E} {vs : List Nat} (ihe : All t Φ k elt) (ihi : All t Φ k it) (ihf : All t Φ k ifs) (C : COk t Φ k c X) {e : Expr} (h : chkE t (.comp elt tg it ifs vs) c e = true) : PE X e (tE Φ X.K (.comp elt tg it ifs vs)) := by
  obtain ⟨y, g, iter, fs, scope, p, rfl, h1, h2, h3, h4, h5, h6, h7, h8, h9⟩ := v_comp h
  exact s_comp C (ihi.ai C h1) h2 h3 h4 h5 h6 h7 (fun Y CY => tests_E ihf h8 CY) fun Y CY => ihe.ae CY h9
theorem isi_E {a : E} {ts : List Ty} (iha : All t Φ k a) (C : COk t Φ k c X) {e : Expr} (h : chkE t (.isi a ts) c e = true) : PE X e (tE Φ X.K (.isi a ts)) := by
  obtain ⟨y, f, q, p, rfl, h1, h2, h3, h4⟩ := v_isi h
  by_cases hf : ∃ es kk pos, f = .Tuple es kk pos
  · obtain ⟨es, kk, pos, rfl⟩ := hf
    obtain ⟨h5, h6⟩ := and_t h4
    exact s_isiT C rfl h1 h3 h5 (of_decide_eq_true h6) (iha.op C h2)
  · cases ts with
    | nil => exfalso; cases f <;> first | exact absurd ⟨_, _, _, rfl⟩ hf | exact nomatch (show false = true from h4)
    | cons z zs =>
      cases zs with
      | nil =>
        have h5 : chkTy t c z f = true := by cases f <;> first | exact absurd ⟨_, _, _, rfl⟩ hf | exact h4
        exact s_isi1 C rfl h1 h3 h5 (iha.op C h2)
      | cons _ _ => exfalso; cases f <;> first | exact absurd ⟨_, _, _, rfl⟩ hf | exact nomatch (show false = true from h4)
theorem all_E (i : E) : All t Φ k i := by
  induction i with
  | var j => exact .ofE (fun {_ _} C {_} h => s_var (C.va h)) (fun _ _ => rfl) (fun _ _ => rfl) (fun _ _ => rfl) (fun _ _ => rfl) (fun _ _ _ => rfl)
  | mv j => exact .ofE (fun {_ _} C {_} h => by
      obtain ⟨x, p, rfl, h⟩ := v_mv h
      exact s_mv (C.pvar h)) (fun _ _ => rfl) (fun _ _ => rfl) (fun _ _ => rfl) (fun _ _ => rfl) (fun _ _ _ => rfl)
  | num z => exact .ofE (fun {_ _} C {_} h => by
      obtain ⟨x, p, rfl⟩ := v_num h
      exact s_con pe_int (fun _ => .int _) fun _ => rfl) (fun _ _ => rfl) (fun _ _ => rfl) (fun _ _ => rfl) (fun _ _ => rfl) (fun _ _ _ => rfl)
  | bl z => exact .ofE (fun {_ _} C {_} h => by
      obtain ⟨x, p, rfl⟩ := v_bl h
      exact s_con pe_bl (fun _ => .bl _) fun _ => rfl) (fun _ _ => rfl) (fun _ _ => rfl) (fun _ _ => rfl) (fun _ _ => rfl) (fun _ _ _ => rfl)
  | non => exact .ofE (fun {_ _} C {_} h => by
      obtain ⟨x, p, rfl⟩ := v_non h
      exact s_con pe_non (fun _ => .non) fun _ => rfl) (fun _ _ => rfl) (fun _ _ => rfl) (fun _ _ => rfl) (fun _ _ => rfl) (fun _ _ _ => rfl)
  | str z => exact .ofE (fun {_ _} C {_} h => by
      obtain ⟨x, p, rfl⟩ := v_str h
      exact s_con pe_str (fun _ => .str _) fun _ => rfl) (fun _ _ => rfl) (fun _ _ => rfl) (fun _ _ => rfl) (fun _ _ => rfl) (fun _ _ _ => rfl)
  | cst x z => exact .ofE (fun {_ _} C {_} h => by
      obtain ⟨p, rfl, h1, h2⟩ := v_cst h
      obtain ⟨g1, g2⟩ := C.glob h1
      obtain ⟨q, hq, h3⟩ := List.any_eq_true.mp h2
      obtain ⟨e1, e2⟩ := and_t h3
      obtain ⟨tk, hm⟩ := C.cs q hq
      rw [sEq_t e1, (of_decide_eq_true e2 : q.2 = z)] at hm
      exact s_con (pe_glob (v := .int z) g1 hm ⟨_, rfl⟩ g2) (fun _ => .int _) fun _ => rfl) (fun _ _ => rfl) (fun _ _ => rfl) (fun _ _ => rfl) (fun _ _ => rfl) (fun _ _ _ => rfl)
  | bin op a b iha ihb => exact .ofE (fun {_ _} C {_} h => by
      obtain ⟨l, r, p, rfl, h1, h2⟩ := v_bin h
      exact s_bin (iha.op C h1) (ihb.op C h2)) (fun _ _ => rfl) (fun _ _ => rfl) (fun _ _ => rfl) (fun _ _ => rfl) (fun _ _ _ => rfl)
  | neg a iha => exact .ofE (fun {_ _} C {_} h => by
      obtain ⟨l, p, rfl, h1⟩ := v_neg h
      exact s_neg (iha.op C h1)) (fun _ _ => rfl) (fun _ _ => rfl) (fun _ _ => rfl) (fun _ _ => rfl) (fun _ _ _ => rfl)
  | cmp op a b iha ihb => exact .ofE (fun {_ _} C {_} h => by
      obtain ⟨l, r, p, rfl, h1, h2, h3⟩ := v_cmp h
      exact s_cmp C h3 (iha.op C h1) (ihb.op C h2)) (fun _ _ => rfl) (fun _ _ => rfl) (fun _ _ => rfl) (fun _ _ => rfl) (fun _ _ _ => rfl)
  | chain o1 o2 a b d iha ihb ihd => exact .ofE (fun {_ _} C {_} h => by
      obtain ⟨l, m, r, p, rfl, h1, h2, h3, h4, h5⟩ := v_chain h
      exact s_chain C h4 h5 (iha.op C h1) (ihb.op C h2) (ihd.op C h3) (pe_chain (on_cmp C.u65 o1) (on_cmp C.u65 o2) (iha.op C h1) (ihb.op C h2) (ihd.op C h3) (last_of h4 h5))) (fun _ _ => rfl) (fun _ _ => rfl) (fun _ _ => rfl) (fun _ _ => rfl) (fun _ _ _ => rfl)
  | and_ a b iha ihb => exact .ofE (fun {_ _} C {_} h => by
      obtain ⟨x, y, r, p, rfl, h1, h2⟩ := v_and h
      rcases h2 with ⟨rfl, h2⟩ | h2
      · exact s_and (iha.ae C h1) (pe_one (ihb.ae C h2))
      · exact s_and (iha.ae C h1) (ihb.ae C h2)) (fun _ _ => rfl) (fun _ _ => rfl) (fun _ _ => rfl) (fun _ _ => rfl) (fun _ _ _ => rfl)
  | or_ a b iha ihb => exact .ofE (fun {_ _} C {_} h => by
      obtain ⟨x, y, r, p, rfl, h1, h2⟩ := v_or h
      rcases h2 with ⟨rfl, h2⟩ | h2
      · exact s_or (iha.ae C h1) (pe_one (ihb.ae C h2))
      · exact s_or (iha.ae C h1) (ihb.ae C h2)) (fun _ _ => rfl) (fun _ _ => rfl) (fun _ _ => rfl) (fun _ _ => rfl) (fun _ _ _ => rfl)
  | not_ a iha => exact .ofE (fun {_ _} C {_} h => by
      obtain ⟨l, p, rfl, h1⟩ := v_not h
      exact s_not (iha.op C h1)) (fun _ _ => rfl) (fun _ _ => rfl) (fun _ _ => rfl) (fun _ _ => rfl) (fun _ _ _ => rfl)
  | ife d a b ihd iha ihb => exact .ofE (fun {_ _} C {_} h => by
      obtain ⟨x, l, r, p, rfl, h1, h2, h3⟩ := v_ife h
      exact s_ife (ihd.aq C h1) (iha.ae C h2) (ihb.ae C h3)) (fun _ _ => rfl) (fun _ _ => rfl) (fun _ _ => rfl) (fun _ _ => rfl) (fun _ _ _ => rfl)
  | tup a iha => exact .ofE (fun {_ _} C {_} h => by
      obtain ⟨l, kk, p, rfl, h1⟩ := v_tup h
      exact s_tup (iha.ao C h1).2.1) (fun _ _ => rfl) (fun _ _ => rfl) (fun _ _ => rfl) (fun _ _ => rfl) (fun _ _ _ => rfl)
  | lst a iha => exact .ofE (fun {_ _} C {_} h => by
      obtain ⟨l, p, rfl, h1⟩ := v_lst h
      exact s_lst (iha.ao C h1).2.1) (fun _ _ => rfl) (fun _ _ => rfl) (fun _ _ => rfl) (fun _ _ => rfl) (fun _ _ _ => rfl)
  | idx a b iha ihb => exact .ofE (fun {_ _} C {_} h => by
      obtain ⟨l, r, p, rfl, h1, h2, h3⟩ := v_idx h
      exact s_idx h3 (iha.op C h1) (ihb.op C h2)) (fun _ _ => rfl) (fun _ _ => rfl) (fun _ _ => rfl) (fun _ _ => rfl) (fun _ _ _ => rfl)
  | slc a lo hi iha ihl ihh => exact .ofE (fun {_ _} C {_} h => by
      obtain ⟨l, u, v, q, p, rfl, h1, h2, h3⟩ := v_slc h
      exact s_slc (iha.op C h1) (ihl.ab C h2) (ihh.ab C h3)) (fun _ _ => rfl) (fun _ _ => rfl) (fun _ _ => rfl) (fun _ _ => rfl) (fun _ _ _ => rfl)
  | rev a iha => exact .ofE (fun {_ _} C {_} h => by
      obtain ⟨l, kk, q1, q2, q3, p, rfl, h1⟩ := v_rev h
      exact s_rev (iha.op C h1)) (fun _ _ => rfl) (fun _ _ => rfl) (fun _ _ => rfl) (fun _ _ => rfl) (fun _ _ _ => rfl)
  | call f es ih => exact .ofE (fun {_ _} C {_} h => by
      obtain ⟨y, ys, q, p, rfl, h1, h2, h3, h4⟩ := v_call h
      exact s_call C rfl h1 h2 h4 (ih.ao C h3).2.2) (fun _ _ => rfl) (fun _ _ => rfl) (fun _ _ => rfl) (fun _ _ => rfl) (fun _ _ _ => rfl)
  | bi b es ih => exact .ofE (fun {_ _} C {_} h => by
      obtain ⟨as, q, p, rfl, h1, h2, h3, h4⟩ := v_bi h
      cases as with
      | nil => cases b <;> cases h3
      | cons y ys => exact s_bi C rfl h1 h4 (ih.ao C h2).1 h3 fun ρ os ρ1 ev => o_len h2 ev) (fun _ _ => rfl) (fun _ _ => rfl) (fun _ _ => rfl) (fun _ _ => rfl) (fun _ _ _ => rfl)
  | isi a ts iha => exact .ofE (fun {_ _} C {_} h => isi_E iha C h) (fun _ _ => rfl) (fun _ _ => rfl) (fun _ _ => rfl) (fun _ _ => rfl) (fun _ _ _ => rfl)
  | mt m o es iho ihe => exact .ofE (fun {_ _} C {_} h => by
      obtain ⟨l, ap, y, p, rfl, h1, h2, h3, h4, h5⟩ := v_mt h
      exact s_mt C rfl h2 h5 h4 (iho.op C h1) (ihe.ao C h3).1) (fun _ _ => rfl) (fun _ _ => rfl) (fun _ _ => rfl) (fun _ _ => rfl) (fun _ _ _ => rfl)
  | pop i => exact .ofE (fun {_ _} C {_} h => by
      obtain ⟨y, yp, ap, p, rfl, h1, h2⟩ := v_pop h
      exact s_pop C rfl h1 h2) (fun _ _ => rfl) (fun _ _ => rfl) (fun _ _ => rfl) (fun _ _ => rfl) (fun _ _ _ => rfl)
  | lrg b a iha => exact .ofE (fun {_ _} C {_} h => lrg_E iha C h) (fun _ _ => rfl) (fun _ _ => rfl) (fun _ _ => rfl) (fun _ _ => rfl) (fun _ _ _ => rfl)
  | comp elt tg it ifs vs ihe ihi ihf => exact .ofE (fun {_ _} C {_} h => comp_E ihe ihi ihf C h) (fun _ _ => rfl) (fun _ _ => rfl) (fun _ _ => rfl) (fun _ _ => rfl) (fun _ _ _ => rfl)
  | nil => exact .ofO (fun {_ _} C {es} h => by
      obtain rfl := v_onil h
      exact ⟨o_nil, f_nil, l_nil⟩) (fun _ _ => rfl) (fun _ _ => rfl) (fun _ _ => rfl) (fun _ _ => rfl) (fun _ _ _ => rfl)
  | cons a b iha ihb => exact .ofO (fun {_ _} C {es} h => by
      obtain ⟨y, ys, rfl, h1, h2, h3⟩ := v_ocons h
      exact ⟨o_cons h2 (iha.op C h1) (ihb.ao C h3).1, f_cons h2 (iha.ae C h1) (ihb.ao C h3).2.1, l_cons h2 (iha.ae C h1) (fun j ej => by subst ej; exact C.va h1) (ihb.ao C h3).2.2⟩) (fun _ _ => rfl) (fun _ _ => rfl) (fun _ _ => rfl) (fun _ _ => rfl) (fun _ _ _ => rfl)
  | tt a iha => exact .ofT (fun {_ _} C {e} h => by
      obtain ⟨h1, h2⟩ := v_tt h
      refine ⟨t_tt h2 (iha.op C h1), fun {o es p} e1 => ?_⟩
      subst e1
      exact nomatch (show false = true from h2)) (fun _ _ => rfl) (fun _ _ => rfl) (fun _ _ => rfl) (fun _ _ => rfl) (fun _ _ _ => rfl)
  | tcmp op a b iha ihb => exact .ofT (fun {_ _} C {e} h => by
      obtain ⟨l, r, p, rfl, h1, h2, h3⟩ := v_tcmp h
      exact ⟨t_cmp C h3 (iha.op C h1) (ihb.op C h2), fun {o es p} e1 => nomatch e1⟩) (fun _ _ => rfl) (fun _ _ => rfl) (fun _ _ => rfl) (fun _ _ => rfl) (fun _ _ _ => rfl)
  | tchain o1 o2 a b d iha ihb ihd => exact .ofT (fun {_ _} C {_} h => by
      obtain ⟨l, m, r, p, rfl, h1, h2, h3, h4, h5⟩ := v_tchain h
      exact ⟨t_chain C (iha.op C h1) (ihb.op C h2) (ihd.op C h3) (pt_chain (on_cmp C.u65 o1) (on_cmp C.u65 o2) (iha.op C h1) (ihb.op C h2) (ihd.op C h3) (last_of h4 h5)), fun {o es p} e1 => nomatch e1⟩) (fun _ _ => rfl) (fun _ _ => rfl) (fun _ _ => rfl) (fun _ _ => rfl) (fun _ _ _ => rfl)
  | tand a b iha ihb => exact .ofT (fun {_ Y} C {_} h => by
      obtain ⟨x, y, r, p, rfl, h1, h2⟩ := v_tand h
      have z : PW Y (.BoolOp .And (x :: y :: r) p) (tT Φ Y.K (.tand a b)) := by
        rcases h2 with ⟨rfl, h2⟩ | h2
        · exact t_and (iha.aq C h1) (pw_and1 (ihb.aq C h2))
        · exact t_and (iha.aq C h1) (ihb.aw C h2)
      exact ⟨z.pt, fun {o es p} e1 => z⟩) (fun _ _ => rfl) (fun _ _ => rfl) (fun _ _ => rfl) (fun _ _ => rfl) (fun _ _ _ => rfl)
  | tor a b iha ihb => exact .ofT (fun {_ Y} C {_} h => by
      obtain ⟨x, y, r, p, rfl, h1, h2⟩ := v_tor h
      have z : PW Y (.BoolOp .Or (x :: y :: r) p) (tT Φ Y.K (.tor a b)) := by
        rcases h2 with ⟨rfl, h2⟩ | h2
        · exact t_or (iha.aq C h1) (pw_or1 (ihb.aq C h2))
        · exact t_or (iha.aq C h1) (ihb.aw C h2)
      exact ⟨z.pt, fun {o es p} e1 => z⟩) (fun _ _ => rfl) (fun _ _ => rfl) (fun _ _ => rfl) (fun _ _ => rfl) (fun _ _ _ => rfl)
  | tnot a iha => exact .ofT (fun {_ _} C {_} h => by
      obtain ⟨l, p, rfl, h1⟩ := v_tnot h
      exact ⟨t_not (iha.aq C h1), fun {o es p} e1 => nomatch e1⟩) (fun _ _ => rfl) (fun _ _ => rfl) (fun _ _ => rfl) (fun _ _ => rfl) (fun _ _ _ => rfl)
  | tyes => exact .ofE (fun {_ _} C {_} h => (nomatch (show false = true from h))) (fun _ _ => rfl) (fun _ _ => rfl) (fun _ _ => rfl) (fun _ _ => rfl) (fun _ _ _ => rfl)
  | it a iha => exact .ofI (fun {_ _} C {_ _} h => i_it (iha.ae C h)) (fun {_ _} C {_} h => (nomatch (show false = true from h))) (fun {_ _} C {_} h => by
      obtain ⟨y, rfl, h1⟩ := v_bit h
      exact b_it (iha.op C h1)) (fun _ _ => rfl) (fun _ _ => rfl) (fun _ _ => rfl)
  | rng1 a iha => exact .ofI (fun {_ _} C {_ _} h => by
      obtain ⟨y, q, p, rfl, h1, h2, h3⟩ := v_i1 h
      exact i_r1 C rfl h1 h3 (iha.op C h2)) (fun {_ _} C {_} h => by
      obtain ⟨y, q, p, rfl, h1, h2, h3⟩ := v_r1 h
      exact r_1 C rfl h1 h3 (iha.op C h2)) (fun {_ _} C {_} h => (nomatch (show false = true from h))) (fun _ _ => rfl) (fun _ _ => rfl) (fun _ _ => rfl)
  | rng2 a b iha ihb => exact .ofI (fun {_ _} C {_ _} h => by
      obtain ⟨y, z, q, p, rfl, h1, h2, h3, h4, h5⟩ := v_i2 h
      exact i_r2 C rfl h1 h4 h5 (iha.op C h2) (ihb.op C h3)) (fun {_ _} C {_} h => by
      obtain ⟨y, z, q, p, rfl, h1, h2, h3, h4, h5⟩ := v_r2 h
      exact r_2 C rfl h1 h4 h5 (iha.op C h2) (ihb.op C h3)) (fun {_ _} C {_} h => (nomatch (show false = true from h))) (fun _ _ => rfl) (fun _ _ => rfl) (fun _ _ => rfl)
  | rng3 a b d iha ihb ihd => exact .ofI (fun {_ _} C {_ _} h => by
      obtain ⟨y, z, u, q, p, rfl, h1, h2, h3, h4, h5, h6, h7⟩ := v_i3 h
      exact i_r3 C rfl h1 h5 h6 h7 (iha.op C h2) (ihb.op C h3) (ihd.op C h4)) (fun {_ _} C {_} h => (nomatch (show false = true from h))) (fun {_ _} C {_} h => (nomatch (show false = true from h))) (fun _ _ => rfl) (fun _ _ => rfl) (fun _ _ => rfl)
  | enum a iha => exact .ofI (fun {_ _} C {_ _} h => by
      obtain ⟨y, q, p, rfl, h1, h2, h3, h4⟩ := v_enum h
      exact i_enum C rfl h1 h3 h4 (iha.ae C h2)) (fun {_ _} C {_} h => (nomatch (show false = true from h))) (fun {_ _} C {_} h => (nomatch (show false = true from h))) (fun _ _ => rfl) (fun _ _ => rfl) (fun _ _ => rfl)
  | zip a b iha ihb => exact .ofI (fun {_ _} C {_ _} h => by
      obtain ⟨y, z, q, p, rfl, h1, h2, h3, h4, h5, h6⟩ := v_zip h
      exact i_zip C rfl h1 h4 h5 h6 (iha.ae C h2) (ihb.ae C h3)) (fun {_ _} C {_} h => (nomatch (show false = true from h))) (fun {_ _} C {_} h => (nomatch (show false = true from h))) (fun _ _ => rfl) (fun _ _ => rfl) (fun _ _ => rfl)
  | nob => exact .ofI (fun {_ _} C {_ _} h => (nomatch (show false = true from h))) (fun {_ _} C {_} h => (nomatch (show false = true from h))) (fun {_ _} C {_} h => by
      obtain rfl := v_bnob h
      exact b_nob) (fun _ _ => rfl) (fun _ _ => rfl) (fun _ _ => rfl)
end
end Pv

namespace Pv
open PySem PySem.Spec L2
/-! ## what the looks at statements say -/
section
variable {t : Tab}
theorem w_asg {i : Nat} {e : E} {c : Ctx} {s : Stmt} (h : chkS t (.asg i e) c s = true) : ∃ x py v p, s = .Assign [.Name x py] v p ∧ stoB c i x = true ∧ chkE t e c v = true ∧ asgB c x py v = true := by
  cases s with
  | Assign ts v p =>
    cases ts with
    | nil => exact nomatch (show false = true from h)
    | cons g ts =>
      cases g with
      | Name x py =>
        cases ts with
        | cons _ _ => exact nomatch (show false = true from h)
        | nil =>
          obtain ⟨h, h3⟩ := and_t h
          obtain ⟨h1, h2⟩ := and_t h
          exact ⟨x, py, v, p, rfl, h1, h2, h3⟩
      | _ => exact nomatch (show false = true from h)
  | _ => exact nomatch (show false = true from h)

theorem w_asgF {i : Nat} {e : E} {c : Ctx} {s : Stmt} (h : chkS t (.asgF i e) c s = true) : ∃ x py v p, s = .Assign [.Name x py] v p ∧ stoB c i x = true ∧ chkE t e c v = true ∧ asgB c x py v = true := by
  cases s with
  | Assign ts v p =>
    cases ts with
    | nil => exact nomatch (show false = true from h)
    | cons g ts =>
      cases g with
      | Name x py =>
        cases ts with
        | cons _ _ => exact nomatch (show false = true from h)
        | nil =>
          obtain ⟨h, h3⟩ := and_t h
          obtain ⟨h1, h2⟩ := and_t h
          exact ⟨x, py, v, p, rfl, h1, h2, h3⟩
      | _ => exact nomatch (show false = true from h)
  | _ => exact nomatch (show false = true from h)

theorem w_asgT {tg : Tg} {e : E} {c : Ctx} {s : Stmt} (h : chkS t (.asgT tg e) c s = true) : ∃ es kk q v p, s = .Assign [.Tuple es kk q] v p ∧ chkTg c tg (.Tuple es kk q) = true ∧ chkE t e c v = true ∧ plainV v = true := by
  cases s with
  | Assign ts v p =>
    cases ts with
    | nil => exact nomatch (show false = true from h)
    | cons g ts =>
      cases g with
      | Tuple es kk q =>
        cases ts with
        | cons _ _ => exact nomatch (show false = true from h)
        | nil =>
          obtain ⟨h, h3⟩ := and_t h
          obtain ⟨h1, h2⟩ := and_t h
          exact ⟨es, kk, q, v, p, rfl, h1, h2, h3⟩
      | _ => exact nomatch (show false = true from h)
  | _ => exact nomatch (show false = true from h)

theorem w_setx {i : Nat} {ix e : E} {c : Ctx} {s : Stmt} (h : chkS t (.setx i ix e) c s = true) : ∃ x xp r q v p, s = .Assign [.Subscript (.Name x xp) r q] v p ∧ varB c i x = true ∧ chkE t ix c r = true ∧ plainIx r = true ∧ chkE t e c v = true ∧ (!isComp v) = true := by
  cases s with
  | Assign ts v p =>
    cases ts with
    | nil => exact nomatch (show false = true from h)
    | cons g ts =>
      cases g with
      | Subscript l r q =>
        cases l with
        | Name x xp =>
          cases ts with
          | cons _ _ => exact nomatch (show false = true from h)
          | nil =>
            obtain ⟨h, h5⟩ := and_t h
            obtain ⟨h, h4⟩ := and_t h
            obtain ⟨h, h3⟩ := and_t h
            obtain ⟨h1, h2⟩ := and_t h
            exact ⟨x, xp, r, q, v, p, rfl, h1, h2, h3, h4, h5⟩
        | _ => exact nomatch (show false = true from h)
      | _ => exact nomatch (show false = true from h)
  | _ => exact nomatch (show false = true from h)

theorem w_par {i j : Nat} {a b : E} {c : Ctx} {s : Stmt} (h : chkS t (.par i j a b) c s = true) : ∃ x px y py kt qt v w k2 q2 p, s = .Assign [.Tuple [.Name x px, .Name y py] kt qt] (.Tuple [v, w] k2 q2) p ∧ stoB c i x = true ∧ stoB c j y = true ∧ i ≠ j ∧ chkE t a c v = true ∧ chkE t b c w = true ∧ (!isStar v) = true ∧ (!isStar w) = true ∧ (parA c x y px py v w = true ∨ parB c x y px py v w = true) := by
  cases s with
  | Assign ts v p =>
    cases ts with
    | nil => exact nomatch (show false = true from h)
    | cons g ts =>
      cases g with
      | Tuple es kt qt =>
        cases es with
        | nil => exact nomatch (show false = true from h)
        | cons e1 es =>
          cases e1 with
          | Name x px =>
            cases es with
            | nil => exact nomatch (show false = true from h)
            | cons e2 es =>
              cases e2 with
              | Name y py =>
                cases es with
                | cons _ _ => exact nomatch (show false = true from h)
                | nil =>
                  cases ts with
                  | cons _ _ => exact nomatch (show false = true from h)
                  | nil =>
                    cases v with
                    | Tuple vs k2 q2 =>
                      cases vs with
                      | nil => exact nomatch (show false = true from h)
                      | cons v vs =>
                        cases vs with
                        | nil => exact nomatch (show false = true from h)
                        | cons w vs =>
                          cases vs with
                          | cons _ _ => exact nomatch (show false = true from h)
                          | nil =>
                            obtain ⟨h, h8⟩ := and_t h
                            obtain ⟨h, h7⟩ := and_t h
                            obtain ⟨h, h6⟩ := and_t h
                            obtain ⟨h, h5⟩ := and_t h
                            obtain ⟨h, h4⟩ := and_t h
                            obtain ⟨h, h3⟩ := and_t h
                            obtain ⟨h1, h2⟩ := and_t h
                            exact ⟨x, px, y, py, kt, qt, v, w, k2, q2, p, rfl, h1, h2, of_decide_eq_true h3, h4, h5, h6, h7, Bool.or_eq_true_iff.mp h8⟩
                    | _ => exact nomatch (show false = true from h)
              | _ => exact nomatch (show false = true from h)
          | _ => exact nomatch (show false = true from h)
      | _ => exact nomatch (show false = true from h)
  | _ => exact nomatch (show false = true from h)

theorem w_aug {i : Nat} {op : Operator} {e : E} {c : Ctx} {s : Stmt} (h : chkS t (.aug i op e) c s = true) : ∃ x xp v p, s = .AugAssign (.Name x xp) op v p ∧ augOp op = true ∧ varB c i x = true ∧ stoB c i x = true ∧ chkE t e c v = true := by
  cases s with
  | AugAssign g o v p =>
    cases g with
    | Name x xp =>
      obtain ⟨h, h5⟩ := and_t h
      obtain ⟨h, h4⟩ := and_t h
      obtain ⟨h, h3⟩ := and_t h
      obtain ⟨h1, h2⟩ := and_t h
      obtain rfl : op = o := of_decide_eq_true h2
      exact ⟨x, xp, v, p, rfl, h1, h3, h4, h5⟩
    | _ => exact nomatch (show false = true from h)
  | _ => exact nomatch (show false = true from h)

theorem w_app {i : Nat} {e : E} {c : Ctx} {s : Stmt} (h : chkS t (.app i e) c s = true) : ∃ x xp ap v cp p, s = .Expr (.Call (.Attribute (.Name x xp) "append" ap) [v] [] cp) p ∧ varB c i x = true ∧ chkE t e c v = true ∧ (!isStar v) = true ∧ (ap.endLine == cp.line) = true := by
  cases s with
  | Expr y p =>
    cases y with
    | Call f as kws cp =>
      cases f with
      | Attribute l m ap =>
        cases l with
        | Name x xp =>
          cases as with
          | nil => exact nomatch (show false = true from h)
          | cons v as =>
            cases as with
            | cons _ _ => exact nomatch (show false = true from h)
            | nil =>
              cases kws with
              | cons _ _ => exact nomatch (show false = true from h)
              | nil =>
                obtain ⟨h, h5⟩ := and_t h
                obtain ⟨h, h4⟩ := and_t h
                obtain ⟨h, h3⟩ := and_t h
                obtain ⟨h1, h2⟩ := and_t h
                obtain rfl := sEq_t h1
                exact ⟨x, xp, ap, v, cp, p, rfl, h2, h3, h4, h5⟩
        | _ => exact nomatch (show false = true from h)
      | _ => exact nomatch (show false = true from h)
    | _ => exact nomatch (show false = true from h)
  | _ => exact nomatch (show false = true from h)

theorem w_ext {i : Nat} {e : E} {c : Ctx} {s : Stmt} (h : chkS t (.ext i e) c s = true) : ∃ x xp ap v cp p, s = .Expr (.Call (.Attribute (.Name x xp) "extend" ap) [v] [] cp) p ∧ varB c i x = true ∧ chkE t e c v = true ∧ (!isStar v) = true ∧ (ap.endLine == cp.line) = true := by
  cases s with
  | Expr y p =>
    cases y with
    | Call f as kws cp =>
      cases f with
      | Attribute l m ap =>
        cases l with
        | Name x xp =>
          cases as with
          | nil => exact nomatch (show false = true from h)
          | cons v as =>
            cases as with
            | cons _ _ => exact nomatch (show false = true from h)
            | nil =>
              cases kws with
              | cons _ _ => exact nomatch (show false = true from h)
              | nil =>
                obtain ⟨h, h5⟩ := and_t h
                obtain ⟨h, h4⟩ := and_t h
                obtain ⟨h, h3⟩ := and_t h
                obtain ⟨h1, h2⟩ := and_t h
                obtain rfl := sEq_t h1
                exact ⟨x, xp, ap, v, cp, p, rfl, h2, h3, h4, h5⟩
        | _ => exact nomatch (show false = true from h)
      | _ => exact nomatch (show false = true from h)
    | _ => exact nomatch (show false = true from h)
  | _ => exact nomatch (show false = true from h)

theorem w_ret {e : E} {c : Ctx} {s : Stmt} (h : chkS t (.ret e) c s = true) : ∃ v p, s = .Return (some v) p ∧ chkE t e c v = true := by
  cases s with
  | Return o p =>
    cases o with
    | none => exact nomatch (show false = true from h)
    | some v => exact ⟨v, p, rfl, h⟩
  | _ => exact nomatch (show false = true from h)

theorem w_retN {c : Ctx} {s : Stmt} (h : chkS t .retN c s = true) : ∃ p, s = .Return none p := by
  cases s with
  | Return o p =>
    cases o with
    | some _ => exact nomatch (show false = true from h)
    | none => exact ⟨p, rfl⟩
  | _ => exact nomatch (show false = true from h)

theorem w_if {d : E} {a b : S} {c : Ctx} {s : Stmt} (h : chkS t (.if_ d a b) c s = true) : ∃ x xs ys p, s = .If x xs ys p ∧ chkT t d c x = true ∧ chkSs t a c xs = true ∧ chkSs t b c ys = true := by
  cases s with
  | If x xs ys p =>
    obtain ⟨h, h3⟩ := and_t h
    obtain ⟨h1, h2⟩ := and_t h
    exact ⟨x, xs, ys, p, rfl, h1, h2, h3⟩
  | _ => exact nomatch (show false = true from h)

theorem w_for {tg : Tg} {it : E} {b : S} {c : Ctx} {s : Stmt} (h : chkS t (.for_ tg it b) c s = true) : ∃ g iter body p, s = .For g iter body [] p ∧ chkI t it c g iter = true ∧ noSet iter = true ∧ chkTg c tg g = true ∧ chkSs t b c body = true := by
  cases s with
  | For g iter body oe p =>
    cases oe with
    | cons _ _ => exact nomatch (show false = true from h)
    | nil =>
      obtain ⟨h, h4⟩ := and_t h
      obtain ⟨h, h3⟩ := and_t h
      obtain ⟨h1, h2⟩ := and_t h
      exact ⟨g, iter, body, p, rfl, h1, h2, h3, h4⟩
  | _ => exact nomatch (show false = true from h)

theorem w_while {d : E} {b : S} {c : Ctx} {s : Stmt} (h : chkS t (.while_ d b) c s = true) : ∃ x body p, s = .While x body [] p ∧ chkT t d c x = true ∧ chkSs t b c body = true := by
  cases s with
  | While x body oe p =>
    cases oe with
    | cons _ _ => exact nomatch (show false = true from h)
    | nil =>
      obtain ⟨h1, h2⟩ := and_t h
      exact ⟨x, body, p, rfl, h1, h2⟩
  | _ => exact nomatch (show false = true from h)

theorem w_brk {c : Ctx} {s : Stmt} (h : chkS t .brk c s = true) : ∃ p, s = .Break p := by
  cases s with
  | Break p =>
    exact ⟨p, rfl⟩
  | _ => exact nomatch (show false = true from h)

theorem w_cont {c : Ctx} {s : Stmt} (h : chkS t .cont c s = true) : ∃ p, s = .Continue p := by
  cases s with
  | Continue p =>
    exact ⟨p, rfl⟩
  | _ => exact nomatch (show false = true from h)

theorem w_pass {c : Ctx} {s : Stmt} (h : chkS t .pass c s = true) : ∃ p, s = .Pass p := by
  cases s with
  | Pass p =>
    exact ⟨p, rfl⟩
  | _ => exact nomatch (show false = true from h)

theorem w_drop {e : E} {c : Ctx} {s : Stmt} (h : chkS t (.drop e) c s = true) : ∃ v p, s = .Expr v p ∧ chkE t e c v = true ∧ (!isComp v) = true := by
  cases s with
  | Expr v p =>
    obtain ⟨h1, h2⟩ := and_t h
    exact ⟨v, p, rfl, h1, h2⟩
  | _ => exact nomatch (show false = true from h)

theorem w_skip {c : Ctx} {s : List Stmt} (h : chkSs t .skip c s = true) : s = [] := by
  cases s with
  | nil => rfl
  | cons _ _ => exact nomatch (show false = true from h)

theorem w_seq {a b : S} {c : Ctx} {s : List Stmt} (h : chkSs t (.seq a b) c s = true) : ∃ x xs, s = x :: xs ∧ chkS t a c x = true ∧ chkSs t b c xs = true := by
  cases s with
  | nil => exact nomatch (show false = true from h)
  | cons x xs =>
    obtain ⟨h1, h2⟩ := and_t h
    exact ⟨x, xs, rfl, h1, h2⟩

theorem w_lc {e : E} {c : Ctx} {y : Expr} {gs : List Comprehension} {scope : Scope} {p : Pos} (h : chkE t e c (.ListComp y gs scope p) = true) : ∃ elt tg it ifs vs, e = .comp elt tg it ifs vs := by
  cases e with
  | comp elt tg it ifs vs => exact ⟨elt, tg, it, ifs, vs, rfl⟩
  | lrg b it => cases b <;> exact nomatch (show false = true from h)
  | _ => exact nomatch (show false = true from h)
end
end Pv

namespace Pv
open PySem PySem.Spec L2
/-! ## statements -/
/-- all but the slots st stands -/
def Kp (st : List Nat) (σ σ1 : St) : Prop := σ1.length = σ.length ∧ ∀ j, j ∉ st → σ1[j]? = σ[j]?
theorem Kp.refl {st : List Nat} {σ : St} : Kp st σ σ := ⟨rfl, fun _ _ => rfl⟩
theorem Kp.trans {a b st : List Nat} {σ σ1 σ2 : St} (h : Kp a σ σ1) (h' : Kp b σ1 σ2) (ha : ∀ j, j ∈ a → j ∈ st) (hb : ∀ j, j ∈ b → j ∈ st) : Kp st σ σ2 :=
  ⟨h'.1.trans h.1, fun j hj => (h'.2 j fun z => hj (hb j z)).trans (h.2 j fun z => hj (ha j z))⟩
theorem Kp.set {σ : St} {i : Nat} {v : Option V} : Kp [i] σ (σ.set i v) := ⟨List.length_set, fun j hj => List.getElem?_set_ne (fun e => hj (by rw [e]; exact List.mem_singleton.mpr rfl))⟩
def EndS (K : PySem.W.Frag) (F H : Hp) (ρ : Env) (σ : St) (st : List Nat) (fl : Fl) (ρ1 : Env) (D : Ends) : Prop := match fl with
  | .next => ∀ σ1 F1 H1, Kp st σ σ1 → Step F H (Own ρ σ) F1 H1 (Own ρ1 σ1) → Good K F1 H1 ρ1 σ1 → D.nx σ1 H1
  | .brk => ∀ σ1 F1 H1, Kp st σ σ1 → Step F H (Own ρ σ) F1 H1 (Own ρ1 σ1) → Good K F1 H1 ρ1 σ1 → D.bk σ1 H1
  | .cont => ∀ σ1 F1 H1, Kp st σ σ1 → Step F H (Own ρ σ) F1 H1 (Own ρ1 σ1) → Good K F1 H1 ρ1 σ1 → D.ct σ1 H1
  | .ret r => ∀ v σ1 F1 H1, Kp st σ σ1 → Step F H (Own ρ σ) F1 H1 (Own (ρ1 ++ [some r]) (σ1 ++ [some v])) → Good K F1 H1 (ρ1 ++ [some r]) (σ1 ++ [some v]) → D.rt v H1
def tS (Φ : Phi) (K : PySem.W.Frag) (s : S) : TS := fun D σ H => ∃ F ρ fl ρ1, Good K F H ρ σ ∧ ex Φ s ρ = some (fl, ρ1) ∧ EndS K F H ρ σ s.st fl ρ1 D
section
variable {t : Tab} {Φ : Phi} {k : Nat} {c : Ctx} {X : Cx} {K : PySem.W.Frag} {F H F1 H1 : Hp} {ρ ρ1 ρ2 : Env} {σ σ1 : St} {D : Ends} {fl : Fl} {a b st : List Nat}
theorem EndS.go (q : EndS K F H ρ σ st fl ρ2 D) (s : Step F H (Own ρ σ) F1 H1 (Own ρ1 σ1)) (kk : Kp a σ σ1) (ha : ∀ j, j ∈ a → j ∈ st) (hb : ∀ j, j ∈ b → j ∈ st) : EndS K F1 H1 ρ1 σ1 b fl ρ2 D := by
  cases fl with
  | next => exact fun σ2 F2 H2 k2 s2 g2 => q σ2 F2 H2 (kk.trans k2 ha hb) (s.trans s2) g2
  | brk => exact fun σ2 F2 H2 k2 s2 g2 => q σ2 F2 H2 (kk.trans k2 ha hb) (s.trans s2) g2
  | cont => exact fun σ2 F2 H2 k2 s2 g2 => q σ2 F2 H2 (kk.trans k2 ha hb) (s.trans s2) g2
  | ret r => exact fun v σ2 F2 H2 k2 s2 g2 => q v σ2 F2 H2 (kk.trans k2 ha hb) (s.trans s2) g2
theorem EndS.go0 (q : EndS K F H ρ σ st fl ρ2 D) (s : Step F H (Own ρ σ) F1 H1 (Own ρ1 σ)) (hb : ∀ j, j ∈ b → j ∈ st) : EndS K F1 H1 ρ1 σ b fl ρ2 D := q.go s (Kp.refl (st := [])) (fun j z => by cases z) hb
theorem _root_.L2.PS.imp {X : Cx} {s : Stmt} {t u : TS} (h : PS X s t) (w : ∀ D σ H, u D σ H → t D σ H) : PS X s u := ⟨fun pins s σ H D I q => h.run pins s σ H D I (w _ _ _ q)⟩
theorem _root_.L2.PSs.imp {X : Cx} {s : List Stmt} {t u : TS} (h : PSs X s t) (w : ∀ D σ H, u D σ H → t D σ H) : PSs X s u := ⟨fun pins s σ H D I q => h.run pins s σ H D I (w _ _ _ q)⟩
theorem x_skip : PSs X [] (tS Φ X.K .skip) := pss_nil.imp fun D σ H ⟨F, ρ, fl, ρ1, g, ev, q⟩ => by
  cases ev
  exact q σ F H .refl Step.refl g
theorem x_seq {s u : S} {x : Stmt} {xs : List Stmt} (h1 : PS X x (tS Φ X.K s)) (h2 : PSs X xs (tS Φ X.K u)) : PSs X (x :: xs) (tS Φ X.K (.seq s u)) := (pss_cons h1 h2).imp fun D σ H ⟨F, ρ, fl, ρ1, g, ev, q⟩ => by
  obtain ⟨⟨f, ρa⟩, e1, ev⟩ := bnd ev
  refine ⟨F, ρ, f, ρa, g, e1, ?_⟩
  cases f with
  | next => exact fun σ2 F2 H2 k2 s2 g2 => ⟨F2, ρa, fl, ρ1, g2, ev, q.go s2 k2 (fun j z => List.mem_append_left _ z) fun j z => List.mem_append_right _ z⟩
  | brk =>
    cases ev
    exact fun σ2 F2 H2 k2 s2 g2 => q σ2 F2 H2 (k2.trans Kp.refl (fun j z => List.mem_append_left _ z) (fun j z => List.mem_append_right _ z)) s2 g2
  | cont =>
    cases ev
    exact fun σ2 F2 H2 k2 s2 g2 => q σ2 F2 H2 (k2.trans Kp.refl (fun j z => List.mem_append_left _ z) (fun j z => List.mem_append_right _ z)) s2 g2
  | ret r =>
    cases ev
    exact fun v σ2 F2 H2 k2 s2 g2 => q v σ2 F2 H2 (k2.trans Kp.refl (fun j z => List.mem_append_left _ z) (fun j z => List.mem_append_right _ z)) s2 g2
theorem x_pass {p : Pos} : PS X (.Pass p) (tS Φ X.K .pass) := ps_pass.imp fun D σ H ⟨F, ρ, fl, ρ1, g, ev, q⟩ => by
  cases ev
  exact q σ F H .refl Step.refl g
theorem x_brk {p : Pos} : PS X (.Break p) (tS Φ X.K .brk) := ps_break.imp fun D σ H ⟨F, ρ, fl, ρ1, g, ev, q⟩ => by
  cases ev
  exact q σ F H .refl Step.refl g
theorem x_cont {p : Pos} : PS X (.Continue p) (tS Φ X.K .cont) := ps_continue.imp fun D σ H ⟨F, ρ, fl, ρ1, g, ev, q⟩ => by
  cases ev
  exact q σ F H .refl Step.refl g
theorem x_ret {e : E} {v : Expr} {p : Pos} (h : PE X v (tE Φ X.K e)) : PS X (.Return (some v) p) (tS Φ X.K (.ret e)) := (ps_ret h).imp fun D σ H ⟨F, ρ, fl, ρ1, g, ev, q⟩ => by
  obtain ⟨⟨r, ρa⟩, e1, ev⟩ := bnd ev
  cases ev
  exact ⟨F, ρ, r, _, g, e1, fun v F2 H2 s2 g2 => q v σ F2 H2 .refl s2 g2⟩
theorem x_retN {p : Pos} : PS X (.Return none p) (tS Φ X.K .retN) := ps_retN.imp fun D σ H ⟨F, ρ, fl, ρ1, g, ev, q⟩ => by
  cases ev
  exact q .non σ F H .refl (Step.refl.weak fun a z => own_more g.len rfl z) (g.more rfl (show RepR _ _ _ .non (.v .none) from .non))
theorem x_drop {e : E} {v : Expr} {p : Pos} (hc : (!isComp v) = true) (h : PE X v (tE Φ X.K e)) : PS X (.Expr v p) (tS Φ X.K (.drop e)) :=
  (ps_expr h (by cases v <;> first | rfl | exact nomatch hc)).imp fun D σ H ⟨F, ρ, fl, ρ1, g, ev, q⟩ => by
  obtain ⟨⟨r, ρa⟩, e1, ev⟩ := bnd ev
  cases ev
  exact ⟨F, ρ, r, _, g, e1, fun v F2 H2 s2 g2 => q σ F2 H2 .refl (s2.weak fun a z => own_left z) (g2.left (len1 g2))⟩
theorem x_if {d : E} {s u : S} {x : Expr} {xs ys : List Stmt} {p : Pos} (hd : PT X x (tT Φ X.K d)) (h1 : PSs X xs (tS Φ X.K s)) (h2 : PSs X ys (tS Φ X.K u)) : PS X (.If x xs ys p) (tS Φ X.K (.if_ d s u)) :=
  (ps_if hd h1 h2).imp fun D σ H ⟨F, ρ, fl, ρ1, g, ev, q⟩ => by
  obtain ⟨⟨b, ρa⟩, e1, ev⟩ := bnd ev
  refine ⟨F, ρ, b, ρa, g, e1, fun F2 H2 s2 g2 => ?_⟩
  cases b with
  | true => exact ⟨F2, ρa, fl, ρ1, g2, ev, q.go0 s2 fun j z => List.mem_append_left _ z⟩
  | false => exact ⟨F2, ρa, fl, ρ1, g2, ev, q.go0 s2 fun j z => List.mem_append_right _ z⟩
/-- a value stored at a name -/
theorem x_asg_by {i : Nat} {e : E} {s : Stmt} {te : TE} (h : PS X s (tAsg te (gName i))) (w : ∀ σ H Q, tE Φ X.K e σ H Q → te σ H Q) : PS X s (tS Φ X.K (.asg i e)) ∧ PS X s (tS Φ X.K (.asgF i e)) := ⟨h.imp fun D σ H ⟨F, ρ, fl, ρ1, g, ev, q⟩ => by
  obtain ⟨⟨r, ρa⟩, e1, ev⟩ := bnd ev
  cases ev
  exact w _ _ _ ⟨F, ρ, r, ρa, g, e1, fun v F2 H2 s2 g2 => q _ F2 H2 .set (s2.weak fun a z => own_put (len1 g2) z) (g2.put (len1 g2) i)⟩, h.imp fun D σ H ⟨F, ρ, fl, ρ1, g, ev, q⟩ => by
  obtain ⟨⟨r, ρa⟩, e1, ev⟩ := bnd ev
  obtain ⟨d, e2, ev⟩ := bnd ev
  cases ev
  exact w _ _ _ (s_frz g e1 e2 fun v F2 H2 s2 g2 rp => by
    obtain ⟨g3, o3⟩ := g2.storeD (i := i) rp
    exact q _ F2 H2 .set (s2.weak o3) g3)⟩
theorem swaps_not {v : Expr} {tg : Option Expr} {l : Nat} {env : PySem.Env} (h : (!isComp v) = true) : swapsWith v tg l env = pure false := by
  cases v <;> first | rfl | exact nomatch h
theorem sw_off {elt : Expr} {gs : List Comprehension} {scope : Scope} {pos py : Pos} {y : Str} {l : Nat} {env : PySem.Env} (hy : (env.kindOf y == some .local) = false) : swapsWith (.ListComp elt gs scope pos) (some (.Name y py)) l env = pure false := by
  unfold swapsWith
  simp only [hy, Bool.and_false, Bool.false_and]
theorem x_asg (C : COk t Φ k c X) {i : Nat} {e : E} {x : Str} {py p : Pos} {v : Expr} (hs : stoB c i x = true) (hv : chkE t e c v = true) (ha : asgB c x py v = true) (hk : X.env.scope.kind = .function) : PS X (.Assign [.Name x py] v p) (tS Φ X.K (.asg i e)) ∧ PS X (.Assign [.Name x py] v p) (tS Φ X.K (.asgF i e)) := by
  obtain ⟨l1, l2, l3⟩ := C.loc hs
  by_cases hc : isComp v = true
  · cases v with
    | ListComp y gs scope pos =>
      obtain ⟨elt, tg, it, ifs, vs, rfl⟩ := w_lc hv
      obtain ⟨y', g, iter, fs, scope', pos', e1, h1, h2, h3, h4, h5, h6, h7, h8, h9⟩ := v_comp hv
      cases e1
      rcases Bool.or_eq_true_iff.mp ha with ha | ha
      rotate_left
      · have hn : (X.env.kindOf x == some .local) = false := by
          have hp : kindIs c.sc x .local = false := by simpa using ha
          have hp : ¬ c.sc.names.lookup x = some .local := of_decide_eq_false hp
          have : ¬ X.env.kindOf x = some .local := by
            show ¬ X.env.scope.names.lookup x = _
            rw [C.sc]
            exact hp
          simpa using this
        exact x_asg_by (ps_set C.nd l1 l2 ((all_E _).ae C hv) (sw_off hn) l3) fun σ H Q h => h
      obtain ⟨ha, a3⟩ := and_t ha
      obtain ⟨a1, a2⟩ := and_t ha
      have a2 : X.env.scope.names.lookup x = some .local := by
        rw [C.sc]
        exact kind_t a2
      have ok : BlkOk X.N X.env.scope scope (ownOf c.N vs) := by
        rw [C.hN, C.sc]
        exact blkOk_by h3
      have z := ps_setLc (pos := pos) (spos := p) (py := py) C.calm C.nd l1 a2 (sw_of hk a2 a1 (by simpa using a3)) ((all_E it).ai C h1) ok (g := gT X.K tg) (tt := tT Φ X.K ifs) (te := tE Φ X.K elt)
        (fun s H Cd cl fp => (g_all (C.blk s H scope Cd cl fp) tg).1 g h7) (fun s H Cd cl fp => tests_E (all_E ifs) h8 (C.blk s H scope Cd cl fp)) (fun s H Cd cl fp => (all_E elt).ae (C.blk s H scope Cd cl fp) h9) (fold_of h2)
      rw [h4] at z
      exact x_asg_by z fun σ H Q h => lc_read h6 h5 h
    | SetComp _ _ _ _ => exact nomatch (show false = true from ha)
    | DictComp _ _ _ _ _ => exact nomatch (show false = true from ha)
    | _ => exact nomatch (show false = true from hc)
  · exact x_asg_by (ps_set C.nd l1 l2 ((all_E e).ae C hv) (swaps_not (by simpa using hc)) l3) fun σ H Q h => h
theorem bindT_len : ∀ (tg : Tg) (d : PyData) (ρ ρ' : Env), (bindT tg d ρ = some ρ' → ρ'.length = ρ.length) ∧ (∀ dl, bindTs tg dl ρ = some ρ' → ρ'.length = ρ.length) := by
  intro tg
  induction tg with
  | nm i => exact fun d ρ ρ' => ⟨fun e => by cases e; exact setS_len _ _ _, fun dl e => (nomatch (show (none : Option Env) = some _ from e))⟩
  | nil => exact fun d ρ ρ' => ⟨fun e => (nomatch (show (none : Option Env) = some _ from e)), fun dl e => by
      cases dl with
      | nil => cases e; rfl
      | cons _ _ => exact nomatch (show (none : Option Env) = some _ from e)⟩
  | cons a b iha ihb => exact fun d ρ ρ' => ⟨fun e => (nomatch (show (none : Option Env) = some _ from e)), fun dl e => by
      cases dl with
      | nil => exact nomatch (show (none : Option Env) = some _ from e)
      | cons d dl =>
        obtain ⟨ρ2, e1, e2⟩ := bnd e
        rw [(ihb d ρ2 ρ').2 dl e2, (iha d ρ ρ2).1 e1]⟩
  | tp a iha => exact fun d ρ ρ' => ⟨fun e => by
      cases d with
      | tuple dl => exact (iha .none ρ ρ').2 dl e
      | list dl => exact (iha .none ρ ρ').2 dl e
      | _ => exact (nomatch (show (none : Option Env) = some _ from e)), fun dl e => (nomatch (show (none : Option Env) = some _ from e))⟩
theorem x_asgT (C : COk t Φ k c X) {tg : Tg} {e : E} {es : List Expr} {kk : Nat} {q p : Pos} {v : Expr} (hg : chkTg c tg (.Tuple es kk q) = true) (hv : chkE t e c v = true) (hp : plainV v = true) : PS X (.Assign [.Tuple es kk q] v p) (tS Φ X.K (.asgT tg e)) := by
  have w1 : swapsWithSole [.Tuple es kk q] v p.line X.env = pure false := by
    cases v <;> first | rfl | exact nomatch hp
  have w2 : swappedStores [.Tuple es kk q] v X.env = pure none := by
    cases v <;> first | rfl | exact nomatch hp
  refine (ps_asg ((all_E e).ae C hv) ((g_all C tg).1 _ hg) w1 w2).imp fun D σ H ⟨F, ρ, fl, ρ1, g, ev, q⟩ => ?_
  obtain ⟨⟨r, ρa⟩, e1, ev⟩ := bnd ev
  obtain ⟨d, e2, ev⟩ := bnd ev
  obtain ⟨ρb, e3, ev⟩ := bnd ev
  cases ev
  refine s_frz g e1 e2 fun v F2 H2 s2 g2 rp => ⟨F2, d, ρa, _, g2, rp, e3, fun σ2 hk g3 o3 => ?_⟩
  refine q σ2 F2 H2 ⟨?_, hk⟩ (s2.weak o3) g3
  have l3 := g3.len
  have l2 := g2.len
  rw [← l3, (bindT_len tg d _ _).1 e3, l2]
theorem x_setx (C : COk t Φ k c X) {i : Nat} {ix e : E} {x : Str} {xp q p : Pos} {r v : Expr} (h1 : varB c i x = true) (h2 : chkE t ix c r = true) (h3 : plainIx r = true) (h4 : chkE t e c v = true) (h5 : (!isComp v) = true) :
    PS X (.Assign [.Subscript (.Name x xp) r q] v p) (tS Φ X.K (.setx i ix e)) := by
  have w1 : swapsWithSole [.Subscript (.Name x xp) r q] v p.line X.env = pure false := by
    cases v <;> first | rfl | exact nomatch h5
  have w2 : swappedStores [.Subscript (.Name x xp) r q] v X.env = pure none := by
    cases v <;> rfl
  refine (ps_asg ((all_E e).ae C h4) (pg_sub (C.pvar h1) ((all_E ix).op C h2) set_list (by
    intro u
    cases r with
    | Constant w kk pos => cases w <;> first | rfl | exact nomatch h3
    | _ => first | rfl | exact nomatch h3)) w1 w2).imp fun D σ H ⟨F, ρ, fl, ρ1, g, ev, q⟩ => ?_
  obtain ⟨⟨r, ρa⟩, e1, ev⟩ := bnd ev
  obtain ⟨d, e2, ev⟩ := bnd ev
  obtain ⟨r0, e0, ev⟩ := bnd ev
  obtain ⟨⟨y, ρb⟩, e3, ev⟩ := bnd ev
  obtain ⟨kd, e4, ev⟩ := bnd ev
  obtain ⟨rr, e5, ev⟩ := bnd ev
  cases rr with
  | v _ => cases ev
  | s _ => cases ev
  | l xs =>
    cases kd with
    | int z =>
      obtain ⟨j, e6, ev⟩ := bnd ev
      cases ev
      refine s_frz g e1 e2 fun w F2 H2 s2 g2 rp => ?_
      obtain ⟨v0, hv0⟩ := g2.has i r0 (getS_eq.mp e0)
      refine ⟨v0, hv0, F2, ρa, y, ρb, g2, e3, fun u F3 H3 s3 g3 r3 => ?_⟩
      obtain ⟨ad, us, ea, a1, a2, a3⟩ := g3.at e5 hv0
      subst ea
      refine ⟨ad, us, z, j, rfl, vw_int (r3.vw g3 e4), a1, by rw [a2.len]; exact e6, ?_⟩
      refine q σ F3 _ .refl (((s2.trans s3).trans (Step.write ⟨i, _, ⟨getS_eq.mp e5, hv0⟩, rfl⟩)).weak fun b z => own_write e5 z) (g3.write e5 hv0 (a2.set j (rp.mono s3.fz)))
    | _ => cases ev
theorem ite_on {α : Type} {p : Prop} [Decidable p] {a : Option α} {b : α} (h : (if p then a else none) = some b) : p ∧ a = some b := by
  by_cases z : p
  · rw [if_pos z] at h
    exact ⟨z, h⟩
  · rw [if_neg z] at h
    cases h
theorem own_ty {r0 : R} {v0 : V} (g : Good K F H ρ σ) {i : Nat} (e0 : getS ρ i = some r0) (ho : r0.own = true) (hv0 : σ[i]? = some (some v0)) : tyV K "list" v0 H := by
  cases r0 with
  | l xs =>
    obtain ⟨ad, us, ea, a1, a2, a3⟩ := g.at e0 hv0
    subst ea
    exact .inl ⟨rfl, us, SqL.of a1⟩
  | v _ => cases ho
  | s _ => cases ho
theorem x_app (C : COk t Φ k c X) {i : Nat} {e : E} {x : Str} {xp ap cp p : Pos} {v : Expr} (h1 : varB c i x = true) (h2 : chkE t e c v = true) (h3 : (!isStar v) = true) (h4 : (ap.endLine == cp.line) = true) :
    PS X (.Expr (.Call (.Attribute (.Name x xp) "append" ap) [v] [] cp) p) (tS Φ X.K (.app i e)) := by
  have star := noStar_cons (es := []) (env := X.env) (star_of h3)
  refine (ps_expr (pe_bm PySem.F.plainAttrs_list PySem.F.slot_list_append PySem.F.type_list_append (show MtR X _ _ from mt_append) (C.pvar h1) (pa_cons ((all_E e).ae C h2) pa_nil star) (super_of rfl) (by rw [star]; rfl) h4 star (by rfl)) rfl).imp fun D σ H ⟨F, ρ, fl, ρ1, g, ev, q⟩ => ?_
  obtain ⟨r0, e0, ev⟩ := bnd ev
  obtain ⟨ho, ev⟩ := ite_on ev
  obtain ⟨⟨r, ρa⟩, e1, ev⟩ := bnd ev
  obtain ⟨d, e2, ev⟩ := bnd ev
  obtain ⟨rr, e5, ev⟩ := bnd ev
  cases rr with
  | v _ => cases ev
  | s _ => cases ev
  | l xs =>
    have ev : (if okN (xs.length + 1) = true then some (Fl.next, setS ρa i (some (.l (xs ++ [d])))) else none) = some (fl, ρ1) := ev
    obtain ⟨hz, ev⟩ := ite_some ev
    cases ev
    obtain ⟨v0, hv0⟩ := g.has i r0 (getS_eq.mp e0)
    refine ⟨v0, hv0, own_ty g e0 ho hv0, s_frz g e1 e2 fun w F2 H2 s2 g2 rp => ?_⟩
    obtain ⟨ad, us, ea, a1, a2, a3⟩ := g2.at e5 hv0
    subst ea
    refine ⟨ad, us, w, rfl, rfl, a1, ?_, ?_⟩
    · have z := okN_le hz
      rw [a2.len]
      omega
    · exact q σ F2 _ .refl ((s2.trans (Step.write ⟨i, _, ⟨getS_eq.mp e5, hv0⟩, rfl⟩)).weak fun b z => own_write e5 z) (g2.write e5 hv0 (a2.app (.one rp)))
theorem x_ext (C : COk t Φ k c X) {i : Nat} {e : E} {x : Str} {xp ap cp p : Pos} {v : Expr} (h1 : varB c i x = true) (h2 : chkE t e c v = true) (h3 : (!isStar v) = true) (h4 : (ap.endLine == cp.line) = true) :
    PS X (.Expr (.Call (.Attribute (.Name x xp) "extend" ap) [v] [] cp) p) (tS Φ X.K (.ext i e)) := by
  have star := noStar_cons (es := []) (env := X.env) (star_of h3)
  refine (ps_expr (pe_bm PySem.F.plainAttrs_list PySem.F.slot_list_extend PySem.F.type_list_extend (show MtR X _ _ from mt_extend) (C.pvar h1) (pa_cons ((all_E e).op C h2) pa_nil star) (super_of rfl) (by rw [star]; rfl) h4 star (by rfl)) rfl).imp fun D σ H ⟨F, ρ, fl, ρ1, g, ev, q⟩ => ?_
  obtain ⟨r0, e0, ev⟩ := bnd ev
  obtain ⟨ho, ev⟩ := ite_on ev
  obtain ⟨⟨y, ρa⟩, e1, ev⟩ := bnd ev
  obtain ⟨d, e2, ev⟩ := bnd ev
  obtain ⟨rr, e5, ev⟩ := bnd ev
  cases rr with
  | v _ => cases ev
  | s _ => cases ev
  | l xs =>
    cases d with
    | list ys =>
      have ev : (if okN (xs.length + ys.length) = true then some (Fl.next, setS ρa i (some (.l (xs ++ ys)))) else none) = some (fl, ρ1) := ev
      obtain ⟨hz, ev⟩ := ite_some ev
      cases ev
      obtain ⟨v0, hv0⟩ := g.has i r0 (getS_eq.mp e0)
      refine ⟨v0, hv0, own_ty g e0 ho hv0, F, ρ, y, ρa, g, e1, fun w F2 H2 s2 g2 r2 => ?_⟩
      obtain ⟨ad, us, ea, a1, a2, a3⟩ := g2.at e5 hv0
      subst ea
      obtain ⟨bd, ws, eb, b1, b2⟩ := r2.vw g2 e2
      subst eb
      refine ⟨ad, bd, us, ws, rfl, rfl, a1, b1, ?_, ?_⟩
      · have z := okN_le hz
        rw [a2.len, b2.len]
        omega
      · exact q σ F2 _ .refl ((s2.trans (Step.write ⟨i, _, ⟨getS_eq.mp e5, hv0⟩, rfl⟩)).weak fun b z => own_write e5 z) (g2.write e5 hv0 (a2.app b2))
    | _ => cases ev
theorem x_aug (C : COk t Φ k c X) {i : Nat} {op : Operator} {e : E} {x : Str} {xp p : Pos} {v : Expr} (h0 : augOp op = true) (h2 : stoB c i x = true) (h3 : chkE t e c v = true) : PS X (.AugAssign (.Name x xp) op v p) (tS Φ X.K (.aug i op e)) := by
  obtain ⟨l1, l2, l3⟩ := C.loc h2
  have go : ∀ {f : Int → Int → Int}, PIp X op (ipI f) → (∀ a b r, augI op a b = some r → r = f a b) → PS X (.AugAssign (.Name x xp) op v p) (tS Φ X.K (.aug i op e)) := fun {f} hp hf => by
    refine (ps_aug C.nd l1 l2 ((all_E e).op C h3) hp l3).imp fun D σ H ⟨F, ρ, fl, ρ1, g, ev, q⟩ => ?_
    obtain ⟨r0, e0, ev⟩ := bnd ev
    obtain ⟨v0, hv0⟩ := g.has i r0 (getS_eq.mp e0)
    cases r0 with
    | l _ => cases ev
    | s _ => cases ev
    | v d0 =>
      cases d0 with
      | int a =>
        obtain ⟨⟨y, ρa⟩, e1, ev⟩ := bnd ev
        obtain ⟨d, e2, ev⟩ := bnd ev
        cases d with
        | int b =>
          obtain ⟨z, e3, ev⟩ := bnd ev
          cases ev
          obtain rfl := hf a b z e3
          have rv : Rp F v0 (.int a) := g.at e0 hv0
          refine ⟨v0, hv0, F, ρ, y, ρa, g, e1, fun w F2 H2 s2 g2 r2 => ⟨a, b, ?_, vw_int (r2.vw g2 e2), ?_⟩⟩
          · cases rv
            rfl
          · obtain ⟨g3, o3⟩ := g2.storeD (i := i) (v := .int (f a b)) (.int (f a b))
            exact q _ F2 H2 .set (s2.weak o3) g3
        | _ => cases ev
      | _ => cases ev
  cases op with
  | Add => exact go ip_add fun a b r z => (Option.some.inj z).symm
  | Sub => exact go ip_sub fun a b r z => (Option.some.inj z).symm
  | _ => exact nomatch h0
end
end Pv

namespace Pv
open PySem PySem.Spec L2
/-! ## pairs of stores, loops -/
section
variable {t : Tab} {Φ : Phi} {k : Nat} {c : Ctx} {X : Cx} {K : PySem.W.Frag} {F H F1 H1 : Hp} {ρ ρ1 ρ2 : Env} {σ σ1 : St} {D : Ends} {fl : Fl} {st : List Nat}
theorem par_core {a b : E} {r q' : R} {ρa ρb : Env} {i j : Nat} {P : V → V → Hp → Prop} (g : Good K F H ρ σ) (e1 : evE Φ a ρ = some (r, ρa)) (e2 : evE Φ b ρa = some (q', ρb)) (hi : i < ρb.length) (hj : j < ρb.length)
    (q : ∀ v w F2 H2, Step F H (Own ρ σ) F2 H2 (Own (setS (setS ρb i (some r)) j (some q')) ((σ.set i (some v)).set j (some w))) → Good K F2 H2 (setS (setS ρb i (some r)) j (some q')) ((σ.set i (some v)).set j (some w)) → P v w H2) :
    tE Φ K a σ H fun v H1 => tE Φ K b σ H1 fun w H2 => P v w H2 := by
  refine ⟨F, ρ, r, ρa, g, e1, fun v F1 H1 s1 g1 => ⟨F1, ρa, q', ρb, g1.left (len1 g1), e2, fun w F2 H2 s2 g2 => ?_⟩⟩
  have hl := len1 g1
  have hl2 := len1 g2
  have hl3 : (ρb ++ [some q']).length = (σ ++ [some w]).length := g2.len
  have z := g1.frame hl s2 g2
  have sA := s1.trans (s2.app (τ := [some r]) (υ := [some v]) hl hl3)
  have z2 := z.put hl3 i
  have sB := sA.weak fun b y => own_put (i := i) (r := r) (v := v) hl3 y
  have ea : setS (ρb ++ [some q']) i (some r) = setS ρb i (some r) ++ [some q'] := by rw [setS_eq, setS_eq, List.set_append_left _ _ hi]
  have eb : (σ ++ [some w]).set i (some v) = σ.set i (some v) ++ [some w] := List.set_append_left _ _ (by omega)
  rw [ea, eb] at z2 sB
  have hl4 : (setS ρb i (some r)).length = (σ.set i (some v)).length := by rw [setS_len, List.length_set]; exact hl2
  exact q v w F2 H2 (sB.weak fun b y => own_put hl4 y) (z2.put hl4 j)
theorem Kp.two {i j : Nat} {v w : Option V} : Kp [i, j] σ ((σ.set i v).set j w) := ⟨by rw [List.length_set, List.length_set], fun m hm => by
  rw [List.mem_cons, List.mem_singleton, not_or] at hm
  rw [List.getElem?_set_ne (Ne.symm hm.2), List.getElem?_set_ne (Ne.symm hm.1)]⟩
theorem swap_yes {x y : Str} {px py pt p2 : Pos} {kt k2 : Nat} {v w : Expr} {env : PySem.Env} (hk : env.scope.kind = .function) (hv : (!isStar v) = true) (hw : (!isStar w) = true) (hx : env.scope.names.lookup x = some .local) (hy : env.scope.names.lookup y = some .local)
    (hl : (px.line == py.line) = true) (hxy : x ≠ y) (hf : (foldedForSure 8 v && foldedForSure 8 w) = false) (hc : (constantsAlone 8 v && constantsAlone 8 w) = false) :
    swappedStores [.Tuple [.Name x px, .Name y py] kt pt] (.Tuple [v, w] k2 p2) env = pure (some [x, y]) := by
  have ky : env.kindOf y = some .local := hy
  have kx : env.kindOf x = some .local := hx
  have hb : env.blockKind = .function := by unfold Env.blockKind; rw [hk]; rfl
  have hl2 : (py.line == px.line) = true := by
    have := eq_of_beq hl
    rw [this]
    exact beq_self_eq_true _
  have nx : (x == y) = false := by simpa using hxy
  have ny : (y == x) = false := by simpa using Ne.symm hxy
  have sv : isStar v = false := star_of hv
  have sw : isStar w = false := star_of hw
  have any2 : ∀ (f : Expr → Bool), (∀ e, f e = isStar e) → [v, w].any f = false := fun f h => by simp [h, sv, sw]
  have all1 : [v, w].all (foldedForSure 8) = false := by simpa using hf
  have all2 : [v, w].all (constantsAlone 8) = false := by simpa using hc
  unfold swappedStores
  dsimp only
  rw [hb]
  rw [any2 _ (fun e => by cases e <;> rfl)]
  rw [all1, all2]
  simp only [List.filterMap_cons, List.filterMap_nil, kx, ky, hl2, List.head?, Option.map, Option.getD, Expr.pos, beq_self_eq_true, Bool.and_self, if_true]
  have ed : [x, y].eraseDups = [x, y] := by simp [List.eraseDups_cons, ny]
  rw [ed]
  rfl
theorem swap_no {x y : Str} {px py pt p2 : Pos} {kt k2 : Nat} {v w : Expr} {env : PySem.Env} (hv : (!isStar v) = true) (hw : (!isStar w) = true)
    (h : (env.kindOf x == some .local) = false ∨ (env.kindOf y == some .local) = false ∨ (py.line == px.line) = false ∨ (foldedForSure 8 v && foldedForSure 8 w) = true) :
    swappedStores [.Tuple [.Name x px, .Name y py] kt pt] (.Tuple [v, w] k2 p2) env = pure none := by
  have sv : isStar v = false := star_of hv
  have sw : isStar w = false := star_of hw
  have any2 : ∀ (f : Expr → Bool), (∀ e, f e = isStar e) → [v, w].any f = false := fun f h => by simp [h, sv, sw]
  have e1 : [v, w].all (foldedForSure 8) = (foldedForSure 8 v && foldedForSure 8 w) := by simp
  unfold swappedStores
  dsimp only
  rw [any2 _ (fun e => by cases e <;> rfl), e1]
  by_cases hb : (!(2 == 2 || 2 == 3) || 2 != 2 || env.blockKind != ScopeKind.function) = true
  · have hb' : (!([Expr.Name x px, Expr.Name y py].length == 2 || [Expr.Name x px, Expr.Name y py].length == 3) || [v, w].length != [Expr.Name x px, Expr.Name y py].length || env.blockKind != ScopeKind.function) = true := hb
    rw [if_pos hb']
  · have hb' : ¬ (!([Expr.Name x px, Expr.Name y py].length == 2 || [Expr.Name x px, Expr.Name y py].length == 3) || [v, w].length != [Expr.Name x px, Expr.Name y py].length || env.blockKind != ScopeKind.function) = true := hb
    rw [if_neg hb', if_neg Bool.false_ne_true]
    simp only [List.filterMap_cons, List.filterMap_nil, List.head?, Option.map, Option.getD, Expr.pos, beq_self_eq_true, Bool.and_true]
    rcases Bool.eq_false_or_eq_true (env.kindOf x == some .local) with q1 | q1 <;> rcases Bool.eq_false_or_eq_true (env.kindOf y == some .local) with q2 | q2 <;> rcases Bool.eq_false_or_eq_true (py.line == px.line) with q3 | q3 <;> simp only [q1, q2, q3, Bool.and_self, Bool.and_false, Bool.false_and, Bool.false_eq_true, if_true, if_false, reduceIte] at h ⊢ <;> first | rfl | skip
    have h : (foldedForSure 8 v && foldedForSure 8 w) = true := by simpa using h
    rw [h]
    split
    · rfl
    · rfl
theorem not_t {b : Bool} (h : (!b) = true) : b = false := by
  cases b with
  | false => rfl
  | true => cases h
theorem x_par (C : COk t Φ k c X) {i j : Nat} {a b : E} {x y : Str} {px py qt q2 p : Pos} {kt k2 : Nat} {v w : Expr} (hx : stoB c i x = true) (hy : stoB c j y = true) (hij : i ≠ j) (ha : chkE t a c v = true) (hb : chkE t b c w = true)
    (sv : (!isStar v) = true) (sw : (!isStar w) = true) (hp : parA c x y px py v w = true ∨ parB c x y px py v w = true) (hk : X.env.scope.kind = .function) :
    PS X (.Assign [.Tuple [.Name x px, .Name y py] kt qt] (.Tuple [v, w] k2 q2) p) (tS Φ X.K (.par i j a b)) := by
  obtain ⟨l1, l2, l3⟩ := C.loc hx
  obtain ⟨m1, m2, m3⟩ := C.loc hy
  have pa := pa_cons ((all_E a).ae C ha) (pa_cons ((all_E b).ae C hb) pa_nil (noStar_cons (es := []) (env := X.env) (star_of sw))) (noStar_cons (es := [w]) (env := X.env) (star_of sv))
  rcases hp with hp | hp
  · obtain ⟨hp, h6⟩ := and_t hp
    obtain ⟨hp, h5⟩ := and_t hp
    obtain ⟨hp, h4⟩ := and_t hp
    obtain ⟨hp, h3⟩ := and_t hp
    obtain ⟨h1, h2⟩ := and_t hp
    have kx : X.env.scope.names.lookup x = some .local := by
      rw [C.sc]
      exact kind_t h1
    have ky : X.env.scope.names.lookup y = some .local := by
      rw [C.sc]
      exact kind_t h2
    have hne : x ≠ y := fun e => by
      rw [e] at h4
      simp [sEq] at h4
    refine (ps_par (pos := p) C.calm C.nd l1 m1 hij kx ky pa (swap_yes hk sv sw kx ky h3 hne (not_t h5) (not_t h6))).imp fun D σ H ⟨F, ρ, fl, ρ1, g, ev, q⟩ => ?_
    obtain ⟨⟨r, ρa⟩, e1, ev⟩ := bnd ev
    obtain ⟨⟨q', ρb⟩, e2, ev⟩ := bnd ev
    have ev : (if i < ρb.length ∧ j < ρb.length then some (Fl.next, setS (setS ρb i (some r)) j (some q')) else none) = some (fl, ρ1) := ev
    obtain ⟨⟨hi, hj⟩, ev⟩ := ite_some ev
    cases ev
    exact par_core (P := fun v w H2 => ∃ v' w', [v, w] = [v', w'] ∧ D.nx ((σ.set i (some v')).set j (some w')) H2) g e1 e2 hi hj fun v w F2 H2 s2 g2 => ⟨v, w, rfl, q _ F2 H2 .two s2 g2⟩
  · have hh : (X.env.kindOf x == some .local) = false ∨ (X.env.kindOf y == some .local) = false ∨ (py.line == px.line) = false ∨ (foldedForSure 8 v && foldedForSure 8 w) = true := by
      rcases Bool.or_eq_true_iff.mp hp with hp | hp
      · rcases Bool.or_eq_true_iff.mp hp with hp | hp
        · rcases Bool.or_eq_true_iff.mp hp with hp | hp
          · refine .inl ?_
            have hp : kindIs c.sc x .local = false := by simpa using hp
            have hp : ¬ c.sc.names.lookup x = some .local := of_decide_eq_false hp
            have : ¬ X.env.kindOf x = some .local := by
              show ¬ X.env.scope.names.lookup x = _
              rw [C.sc]
              exact hp
            simpa using this
          · refine .inr (.inl ?_)
            have hp : kindIs c.sc y .local = false := by simpa using hp
            have hp : ¬ c.sc.names.lookup y = some .local := of_decide_eq_false hp
            have : ¬ X.env.kindOf y = some .local := by
              show ¬ X.env.scope.names.lookup y = _
              rw [C.sc]
              exact hp
            simpa using this
        · refine .inr (.inr (.inl ?_))
          have hp : (px.line == py.line) = false := by simpa using hp
          have hp : ¬ px.line = py.line := by simpa using hp
          simpa using Ne.symm hp
      · exact .inr (.inr (.inr hp))
    refine (ps_asg (pe_tup pa) (pg_tup (n := 2) C.calm (pgs_cons (pg_name C.nd l1 l2 l3) (pgs_cons (pg_name C.nd m1 m2 m3) pgs_nil rfl) rfl) rfl rfl) rfl (swap_no sv sw hh)).imp fun D σ H ⟨F, ρ, fl, ρ1, g, ev, q⟩ => ?_
    obtain ⟨⟨r, ρa⟩, e1, ev⟩ := bnd ev
    obtain ⟨⟨q', ρb⟩, e2, ev⟩ := bnd ev
    have ev : (if i < ρb.length ∧ j < ρb.length then some (Fl.next, setS (setS ρb i (some r)) j (some q')) else none) = some (fl, ρ1) := ev
    obtain ⟨⟨hi, hj⟩, ev⟩ := ite_some ev
    cases ev
    refine par_core (P := fun v w H2 => [v, w].length ≤ sizeLine ∧ ∀ pt, H2 pt = none → gTup X.K 2 (gCons (gName i) (gCons (gName j) gNil)) (.ref pt) σ (upd H2 pt (.tup [v, w])) D.nx) g e1 e2 hi hj fun v w F2 H2 s2 g2 => ⟨by rw [sizeLine_eq]; show 2 ≤ 16777216; decide, fun pt hpt => ?_⟩
    exact ⟨pt, [v, w], rfl, SqT.of upd_same, rfl, v, [w], rfl, w, [], rfl, rfl, q _ F2 _ .two (s2.trans (Step.junk hpt)) (g2.junk hpt)⟩
theorem x_for (C : COk t Φ k c X) {tg : Tg} {it : E} {b : S} {g iter : Expr} {body : List Stmt} {p : Pos} (h1 : chkI t it c g iter = true) (h2 : noSet iter = true) (h3 : chkTg c tg g = true) (hb : PSs X body (tS Φ X.K b)) : PS X (.For g iter body [] p) (tS Φ X.K (.for_ tg it b)) := by
  refine (ps_for (by rw [C.xe]; exact .never) C.calm ((all_E it).ai C h1) ((g_all C tg).1 g h3) hb (fold_of h2)).imp fun D σ H ⟨F, ρ, fl, ρz, g, ev, q⟩ => ?_
  obtain ⟨⟨ds, ρ1⟩, e1, ev⟩ := bnd ev
  refine ⟨F, ρ, ds, ρ1, g, e1, fun J F1 H1 s1 g1 wk => ?_⟩
  let f : PyData → Env → Option (Fl × Env) := fun d ρ => (bindT tg d ρ).bind fun ρ2 => ex Φ b ρ2
  have ev : forL f ds ρ1 = some (fl, ρz) := ev
  let P : Nat → St → Hp → Prop := fun i σ' H' => ∃ F' ρ', Kp (tg.sl ++ b.st) σ σ' ∧ Step F H (Own ρ σ) F' H' (Own ρ' σ') ∧ Sub F1 F' ∧ Good X.K F' H' ρ' σ' ∧ forL f (ds.drop i) ρ' = some (fl, ρz)
  refine ⟨fun i m σ' H' => m = ds.length - i ∧ i ≤ ds.length ∧ P i σ' H', ⟨ds.length, by simp, Nat.zero_le _, F1, ρ1, .refl, s1, Sub.rfl, g1, ev⟩, ?_⟩
  rintro i m σ' H' ⟨rfl, hi, F', ρ', kp, sg, sb, gg, ef⟩
  by_cases lt : i < ds.length
  · refine .inr ⟨wk.go i F' H' lt sb gg.sub, P (i + 1), fun σ'' H'' p' => ⟨ds.length - (i + 1), by omega, rfl, lt, p'⟩, fun x H'' y => ?_⟩
    obtain ⟨F2, s2, sub2, rp⟩ := wk.yld i F' H' x H'' _ (List.getElem?_eq_getElem lt) sb gg.sub y
    have g2 := gg.grow s2 sub2
    have sg2 := sg.trans (step_none s2)
    rw [List.drop_eq_getElem_cons lt] at ef
    obtain ⟨⟨fb, ρb⟩, e3, ef⟩ := bnd ef
    obtain ⟨ρa, e4, e5⟩ := bnd e3
    refine ⟨F2, ds[i], ρ', ρa, g2, rp, e4, fun σ2 hk g3 o3 => ?_⟩
    have kt : Kp tg.sl σ' σ2 := by
      refine ⟨?_, hk⟩
      have l3 := g3.len
      have l2 := g2.len
      rw [← l3, (bindT_len tg ds[i] _ _).1 e4, l2]
    have sg3 : Step F H (Own ρ σ) F2 H'' (Own ρa σ2) := sg2.trans (Step.refl.weak o3)
    have kp3 : Kp (tg.sl ++ b.st) σ σ2 := kp.trans kt (fun j z => z) fun j z => List.mem_append_left _ z
    refine ⟨F2, ρa, fb, ρb, g3, e5, ?_⟩
    cases fb with
    | next => exact fun σ4 F4 H4 k4 s4 g4 => ⟨F4, ρb, kp3.trans k4 (fun j z => z) (fun j z => List.mem_append_right _ z), sg3.trans s4, (sb.trans s2.fz).trans s4.fz, g4, ef⟩
    | cont => exact fun σ4 F4 H4 k4 s4 g4 => ⟨F4, ρb, kp3.trans k4 (fun j z => z) (fun j z => List.mem_append_right _ z), sg3.trans s4, (sb.trans s2.fz).trans s4.fz, g4, ef⟩
    | brk =>
      cases ef
      exact fun σ4 F4 H4 k4 s4 g4 => q σ4 F4 H4 (kp3.trans k4 (fun j z => z) (fun j z => List.mem_append_right _ z)) (sg3.trans s4) g4
    | ret r =>
      cases ef
      exact fun v σ4 F4 H4 k4 s4 g4 => q v σ4 F4 H4 (kp3.trans k4 (fun j z => z) (fun j z => List.mem_append_right _ z)) (sg3.trans s4) g4
  · have e : i = ds.length := by omega
    subst e
    rw [List.drop_length] at ef
    cases ef
    exact .inl ⟨wk.stop F' H' sb gg.sub, q σ' F' H' kp sg gg⟩
theorem x_while (C : COk t Φ k c X) {d : E} {b : S} {x : Expr} {body : List Stmt} {p : Pos} (hd : PT X x (tT Φ X.K d)) (hb : PSs X body (tS Φ X.K b)) : PS X (.While x body [] p) (tS Φ X.K (.while_ d b)) := by
  refine (ps_while (by rw [C.xe]; exact .never) hd hb).imp fun D σ H ⟨F, ρ, fl, ρz, g, ev, q⟩ => ?_
  refine ⟨fun m σ' H' => ∃ F' ρ', Kp b.st σ σ' ∧ Step F H (Own ρ σ) F' H' (Own ρ' σ') ∧ Good X.K F' H' ρ' σ' ∧ whileN (evT Φ d) (ex Φ b) m ρ' = some (fl, ρz), ⟨WF, F, ρ, .refl, Step.refl, g, ev⟩, ?_⟩
  rintro m σ' H' ⟨F', ρ', kp, sg, gg, ew⟩
  cases m with
  | zero => cases ew
  | succ n =>
    obtain ⟨⟨bb, ρa⟩, e1, ew⟩ := bnd ew
    refine ⟨F', ρ', bb, ρa, gg, e1, fun F2 H2 s2 g2 => ?_⟩
    have sg2 := sg.trans s2
    cases bb with
    | false =>
      cases ew
      exact q σ' F2 H2 kp sg2 g2
    | true =>
      obtain ⟨⟨fb, ρb⟩, e2, ew⟩ := bnd ew
      refine ⟨fun σ'' H'' => ∃ F'' ρ'', Kp b.st σ σ'' ∧ Step F H (Own ρ σ) F'' H'' (Own ρ'' σ'') ∧ Good X.K F'' H'' ρ'' σ'' ∧ whileN (evT Φ d) (ex Φ b) n ρ'' = some (fl, ρz), fun σ'' H'' h => ⟨n, Nat.lt_succ_self n, h⟩, F2, ρa, fb, ρb, g2, e2, ?_⟩
      cases fb with
      | next => exact fun σ4 F4 H4 k4 s4 g4 => ⟨F4, ρb, kp.trans k4 (fun j z => z) (fun j z => z), sg2.trans s4, g4, ew⟩
      | cont => exact fun σ4 F4 H4 k4 s4 g4 => ⟨F4, ρb, kp.trans k4 (fun j z => z) (fun j z => z), sg2.trans s4, g4, ew⟩
      | brk =>
        cases ew
        exact fun σ4 F4 H4 k4 s4 g4 => q σ4 F4 H4 (kp.trans k4 (fun j z => z) (fun j z => z)) (sg2.trans s4) g4
      | ret r =>
        cases ew
        exact fun v σ4 F4 H4 k4 s4 g4 => q v σ4 F4 H4 (kp.trans k4 (fun j z => z) (fun j z => z)) (sg2.trans s4) g4
theorem tS_never {D : Ends} {σ : St} {H : Hp} : tS Φ K .never D σ H → tNever D σ H := fun ⟨_, _, _, _, _, ev, _⟩ => nomatch (show (none : Option (Fl × Env)) = some _ from ev)
theorem all_S (C : COk t Φ k c X) (hk : X.env.scope.kind = .function) (s : S) : (∀ x, chkS t s c x = true → PS X x (tS Φ X.K s)) ∧ (∀ xs, chkSs t s c xs = true → PSs X xs (tS Φ X.K s)) := by
  induction s with
  | skip => exact ⟨fun x h => (nomatch (show false = true from h)), fun xs h => by
      obtain rfl := w_skip h
      exact x_skip⟩
  | seq a b iha ihb => exact ⟨fun x h => (nomatch (show false = true from h)), fun xs h => by
      obtain ⟨y, ys, rfl, h1, h2⟩ := w_seq h
      exact x_seq (iha.1 _ h1) (ihb.2 _ h2)⟩
  | asg i e => exact ⟨fun x h => by
      obtain ⟨y, py, v, p, rfl, h1, h2, h3⟩ := w_asg h
      exact (x_asg C h1 h2 h3 hk).1, fun xs h => (nomatch (show false = true from h))⟩
  | asgF i e => exact ⟨fun x h => by
      obtain ⟨y, py, v, p, rfl, h1, h2, h3⟩ := w_asgF h
      exact (x_asg C h1 h2 h3 hk).2, fun xs h => (nomatch (show false = true from h))⟩
  | asgT tg e => exact ⟨fun x h => by
      obtain ⟨es, kk, q, v, p, rfl, h1, h2, h3⟩ := w_asgT h
      exact x_asgT C h1 h2 h3, fun xs h => (nomatch (show false = true from h))⟩
  | par i j a b => exact ⟨fun x h => by
      obtain ⟨x, px, y, py, kt, qt, v, w, k2, q2, p, rfl, h1, h2, h3, h4, h5, h6, h7, h8⟩ := w_par h
      exact x_par C h1 h2 h3 h4 h5 h6 h7 h8 hk, fun xs h => (nomatch (show false = true from h))⟩
  | aug i op e => exact ⟨fun x h => by
      obtain ⟨x, xp, v, p, rfl, h1, h2, h3, h4⟩ := w_aug h
      exact x_aug C h1 h3 h4, fun xs h => (nomatch (show false = true from h))⟩
  | setx i ix e => exact ⟨fun x h => by
      obtain ⟨x, xp, r, q, v, p, rfl, h1, h2, h3, h4, h5⟩ := w_setx h
      exact x_setx C h1 h2 h3 h4 h5, fun xs h => (nomatch (show false = true from h))⟩
  | app i e => exact ⟨fun x h => by
      obtain ⟨x, xp, ap, v, cp, p, rfl, h1, h2, h3, h4⟩ := w_app h
      exact x_app C h1 h2 h3 h4, fun xs h => (nomatch (show false = true from h))⟩
  | ext i e => exact ⟨fun x h => by
      obtain ⟨x, xp, ap, v, cp, p, rfl, h1, h2, h3, h4⟩ := w_ext h
      exact x_ext C h1 h2 h3 h4, fun xs h => (nomatch (show false = true from h))⟩
  | ret e => exact ⟨fun x h => by
      obtain ⟨v, p, rfl, h1⟩ := w_ret h
      exact x_ret ((all_E e).ae C h1), fun xs h => (nomatch (show false = true from h))⟩
  | retN => exact ⟨fun x h => by
      obtain ⟨p, rfl⟩ := w_retN h
      exact x_retN, fun xs h => (nomatch (show false = true from h))⟩
  | if_ d a b iha ihb => exact ⟨fun x h => by
      obtain ⟨x, xs, ys, p, rfl, h1, h2, h3⟩ := w_if h
      exact x_if ((all_E d).aq C h1) (iha.2 _ h2) (ihb.2 _ h3), fun xs h => (nomatch (show false = true from h))⟩
  | for_ tg it b ih => exact ⟨fun x h => by
      obtain ⟨g, iter, body, p, rfl, h1, h2, h3, h4⟩ := w_for h
      exact x_for C h1 h2 h3 (ih.2 _ h4), fun xs h => (nomatch (show false = true from h))⟩
  | while_ d b ih => exact ⟨fun x h => by
      obtain ⟨x, body, p, rfl, h1, h2⟩ := w_while h
      exact x_while C ((all_E d).aq C h1) (ih.2 _ h2), fun xs h => (nomatch (show false = true from h))⟩
  | brk => exact ⟨fun x h => by
      obtain ⟨p, rfl⟩ := w_brk h
      exact x_brk, fun xs h => (nomatch (show false = true from h))⟩
  | cont => exact ⟨fun x h => by
      obtain ⟨p, rfl⟩ := w_cont h
      exact x_cont, fun xs h => (nomatch (show false = true from h))⟩
  | pass => exact ⟨fun x h => by
      obtain ⟨p, rfl⟩ := w_pass h
      exact x_pass, fun xs h => (nomatch (show false = true from h))⟩
  | drop e => exact ⟨fun x h => by
      obtain ⟨v, p, rfl, h1, h2⟩ := w_drop h
      exact x_drop h2 ((all_E e).ae C h1), fun xs h => (nomatch (show false = true from h))⟩
  | never => exact ⟨fun x _ => ps_never.imp fun D σ H h => tS_never h, fun xs _ => pss_never.imp fun D σ H h => tS_never h⟩
end
end Pv

namespace Pv
open PySem PySem.Spec L2
/-! ## functions -/
section
variable {K : PySem.W.Frag} {F H F1 H1 : Hp} {ρ ρ1 τ : Env} {σ σ1 : St}
theorem entryL_get (f : Fn) : ∀ (rs : List R) (j i : Nat), (entryL f j rs)[i]? = (rs[i]?).map fun r => some (if f.io (j + i) = true then r else frzR r)
  | [], j, i => by
    show ([] : Env)[i]? = _
    simp
  | r :: rs, j, 0 => by
    show (some (if f.io j = true then r else frzR r) :: entryL f (j + 1) rs)[0]? = _
    simp
  | r :: rs, j, i + 1 => by
    show (some (if f.io j = true then r else frzR r) :: entryL f (j + 1) rs)[i + 1]? = _
    rw [List.getElem?_cons_succ, List.getElem?_cons_succ, entryL_get f rs (j + 1) i, show j + 1 + i = j + (i + 1) by omega]
theorem entryL_len (f : Fn) : ∀ (rs : List R) (j : Nat), (entryL f j rs).length = rs.length
  | [], _ => rfl
  | r :: rs, j => congrArg (· + 1) (entryL_len f rs (j + 1))
theorem outsL_get (f : Fn) (ρ : Env) : ∀ (rs : List R) (j : Nat) (outs : List R), outsL f ρ j rs = some outs → outs.length = rs.length ∧ ∀ i r, rs[i]? = some r → ∃ q, outs[i]? = some q ∧ ((f.io (j + i) = true ∧ getS ρ (j + i) = some q) ∨ (f.io (j + i) = false ∧ q = frzR r))
  | [], j, outs, h => by
    cases h
    exact ⟨rfl, fun i r e => by simp at e⟩
  | r :: rs, j, outs, h => by
    obtain ⟨q, e1, h⟩ := bnd h
    obtain ⟨qs, e2, h⟩ := bnd h
    cases h
    obtain ⟨l, ih⟩ := outsL_get f ρ rs (j + 1) qs e2
    refine ⟨congrArg (· + 1) l, fun i r' e => ?_⟩
    cases i with
    | zero =>
      cases e
      refine ⟨q, rfl, ?_⟩
      by_cases z : f.io j = true
      · rw [if_pos z] at e1
        exact .inl ⟨z, e1⟩
      · rw [if_neg z] at e1
        exact .inr ⟨by simpa using z, (Option.some.inj e1).symm⟩
    | succ i =>
      have := ih i r' (by simpa using e)
      rw [show j + 1 + i = j + (i + 1) by omega] at this
      simpa using this
theorem frz_own (r : R) : (frzR r).own = false := by cases r <;> rfl
/-- the parameters that the body stores are given up at the entry -/
theorem entry_step (f : Fn) : ∀ (rs : List R) (dn : Env) (F : Hp), Good K F H (dn ++ rs.map some) σ → ∃ F', Step F H (Own (dn ++ rs.map some) σ) F' H (Own (dn ++ entryL f dn.length rs) σ) ∧ Good K F' H (dn ++ entryL f dn.length rs) σ
  | [], dn, F, g => ⟨F, Step.refl, g⟩
  | r :: rs, dn, F, g => by
    have go : ∀ (q : R) (F1 : Hp), Good K F1 H (dn ++ (some q :: rs.map some)) σ → q = (if f.io dn.length = true then r else frzR r) → ∃ F', Step F1 H (Own (dn ++ (some q :: rs.map some)) σ) F' H (Own (dn ++ entryL f dn.length (r :: rs)) σ) ∧ Good K F' H (dn ++ entryL f dn.length (r :: rs)) σ := fun q F1 g1 eq => by
      have ea : dn ++ (some q :: rs.map some) = (dn ++ [some q]) ++ rs.map some := by rw [List.append_assoc]; rfl
      have eb : dn ++ entryL f dn.length (r :: rs) = (dn ++ [some q]) ++ entryL f (dn ++ [some q]).length rs := by
        rw [List.append_assoc, List.length_append, eq]
        rfl
      rw [ea] at g1 ⊢
      rw [eb]
      exact entry_step f rs (dn ++ [some q]) F1 g1
    by_cases z : f.io dn.length = true
    · exact go r F g (by rw [if_pos z])
    · cases r with
      | v d => exact go (.v d) F g (by rw [if_neg z]; rfl)
      | s ns => exact go (.s ns) F g (by rw [if_neg z]; rfl)
      | l xs =>
        have hr : getS (dn ++ List.map some (R.l xs :: rs)) dn.length = some (.l xs) := by
          rw [getS_eq, List.getElem?_append_right (Nat.le_refl _), Nat.sub_self]
          rfl
        obtain ⟨v, hv⟩ := g.has _ _ (getS_eq.mp hr)
        obtain ⟨a, us, ea, _⟩ := g.at hr hv
        subst ea
        obtain ⟨F1, s1, g1, _⟩ := g.freeze hr hv
        have e : setS (dn ++ List.map some (R.l xs :: rs)) dn.length (some (.v (.list xs))) = dn ++ (some (.v (.list xs)) :: rs.map some) := by
          rw [setS_eq, List.set_append_right _ _ (Nat.le_refl _), Nat.sub_self]
          rfl
        rw [e] at s1 g1
        obtain ⟨F2, s2, g2⟩ := go (.v (.list xs)) F1 g1 (by rw [if_neg z]; rfl)
        exact ⟨F2, s1.trans s2, g2⟩
theorem pad_hold {n m i : Nat} {r : R} {v : V} (hl : ρ.length = σ.length) (h : Hold (ρ ++ List.replicate n none) (σ ++ List.replicate m none) i r v) : Hold ρ σ i r v := by
  by_cases hi : i < ρ.length
  · exact (hold_left hl hi).mp h
  · have h := ((hold_right hl (by omega)).mp h).1
    rw [List.getElem?_replicate] at h
    split at h <;> cases h
theorem Good.pad (g : Good K F H ρ σ) {n m : Nat} (e : n = m) : Good K F H (ρ ++ List.replicate n none) (σ ++ List.replicate m none) := by
  have hl := g.len
  refine g.map (by simp only [List.length_append, List.length_replicate]; omega) (fun i r h => ?_) id (fun i r v h => pad_hold hl h) (fun _ _ _ _ _ _ _ _ _ e => e)
  by_cases hi : i < ρ.length
  · rw [List.getElem?_append_left hi] at h
    obtain ⟨v, e⟩ := g.has i r h
    exact ⟨v, by rw [List.getElem?_append_left (by omega)]; exact e⟩
  · rw [List.getElem?_append_right (by omega), List.getElem?_replicate] at h
    split at h <;> cases h
theorem rep_old {v : V} {r : R} (h : RepR K F H v r) (ho : r.own = false) (s : Sub F F1) : RepR K F1 H1 v r := by
  cases r with
  | v d => exact Rp.mono s h
  | l xs => cases ho
  | s ns =>
    obtain ⟨a, e, h⟩ := h
    exact ⟨a, e, SqL.sub s h⟩
theorem back_good {f : Fn} {rs outs : List R} {vs : List V} {F0 H0 : Hp} {r : R} {v : V} {n m : Nat} (g0 : Good K F0 H0 (entryL f 0 rs ++ List.replicate n none) (vs.map some ++ List.replicate m none)) (hl : rs.length = vs.length) (sb : Sub F0 F1)
    (kp : Kp f.body.st (vs.map some ++ List.replicate m none) σ1) (ho : outsL f ρ1 0 rs = some outs) (g : Good K F1 H1 (ρ1 ++ [some r]) (σ1 ++ [some v])) :
    Good K F1 H1 (outs.map some ++ [some r]) (vs.map some ++ [some v]) ∧ ∀ a, Own (outs.map some ++ [some r]) (vs.map some ++ [some v]) a → Own (ρ1 ++ [some r]) (σ1 ++ [some v]) a := by
  obtain ⟨lo, og⟩ := outsL_get f ρ1 rs 0 outs ho
  have hl1 := len1 g
  have hlo : (outs.map some).length = (vs.map some).length := by rw [List.length_map, List.length_map, lo, hl]
  have at_ : ∀ i q w, Hold (outs.map some ++ [some r]) (vs.map some ++ [some v]) i q w → (i = outs.length ∧ q = r ∧ w = v) ∨ (i < outs.length ∧ f.io i = true ∧ Hold (ρ1 ++ [some r]) (σ1 ++ [some v]) i q w) ∨ (i < outs.length ∧ q.own = false ∧ RepR K F1 H1 w q) := fun i q w h => by
    rcases hold_last (τ := []) (υ := []) hlo h with ⟨e, e1, e2⟩ | ⟨lt, h⟩
    · rw [List.length_map] at e
      exact .inl ⟨e, e1, e2⟩
    · rw [List.length_map] at lt
      obtain ⟨h1, h2⟩ := h
      have lr : i < rs.length := by omega
      obtain ⟨q', e1, e2⟩ := og i rs[i] (List.getElem?_eq_getElem lr)
      rw [List.getElem?_map, e1] at h1
      cases h1
      rw [Nat.zero_add] at e2
      have hσ : (vs.map some ++ List.replicate m none)[i]? = some (some w) := by
        rw [List.getElem?_append_left (by rw [List.length_map]; omega)]
        exact h2
      rcases e2 with ⟨z, e2⟩ | ⟨z, e2⟩
      · refine .inr (.inl ⟨lt, z, hold_app ⟨getS_eq.mp e2, ?_⟩⟩)
        have hn : i ∉ f.body.st := fun y => by
          have z := (and_t z).1
          rw [List.contains_iff_mem.mpr y] at z
          cases z
        rw [kp.2 i hn]
        exact hσ
      · refine .inr (.inr ⟨lt, by rw [e2]; exact frz_own _, ?_⟩)
        have z0 : RepR K F0 H0 w q := g0.rep i q w ⟨by
          rw [List.getElem?_append_left (by rw [entryL_len]; omega), entryL_get, List.getElem?_eq_getElem lr, Nat.zero_add, z, e2]
          rfl, hσ⟩
        exact rep_old z0 (by rw [e2]; exact frz_own _) sb
  have own_at : ∀ i q w, Hold (outs.map some ++ [some r]) (vs.map some ++ [some v]) i q w → q.own = true → Hold (ρ1 ++ [some r]) (σ1 ++ [some v]) (if i = outs.length then ρ1.length else i) q w := fun i q w h o => by
    rcases at_ i q w h with ⟨e, rfl, rfl⟩ | ⟨lt, _, h⟩ | ⟨_, o', _⟩
    · rw [if_pos e]
      exact hold_top hl1
    · rw [if_neg (by omega)]
      exact h
    · rw [o'] at o
      cases o
  refine ⟨⟨g.sub, by simp only [List.length_append, List.length_map, List.length_singleton]; omega, fun i q h => ?_, fun i q w h => ?_, fun i j q q' a h1 h2 o1 o2 => ?_⟩, fun a ⟨i, q, h, o⟩ => ⟨_, q, own_at i q _ h o, o⟩⟩
  · have lt := (List.getElem?_eq_some_iff.mp h).1
    have lt2 : i < (vs.map some ++ [some v]).length := by
      simp only [List.length_append, List.length_map, List.length_singleton] at lt ⊢
      omega
    by_cases hi : i < vs.length
    · exact ⟨vs[i], by rw [List.getElem?_append_left (by rw [List.length_map]; exact hi), List.getElem?_map, List.getElem?_eq_getElem hi]; rfl⟩
    · refine ⟨v, ?_⟩
      simp only [List.length_append, List.length_map, List.length_singleton] at lt2
      rw [List.getElem?_append_right (by rw [List.length_map]; omega), List.length_map, show i - vs.length = 0 by omega]
      rfl
  · rcases at_ i q w h with ⟨e, rfl, rfl⟩ | ⟨lt, _, h⟩ | ⟨_, _, h⟩
    · exact top_rep g
    · exact g.rep i q w h
    · exact h
  · have z := g.dis _ _ q q' a (own_at i q _ h1 o1) (own_at j q' _ h2 o2) o1 o2
    have b1 : i = outs.length ∨ f.io i = true ∧ i < outs.length := by
      rcases at_ i q _ h1 with ⟨e, _, _⟩ | ⟨lt, y, _⟩ | ⟨_, o', _⟩
      · exact .inl e
      · exact .inr ⟨y, lt⟩
      · rw [o'] at o1
        cases o1
    have b2 : j = outs.length ∨ f.io j = true ∧ j < outs.length := by
      rcases at_ j q' _ h2 with ⟨e, _, _⟩ | ⟨lt, y, _⟩ | ⟨_, o', _⟩
      · exact .inl e
      · exact .inr ⟨y, lt⟩
      · rw [o'] at o2
        cases o2
    have lb := kp.1
    simp only [List.length_append, List.length_map, List.length_replicate] at lb
    rcases b1 with b1 | ⟨_, b1⟩ <;> rcases b2 with b2 | ⟨_, b2⟩
    · omega
    · rw [if_pos b1, if_neg (by omega)] at z
      omega
    · rw [if_neg (by omega), if_pos b2] at z
      omega
    · rw [if_neg (by omega), if_neg (by omega)] at z
      exact z
end
/-- a def -/
structure Df where
  nm : Str
  ps : List Str
  N : List Str
  fn : Fn
  st : Stmt
def scB (N P : List Str) (sc : Scope) : Bool := (match sc.kind with | .function => true | _ => false) && !sc.isCoroutine && !sc.isGenerator && decide N.Nodup && decide (N.take P.length = P) && (P.all fun x => kindIs sc x .local || kindIs sc x .cell) && (sc.names.all fun y => match y.2 with | .free => false | _ => true)
theorem sc_of {N P : List Str} {sc : Scope} (h : scB N P sc = true) : FnScope N P sc := by
  obtain ⟨h, h7⟩ := and_t h
  obtain ⟨h, h6⟩ := and_t h
  obtain ⟨h, h5⟩ := and_t h
  obtain ⟨h, h4⟩ := and_t h
  obtain ⟨h, h3⟩ := and_t h
  obtain ⟨h1, h2⟩ := and_t h
  refine ⟨?_, not_t h2, not_t h3, of_decide_eq_true h4, of_decide_eq_true h5, fun x hx => ?_, fun y hy e => ?_⟩
  · split at h1
    · assumption
    · cases h1
  · exact (Bool.or_eq_true_iff.mp (List.all_eq_true.mp h6 x hx)).imp kind_t kind_t
  · have z := List.all_eq_true.mp h7 y hy
    rw [e] at z
    cases z
def chkDf (t : Tab) (d : Df) : Bool := scB d.N d.ps (defScope d.st) && chkSs t d.fn.body ⟨d.N, defScope d.st, fun _ => true⟩ (defBody d.st) && decide (d.fn.np = d.ps.length) && decide (d.fn.ns = d.N.length) && decide (d.ps.length ≤ d.N.length)
section
variable {t : Tab} {P : Program} {w : World} {K : PySem.W.Frag} {mg : Str → Option Value} {base : Heap}
theorem start_step {f : Fn} {rs : List R} {vs : List V} {F H : Hp} {n m : Nat} (g : Good K F H (rs.map some) (vs.map some)) (e : n = m) : ∃ F0, Step F H (Own (rs.map some) (vs.map some)) F0 H (Own (entryL f 0 rs ++ List.replicate n none) (vs.map some ++ List.replicate m none)) ∧ Good K F0 H (entryL f 0 rs ++ List.replicate n none) (vs.map some ++ List.replicate m none) := by
  obtain ⟨F0, s0, g0⟩ := entry_step f rs [] F (H := H) (σ := vs.map some) (K := K) g
  exact ⟨F0, s0.weak fun a ⟨i, r, h, o⟩ => ⟨i, r, pad_hold g0.len h, o⟩, g0.pad e⟩
theorem fn_ok {Φ Φ' : Phi} {k : Nat} {d : Df} {a : Addr} {fd : FuncData} (FD : FunD K d.nm d.nm (defArgs d.st) (defBody d.st) (defScope d.st) [] [] a fd) (hc : chkDf t d = true)
    (hΦ : ∀ rs, Φ' d.nm rs = runF Φ d.fn rs)
    (cs : ∀ p ∈ t.cs, ∃ tk, mg p.1 = some (.int p.2 tk)) (fr : ∀ x ∈ t.fr, mg x = none)
    (fns : ∀ p ∈ t.fns, ∃ a fd ps, ps.length = p.2 ∧ mg p.1 = some (.ref a) ∧ PySem.W.keepIn K (.ref a) = true ∧ Binds K fd ps [] ∧ FnOk P w K mg base (fun _ _ _ _ _ _ => False) k a fd ps (spF Φ K p.1)) :
    FnOk P w K mg base CX0 (k + 1) a fd d.ps (spF Φ' K d.nm) := by
  obtain ⟨hc, c5⟩ := and_t hc
  obtain ⟨hc, c4⟩ := and_t hc
  obtain ⟨hc, c3⟩ := and_t hc
  obtain ⟨c1, c2⟩ := and_t hc
  have c3 : d.fn.np = d.ps.length := of_decide_eq_true c3
  have c4 : d.fn.ns = d.N.length := of_decide_eq_true c4
  have S := sc_of c1
  have hlen : ∀ vs H Q E, spF Φ' K d.nm vs H Q E → vs.length = d.ps.length := fun vs H Q E ⟨F, rs, r, outs, g, ev, _⟩ => by
    have l := g.len
    rw [List.length_map, List.length_map] at l
    rw [hΦ] at ev
    unfold runF at ev
    by_cases z : rs.length = d.fn.np
    · omega
    · rw [if_neg z] at ev
      cases ev
  refine FD.ok S hlen (fun cdv A outer s H vs Q E hr h => ⟨tS Φ K d.fn.body, PSs.nox ?_, ?_⟩)
  · have C : COk t Φ k ⟨d.N, defScope d.st, fun _ => true⟩ (cxOf CX0 P w K mg base d.N d.nm (defScope d.st) a cdv A outer s H E).nox := ⟨rfl, rfl, S.nd, rfl, rfl, rfl, hr, cs, fr, fns⟩
    exact (all_S C S.kind d.fn.body).2 _ c2
  · have hl := hlen vs H Q E h
    obtain ⟨F, rs, r, outs, g, ev, q⟩ := h
    have l := g.len
    rw [List.length_map, List.length_map] at l
    rw [hΦ] at ev
    unfold runF at ev
    obtain ⟨z, ev⟩ := ite_on ev
    obtain ⟨⟨fl, ρ1⟩, e1, ev⟩ := bnd ev
    obtain ⟨r', e2, ev⟩ := bnd ev
    obtain ⟨outs', e3, ev⟩ := bnd ev
    cases ev
    obtain ⟨F0, s0, g0⟩ := start_step (f := d.fn) (n := d.fn.ns - d.fn.np) (m := d.N.length - vs.length) g (by omega)
    refine ⟨F0, _, fl, ρ1, g0, e1, ?_⟩
    cases fl with
    | brk => cases e2
    | cont => cases e2
    | ret r0 =>
      cases e2
      intro v σ1 F1 H1 kp s1 g1
      obtain ⟨gb, ob⟩ := back_good g0 l s1.fz kp e3 g1
      exact q v F1 H1 ((s0.trans s1).weak ob) gb
    | next =>
      cases e2
      intro σ1 F1 H1 kp s1 g1
      have g2 : Good K F1 H1 (ρ1 ++ [some (.v .none)]) (σ1 ++ [some .non]) := g1.more rfl (show RepR _ _ _ .non (.v .none) from .non)
      obtain ⟨gb, ob⟩ := back_good g0 l s1.fz kp e3 g2
      exact q .non F1 H1 ((s0.trans s1).weak fun a z => own_more g1.len rfl (ob a z)) gb
/-- every def of the text, at every depth -/
theorem fns_ok {defs : List Df} {prog : Str → Option Fn} (hc : ∀ d ∈ defs, chkDf t d = true) (hp : ∀ d ∈ defs, prog d.nm = some d.fn) (ht : ∀ p ∈ t.fns, ∃ d ∈ defs, d.nm = p.1 ∧ d.ps.length = p.2)
    (cs : ∀ p ∈ t.cs, ∃ tk, mg p.1 = some (.int p.2 tk)) (fr : ∀ x ∈ t.fr, mg x = none)
    (hd : ∀ d ∈ defs, ∃ a fd, FunD K d.nm d.nm (defArgs d.st) (defBody d.st) (defScope d.st) [] [] a fd ∧ mg d.nm = some (.ref a) ∧ Binds K fd d.ps []) :
    ∀ (k : Nat) (d : Df), d ∈ defs → ∀ a fd, FunD K d.nm d.nm (defArgs d.st) (defBody d.st) (defScope d.st) [] [] a fd → FnOk P w K mg base CX0 k a fd d.ps (spF (Ph prog k) K d.nm) := by
  intro k
  induction k with
  | zero => exact fun d _ a fd _ => ⟨fun vs H Q E ⟨_, _, _, _, _, ev, _⟩ => (nomatch (show (none : Option (R × List R)) = some _ from ev)), fun A outer s H args us vs Q E _ _ _ _ ⟨_, _, _, _, _, ev, _⟩ => nomatch (show (none : Option (R × List R)) = some _ from ev)⟩
  | succ k ih =>
    intro d hm a fd FD
    refine fn_ok (Φ := Ph prog k) FD (hc d hm) (fun rs => ?_) cs fr fun p hpt => ?_
    · show ((prog d.nm).bind fun fn => runF (Ph prog k) fn rs) = _
      rw [hp d hm]
      rfl
    · obtain ⟨d', hm', e1, e2⟩ := ht p hpt
      obtain ⟨a', fd', F', m', b'⟩ := hd d' hm'
      refine ⟨a', fd', d'.ps, e2, by rw [← e1]; exact m', F'.kp, b', ?_⟩
      rw [← e1]
      exact ih d' hm' a' fd' F'
/-- the law's def: True of every script -/
theorem law_sp {Φ : Phi} {x : Str} {H : Hp} {a : Addr} {ns : List Int} {outs : List R} {E : XK} (hS : SqL K H a (ns.map V.int)) (h : Φ x [.s ns] = some (.v (.bool true), outs)) : spF Φ K x [.ref a] H (fun v _ => v = .bl true) E := by
  refine ⟨H, [.s ns], _, outs, ⟨Sub.rfl, rfl, fun i r e => ?_, fun i r v hh => ?_, fun i j r q b h1 h2 o1 o2 => ?_⟩, h, fun v F1 H1 s1 g1 => ?_⟩
  · cases i with
    | zero => exact ⟨.ref a, rfl⟩
    | succ i => simp at e
  · cases i with
    | zero =>
      obtain ⟨h1, h2⟩ := hh
      cases h1
      cases h2
      exact ⟨a, rfl, hS⟩
    | succ i => exact absurd hh.1 (by simp)
  · cases i with
    | zero =>
      obtain ⟨h3, _⟩ := h1
      cases h3
      cases o1
    | succ i => exact absurd h1.1 (by simp)
  · have z := top_rep g1
    have z : Rp F1 v (.bool true) := z
    cases z
    rfl
end
end Pv

namespace Pv
open PySem PySem.Spec L2
/-! ## to run the small language by simp -/
section
variable {Φ : Phi} {ρ : Env}
@[simp] theorem ev_var {i : Nat} : evE Φ (.var i) ρ = (getS ρ i).bind fun r => match r with
    | .l xs => some (.v (.list xs), setS ρ i (some (.v (.list xs))))
    | r => some (r, ρ) := rfl
@[simp] theorem ev_mv {i : Nat} : evE Φ (.mv i) ρ = (getS ρ i).bind fun r => some (r, setS ρ i none) := rfl
@[simp] theorem ev_num {z : Int} : evE Φ (.num z) ρ = some (.v (.int z), ρ) := rfl
@[simp] theorem ev_bl {z : Bool} : evE Φ (.bl z) ρ = some (.v (.bool z), ρ) := rfl
@[simp] theorem ev_non : evE Φ .non ρ = some (.v .none, ρ) := rfl
@[simp] theorem ev_str {z : Str} : evE Φ (.str z) ρ = some (.v (.str z), ρ) := rfl
@[simp] theorem ev_cst {x : Str} {z : Int} : evE Φ (.cst x z) ρ = some (.v (.int z), ρ) := rfl
@[simp] theorem ev_bin {op : Operator} {a b : E} : evE Φ (.bin op a b) ρ = (opd a (evE Φ a) ρ).bind fun p => (opd b (evE Φ b) p.2).bind fun q =>
      (der q.2 p.1).bind fun d => (der q.2 q.1).bind fun e => (binD op d e).bind fun r => some (r, q.2) := rfl
@[simp] theorem ev_neg {a : E} : evE Φ (.neg a) ρ = (opd a (evE Φ a) ρ).bind fun p => (der p.2 p.1).bind fun d => (negD d).bind fun r => some (.v r, p.2) := rfl
@[simp] theorem ev_cmp {op : CmpOp} {a b : E} : evE Φ (.cmp op a b) ρ = (opd a (evE Φ a) ρ).bind fun p => (opd b (evE Φ b) p.2).bind fun q =>
      (der q.2 p.1).bind fun d => (der q.2 q.1).bind fun e => (cmpD op d e).bind fun r => some (.v (.bool r), q.2) := rfl
@[simp] theorem ev_chain {o1 o2 : CmpOp} {a b c : E} : evE Φ (.chain o1 o2 a b c) ρ = (opd a (evE Φ a) ρ).bind fun p => (opd b (evE Φ b) p.2).bind fun q =>
      (der q.2 p.1).bind fun d => (der q.2 q.1).bind fun e => (cmpD o1 d e).bind fun r => match r with
        | false => some (.v (.bool false), q.2)
        | true => (opd c (evE Φ c) q.2).bind fun u => (der u.2 q.1).bind fun e => (der u.2 u.1).bind fun g => (cmpD o2 e g).bind fun r => some (.v (.bool r), u.2) := rfl
@[simp] theorem ev_and {a b : E} : evE Φ (.and_ a b) ρ = (evE Φ a ρ).bind fun p => (truR p.1).bind fun k => match k with
      | true => evE Φ b p.2
      | false => some (p.1, p.2) := rfl
@[simp] theorem ev_or {a b : E} : evE Φ (.or_ a b) ρ = (evE Φ a ρ).bind fun p => (truR p.1).bind fun k => match k with
      | true => some (p.1, p.2)
      | false => evE Φ b p.2 := rfl
@[simp] theorem ev_not {a : E} : evE Φ (.not_ a) ρ = (opd a (evE Φ a) ρ).bind fun p => (derS p.2 p.1).bind fun d => (truD d).bind fun k => some (.v (.bool (!k)), p.2) := rfl
@[simp] theorem ev_ife {c a b : E} : evE Φ (.ife c a b) ρ = (evT Φ c ρ).bind fun p => match p.1 with
      | true => evE Φ a p.2
      | false => evE Φ b p.2 := rfl
@[simp] theorem ev_tup {a : E} : evE Φ (.tup a) ρ = (evF Φ a ρ).bind fun p => if okN p.1.length = true then some (.v (.tuple p.1), p.2) else none := rfl
@[simp] theorem ev_lst {a : E} : evE Φ (.lst a) ρ = (evF Φ a ρ).bind fun p => if okN p.1.length = true then some (.l p.1, p.2) else none := rfl
@[simp] theorem ev_idx {a b : E} : evE Φ (.idx a b) ρ = (opd a (evE Φ a) ρ).bind fun p => (opd b (evE Φ b) p.2).bind fun q =>
      (derS q.2 p.1).bind fun d => (der q.2 q.1).bind fun e => (idxD d e).bind fun r => some (.v r, q.2) := rfl
@[simp] theorem ev_slc {a lo hi : E} : evE Φ (.slc a lo hi) ρ = (opd a (evE Φ a) ρ).bind fun p => (evB Φ lo p.2).bind fun l => (evB Φ hi l.2).bind fun h =>
      (derS h.2 p.1).bind fun d => (slcD d l.1 h.1).bind fun r => some (r, h.2) := rfl
@[simp] theorem ev_rev {a : E} : evE Φ (.rev a) ρ = (opd a (evE Φ a) ρ).bind fun p => (der p.2 p.1).bind fun d => (revD d).bind fun r => some (r, p.2) := rfl
@[simp] theorem ev_call {f : Str} {es : E} : evE Φ (.call f es) ρ = (evL Φ es ρ).bind fun p => (Φ f (p.1.map (·.1))).bind fun o =>
      if o.2.length = p.1.length then some (o.1, wb p.2 p.1 o.2) else none := rfl
@[simp] theorem ev_len {es : E} : evE Φ (.bi .len es) ρ = (evOs Φ es ρ).bind fun p => match p.1 with
      | [o] => (derS p.2 o).bind fun d => (biD .len [d]).bind fun r => some (r, p.2)
      | os => (derAll p.2 os).bind fun ds => (biD .len ds).bind fun r => some (r, p.2) := by
  show (evOs Φ es ρ).bind _ = _
  congr 1
  funext p
  obtain ⟨os, ρ1⟩ := p
  cases os with
  | nil => rfl
  | cons o os => cases os <;> rfl
@[simp] theorem ev_list {es : E} : evE Φ (.bi .list es) ρ = (evOs Φ es ρ).bind fun p => match p.1 with
      | [o] => (derS p.2 o).bind fun d => (biD .list [d]).bind fun r => some (r, p.2)
      | os => (derAll p.2 os).bind fun ds => (biD .list ds).bind fun r => some (r, p.2) := by
  show (evOs Φ es ρ).bind _ = _
  congr 1
  funext p
  obtain ⟨os, ρ1⟩ := p
  cases os with
  | nil => rfl
  | cons o os => cases os <;> rfl
theorem ev_bi {b : Bi} {es : E} (h1 : b ≠ .len) (h2 : b ≠ .list) : evE Φ (.bi b es) ρ = (evOs Φ es ρ).bind fun p => (derAll p.2 p.1).bind fun ds => (biD b ds).bind fun r => some (r, p.2) := by
  cases b <;> first | exact absurd rfl h1 | exact absurd rfl h2 | rfl
@[simp] theorem ev_btuple {es : E} : evE Φ (.bi .tuple es) ρ = (evOs Φ es ρ).bind fun p => (derAll p.2 p.1).bind fun ds => (biD .tuple ds).bind fun r => some (r, p.2) := rfl
@[simp] theorem ev_ball {es : E} : evE Φ (.bi .all es) ρ = (evOs Φ es ρ).bind fun p => (derAll p.2 p.1).bind fun ds => (biD .all ds).bind fun r => some (r, p.2) := rfl
@[simp] theorem ev_bany {es : E} : evE Φ (.bi .any es) ρ = (evOs Φ es ρ).bind fun p => (derAll p.2 p.1).bind fun ds => (biD .any ds).bind fun r => some (r, p.2) := rfl
@[simp] theorem ev_bint {es : E} : evE Φ (.bi .int es) ρ = (evOs Φ es ρ).bind fun p => (derAll p.2 p.1).bind fun ds => (biD .int ds).bind fun r => some (r, p.2) := rfl
@[simp] theorem ev_babs {es : E} : evE Φ (.bi .abs es) ρ = (evOs Φ es ρ).bind fun p => (derAll p.2 p.1).bind fun ds => (biD .abs ds).bind fun r => some (r, p.2) := rfl
@[simp] theorem ev_bmin2 {es : E} : evE Φ (.bi .min2 es) ρ = (evOs Φ es ρ).bind fun p => (derAll p.2 p.1).bind fun ds => (biD .min2 ds).bind fun r => some (r, p.2) := rfl
@[simp] theorem ev_bmax2 {es : E} : evE Φ (.bi .max2 es) ρ = (evOs Φ es ρ).bind fun p => (derAll p.2 p.1).bind fun ds => (biD .max2 ds).bind fun r => some (r, p.2) := rfl
@[simp] theorem ev_bsum {es : E} : evE Φ (.bi .sum es) ρ = (evOs Φ es ρ).bind fun p => (derAll p.2 p.1).bind fun ds => (biD .sum ds).bind fun r => some (r, p.2) := rfl
@[simp] theorem ev_bmin {es : E} : evE Φ (.bi .min es) ρ = (evOs Φ es ρ).bind fun p => (derAll p.2 p.1).bind fun ds => (biD .min ds).bind fun r => some (r, p.2) := rfl
@[simp] theorem ev_bmax {es : E} : evE Φ (.bi .max es) ρ = (evOs Φ es ρ).bind fun p => (derAll p.2 p.1).bind fun ds => (biD .max ds).bind fun r => some (r, p.2) := rfl
@[simp] theorem ev_bsorted {es : E} : evE Φ (.bi .sorted es) ρ = (evOs Φ es ρ).bind fun p => (derAll p.2 p.1).bind fun ds => (biD .sorted ds).bind fun r => some (r, p.2) := rfl
@[simp] theorem ev_isi {a : E} {ts : List Ty} : evE Φ (.isi a ts) ρ = (opd a (evE Φ a) ρ).bind fun p => (der p.2 p.1).bind fun d => some (.v (.bool (ts.any (isiD d))), p.2) := rfl
@[simp] theorem ev_mt {m : Mt} {o es : E} : evE Φ (.mt m o es) ρ = (opd o (evE Φ o) ρ).bind fun p => (der p.2 p.1).bind fun d0 => if isLst d0 = true then (evOs Φ es p.2).bind fun q =>
      (der q.2 p.1).bind fun d => (derAll q.2 q.1).bind fun ds => (mtD m d ds).bind fun r => some (r, q.2) else none := rfl
@[simp] theorem ev_pop {i : Nat} : evE Φ (.pop i) ρ = (getS ρ i).bind fun r => match r with
      | .l xs => (xs.getLast?).bind fun y => some (.v y, setS ρ i (some (.l xs.dropLast)))
      | _ => none := rfl
@[simp] theorem ev_lrg {t : Bool} {it : E} : evE Φ (.lrg t it) ρ = (evI Φ it ρ).bind fun p => if okN p.1.length = true then some (if t then .v (.tuple p.1) else .l p.1, p.2) else none := rfl
@[simp] theorem ev_comp {elt : E} {tg : Tg} {it ifs : E} {vs : List Nat} : evE Φ (.comp elt tg it ifs vs) ρ = (evI Φ it ρ).bind fun p => if okN p.1.length = true then
      (compL (turnE Φ elt tg ifs) vs p.1 (wipeE p.2 vs)).bind fun q => some (.l q.1, back p.2 q.2 vs) else none := rfl
@[simp] theorem tv_tt {a : E} : evT Φ (.tt a) ρ = (opd a (evE Φ a) ρ).bind fun p => (derS p.2 p.1).bind fun d => (truD d).bind fun k => some (k, p.2) := rfl
@[simp] theorem tv_cmp {op : CmpOp} {a b : E} : evT Φ (.tcmp op a b) ρ = (opd a (evE Φ a) ρ).bind fun p => (opd b (evE Φ b) p.2).bind fun q =>
      (der q.2 p.1).bind fun d => (der q.2 q.1).bind fun e => (cmpD op d e).bind fun r => some (r, q.2) := rfl
@[simp] theorem tv_chain {o1 o2 : CmpOp} {a b c : E} : evT Φ (.tchain o1 o2 a b c) ρ = (opd a (evE Φ a) ρ).bind fun p => (opd b (evE Φ b) p.2).bind fun q =>
      (der q.2 p.1).bind fun d => (der q.2 q.1).bind fun e => (cmpD o1 d e).bind fun r => match r with
        | false => some (false, q.2)
        | true => (opd c (evE Φ c) q.2).bind fun u => (der u.2 q.1).bind fun e => (der u.2 u.1).bind fun g => (cmpD o2 e g).bind fun r => some (r, u.2) := rfl
@[simp] theorem tv_and {a b : E} : evT Φ (.tand a b) ρ = (evT Φ a ρ).bind fun p => match p.1 with
      | true => evT Φ b p.2
      | false => some (false, p.2) := rfl
@[simp] theorem tv_or {a b : E} : evT Φ (.tor a b) ρ = (evT Φ a ρ).bind fun p => match p.1 with
      | true => some (true, p.2)
      | false => evT Φ b p.2 := rfl
@[simp] theorem tv_not {a : E} : evT Φ (.tnot a) ρ = (evT Φ a ρ).bind fun p => some (!p.1, p.2) := rfl
@[simp] theorem tv_yes : evT Φ .tyes ρ = some (true, ρ) := rfl
@[simp] theorem fv_nil : evF Φ .nil ρ = some ([], ρ) := rfl
@[simp] theorem fv_cons {a b : E} : evF Φ (.cons a b) ρ = (evE Φ a ρ).bind fun p => (frzO p.1).bind fun d => (evF Φ b p.2).bind fun q => some (d :: q.1, q.2) := rfl
@[simp] theorem ov_nil : evOs Φ .nil ρ = some ([], ρ) := rfl
@[simp] theorem ov_cons {a b : E} : evOs Φ (.cons a b) ρ = (opd a (evE Φ a) ρ).bind fun p => (evOs Φ b p.2).bind fun q => some (p.1 :: q.1, q.2) := rfl
@[simp] theorem lv_nil : evL Φ .nil ρ = some ([], ρ) := rfl
@[simp] theorem lv_var {i : Nat} {b : E} : evL Φ (.cons (.var i) b) ρ = (getS ρ i).bind fun _ => (evL Φ b ρ).bind fun q => (getS q.2 i).bind fun r => if r.own = true then some ((r, some i) :: q.1, setS q.2 i none) else some ((r, none) :: q.1, q.2) := rfl
theorem lv_cons {a b : E} (h : ∀ i, a ≠ .var i) : evL Φ (.cons a b) ρ = (evE Φ a ρ).bind fun p => (evL Φ b p.2).bind fun q => some ((p.1, none) :: q.1, q.2) := by
  cases a <;> first | rfl | exact absurd rfl (h _)
@[simp] theorem bv_nob : evB Φ .nob ρ = some (none, ρ) := rfl
@[simp] theorem bv_it {a : E} : evB Φ (.it a) ρ = (opd a (evE Φ a) ρ).bind fun p => (der p.2 p.1).bind fun d => match d with
      | .int i => some (some i, p.2)
      | _ => none := rfl
@[simp] theorem iv_it {a : E} : evI Φ (.it a) ρ = (evE Φ a ρ).bind fun p => (frzO p.1).bind fun d => (seqD d).bind fun ds => some (ds, p.2) := rfl
theorem iv_1 {a : E} : evI Φ (.rng1 a) ρ = (opd a (evE Φ a) ρ).bind fun p => (der p.2 p.1).bind fun d => match d with
      | .int j => if in62 j = true then some (rngD 0 j, p.2) else none
      | _ => none := rfl
theorem iv_2 {a b : E} : evI Φ (.rng2 a b) ρ = (opd a (evE Φ a) ρ).bind fun p => (opd b (evE Φ b) p.2).bind fun q =>
      (der q.2 p.1).bind fun d => (der q.2 q.1).bind fun e => match d, e with
        | .int i, .int j => if in62 i = true ∧ in62 j = true then some (rngD i j, q.2) else none
        | _, _ => none := rfl
theorem iv_3 {a b c : E} : evI Φ (.rng3 a b c) ρ = (opd a (evE Φ a) ρ).bind fun p => (opd b (evE Φ b) p.2).bind fun q => (opd c (evE Φ c) q.2).bind fun u =>
      (der u.2 p.1).bind fun d => (der u.2 q.1).bind fun e => (der u.2 u.1).bind fun g => match d, e, g with
        | .int i, .int j, .int k => if in62 i = true ∧ in62 j = true ∧ k = -1 then some (rngC i (-1) (i - j).toNat, u.2) else none
        | _, _, _ => none := rfl
@[simp] theorem iv_enum {a : E} : evI Φ (.enum a) ρ = (evE Φ a ρ).bind fun p => (frzO p.1).bind fun d => match d with
      | .list xs => some (enumD xs, p.2)
      | _ => none := rfl
@[simp] theorem iv_zip {a b : E} : evI Φ (.zip a b) ρ = (evE Φ a ρ).bind fun p => (frzO p.1).bind fun d => (evE Φ b p.2).bind fun q => (frzO q.1).bind fun e => match d, e with
      | .list xs, .list ys => some (zipD xs ys, q.2)
      | .tuple xs, .tuple ys => some (zipD xs ys, q.2)
      | _, _ => none := rfl
/-! operands -/
@[simp] theorem op_var {i : Nat} {f : Env → Option (R × Env)} : opd (.var i) f ρ = (getS ρ i).bind fun _ => some (.sl i, ρ) := rfl
theorem op_val {e : E} {f : Env → Option (R × Env)} (h : ∀ i, e ≠ .var i) : opd e f ρ = (f ρ).bind fun p => (frzO p.1).bind fun d => some (.d d, p.2) := opd_ne h
@[simp] theorem op_mv {i : Nat} {f : Env → Option (R × Env)} : opd (.mv i) f ρ = (f ρ).bind fun p => (frzO p.1).bind fun d => some (.d d, p.2) := rfl
@[simp] theorem lv_mv {i : Nat} {bb : E} : evL Φ (.cons (.mv i) bb) ρ = (evE Φ (.mv i) ρ).bind fun p => (evL Φ bb p.2).bind fun q => some ((p.1, none) :: q.1, q.2) := lv_cons fun _ => nofun
@[simp] theorem op_num {z : Int} {f : Env → Option (R × Env)} : opd (.num z) f ρ = (f ρ).bind fun p => (frzO p.1).bind fun d => some (.d d, p.2) := rfl
@[simp] theorem lv_num {z : Int} {bb : E} : evL Φ (.cons (.num z) bb) ρ = (evE Φ (.num z) ρ).bind fun p => (evL Φ bb p.2).bind fun q => some ((p.1, none) :: q.1, q.2) := lv_cons fun _ => nofun
@[simp] theorem op_bl {z : Bool} {f : Env → Option (R × Env)} : opd (.bl z) f ρ = (f ρ).bind fun p => (frzO p.1).bind fun d => some (.d d, p.2) := rfl
@[simp] theorem lv_bl {z : Bool} {bb : E} : evL Φ (.cons (.bl z) bb) ρ = (evE Φ (.bl z) ρ).bind fun p => (evL Φ bb p.2).bind fun q => some ((p.1, none) :: q.1, q.2) := lv_cons fun _ => nofun
@[simp] theorem op_non  {f : Env → Option (R × Env)} : opd (.non) f ρ = (f ρ).bind fun p => (frzO p.1).bind fun d => some (.d d, p.2) := rfl
@[simp] theorem lv_non  {bb : E} : evL Φ (.cons (.non) bb) ρ = (evE Φ (.non) ρ).bind fun p => (evL Φ bb p.2).bind fun q => some ((p.1, none) :: q.1, q.2) := lv_cons fun _ => nofun
@[simp] theorem op_str {z : Str} {f : Env → Option (R × Env)} : opd (.str z) f ρ = (f ρ).bind fun p => (frzO p.1).bind fun d => some (.d d, p.2) := rfl
@[simp] theorem lv_str {z : Str} {bb : E} : evL Φ (.cons (.str z) bb) ρ = (evE Φ (.str z) ρ).bind fun p => (evL Φ bb p.2).bind fun q => some ((p.1, none) :: q.1, q.2) := lv_cons fun _ => nofun
@[simp] theorem op_cst {x : Str} {z : Int} {f : Env → Option (R × Env)} : opd (.cst x z) f ρ = (f ρ).bind fun p => (frzO p.1).bind fun d => some (.d d, p.2) := rfl
@[simp] theorem lv_cst {x : Str} {z : Int} {bb : E} : evL Φ (.cons (.cst x z) bb) ρ = (evE Φ (.cst x z) ρ).bind fun p => (evL Φ bb p.2).bind fun q => some ((p.1, none) :: q.1, q.2) := lv_cons fun _ => nofun
@[simp] theorem op_bin {op : Operator} {a b : E} {f : Env → Option (R × Env)} : opd (.bin op a b) f ρ = (f ρ).bind fun p => (frzO p.1).bind fun d => some (.d d, p.2) := rfl
@[simp] theorem lv_bin {op : Operator} {a b : E} {bb : E} : evL Φ (.cons (.bin op a b) bb) ρ = (evE Φ (.bin op a b) ρ).bind fun p => (evL Φ bb p.2).bind fun q => some ((p.1, none) :: q.1, q.2) := lv_cons fun _ => nofun
@[simp] theorem op_neg {a : E} {f : Env → Option (R × Env)} : opd (.neg a) f ρ = (f ρ).bind fun p => (frzO p.1).bind fun d => some (.d d, p.2) := rfl
@[simp] theorem lv_neg {a : E} {bb : E} : evL Φ (.cons (.neg a) bb) ρ = (evE Φ (.neg a) ρ).bind fun p => (evL Φ bb p.2).bind fun q => some ((p.1, none) :: q.1, q.2) := lv_cons fun _ => nofun
@[simp] theorem op_cmp {op : CmpOp} {a b : E} {f : Env → Option (R × Env)} : opd (.cmp op a b) f ρ = (f ρ).bind fun p => (frzO p.1).bind fun d => some (.d d, p.2) := rfl
@[simp] theorem lv_cmp {op : CmpOp} {a b : E} {bb : E} : evL Φ (.cons (.cmp op a b) bb) ρ = (evE Φ (.cmp op a b) ρ).bind fun p => (evL Φ bb p.2).bind fun q => some ((p.1, none) :: q.1, q.2) := lv_cons fun _ => nofun
@[simp] theorem op_chain {o1 o2 : CmpOp} {a b c : E} {f : Env → Option (R × Env)} : opd (.chain o1 o2 a b c) f ρ = (f ρ).bind fun p => (frzO p.1).bind fun d => some (.d d, p.2) := rfl
@[simp] theorem lv_chain {o1 o2 : CmpOp} {a b c : E} {bb : E} : evL Φ (.cons (.chain o1 o2 a b c) bb) ρ = (evE Φ (.chain o1 o2 a b c) ρ).bind fun p => (evL Φ bb p.2).bind fun q => some ((p.1, none) :: q.1, q.2) := lv_cons fun _ => nofun
@[simp] theorem op_and {a b : E} {f : Env → Option (R × Env)} : opd (.and_ a b) f ρ = (f ρ).bind fun p => (frzO p.1).bind fun d => some (.d d, p.2) := rfl
@[simp] theorem lv_and {a b : E} {bb : E} : evL Φ (.cons (.and_ a b) bb) ρ = (evE Φ (.and_ a b) ρ).bind fun p => (evL Φ bb p.2).bind fun q => some ((p.1, none) :: q.1, q.2) := lv_cons fun _ => nofun
@[simp] theorem op_or {a b : E} {f : Env → Option (R × Env)} : opd (.or_ a b) f ρ = (f ρ).bind fun p => (frzO p.1).bind fun d => some (.d d, p.2) := rfl
@[simp] theorem lv_or {a b : E} {bb : E} : evL Φ (.cons (.or_ a b) bb) ρ = (evE Φ (.or_ a b) ρ).bind fun p => (evL Φ bb p.2).bind fun q => some ((p.1, none) :: q.1, q.2) := lv_cons fun _ => nofun
@[simp] theorem op_not {a : E} {f : Env → Option (R × Env)} : opd (.not_ a) f ρ = (f ρ).bind fun p => (frzO p.1).bind fun d => some (.d d, p.2) := rfl
@[simp] theorem lv_not {a : E} {bb : E} : evL Φ (.cons (.not_ a) bb) ρ = (evE Φ (.not_ a) ρ).bind fun p => (evL Φ bb p.2).bind fun q => some ((p.1, none) :: q.1, q.2) := lv_cons fun _ => nofun
@[simp] theorem op_ife {c a b : E} {f : Env → Option (R × Env)} : opd (.ife c a b) f ρ = (f ρ).bind fun p => (frzO p.1).bind fun d => some (.d d, p.2) := rfl
@[simp] theorem lv_ife {c a b : E} {bb : E} : evL Φ (.cons (.ife c a b) bb) ρ = (evE Φ (.ife c a b) ρ).bind fun p => (evL Φ bb p.2).bind fun q => some ((p.1, none) :: q.1, q.2) := lv_cons fun _ => nofun
@[simp] theorem op_tup {a : E} {f : Env → Option (R × Env)} : opd (.tup a) f ρ = (f ρ).bind fun p => (frzO p.1).bind fun d => some (.d d, p.2) := rfl
@[simp] theorem lv_tup {a : E} {bb : E} : evL Φ (.cons (.tup a) bb) ρ = (evE Φ (.tup a) ρ).bind fun p => (evL Φ bb p.2).bind fun q => some ((p.1, none) :: q.1, q.2) := lv_cons fun _ => nofun
@[simp] theorem op_lst {a : E} {f : Env → Option (R × Env)} : opd (.lst a) f ρ = (f ρ).bind fun p => (frzO p.1).bind fun d => some (.d d, p.2) := rfl
@[simp] theorem lv_lst {a : E} {bb : E} : evL Φ (.cons (.lst a) bb) ρ = (evE Φ (.lst a) ρ).bind fun p => (evL Φ bb p.2).bind fun q => some ((p.1, none) :: q.1, q.2) := lv_cons fun _ => nofun
@[simp] theorem op_idx {a b : E} {f : Env → Option (R × Env)} : opd (.idx a b) f ρ = (f ρ).bind fun p => (frzO p.1).bind fun d => some (.d d, p.2) := rfl
@[simp] theorem lv_idx {a b : E} {bb : E} : evL Φ (.cons (.idx a b) bb) ρ = (evE Φ (.idx a b) ρ).bind fun p => (evL Φ bb p.2).bind fun q => some ((p.1, none) :: q.1, q.2) := lv_cons fun _ => nofun
@[simp] theorem op_slc {a lo hi : E} {f : Env → Option (R × Env)} : opd (.slc a lo hi) f ρ = (f ρ).bind fun p => (frzO p.1).bind fun d => some (.d d, p.2) := rfl
@[simp] theorem lv_slc {a lo hi : E} {bb : E} : evL Φ (.cons (.slc a lo hi) bb) ρ = (evE Φ (.slc a lo hi) ρ).bind fun p => (evL Φ bb p.2).bind fun q => some ((p.1, none) :: q.1, q.2) := lv_cons fun _ => nofun
@[simp] theorem op_rev {a : E} {f : Env → Option (R × Env)} : opd (.rev a) f ρ = (f ρ).bind fun p => (frzO p.1).bind fun d => some (.d d, p.2) := rfl
@[simp] theorem lv_rev {a : E} {bb : E} : evL Φ (.cons (.rev a) bb) ρ = (evE Φ (.rev a) ρ).bind fun p => (evL Φ bb p.2).bind fun q => some ((p.1, none) :: q.1, q.2) := lv_cons fun _ => nofun
@[simp] theorem op_call {x : Str} {es : E} {f : Env → Option (R × Env)} : opd (.call x es) f ρ = (f ρ).bind fun p => (frzO p.1).bind fun d => some (.d d, p.2) := rfl
@[simp] theorem lv_call {x : Str} {es : E} {bb : E} : evL Φ (.cons (.call x es) bb) ρ = (evE Φ (.call x es) ρ).bind fun p => (evL Φ bb p.2).bind fun q => some ((p.1, none) :: q.1, q.2) := lv_cons fun _ => nofun
@[simp] theorem op_bi {b : Bi} {es : E} {f : Env → Option (R × Env)} : opd (.bi b es) f ρ = (f ρ).bind fun p => (frzO p.1).bind fun d => some (.d d, p.2) := rfl
@[simp] theorem lv_bi {b : Bi} {es : E} {bb : E} : evL Φ (.cons (.bi b es) bb) ρ = (evE Φ (.bi b es) ρ).bind fun p => (evL Φ bb p.2).bind fun q => some ((p.1, none) :: q.1, q.2) := lv_cons fun _ => nofun
@[simp] theorem op_isi {a : E} {ts : List Ty} {f : Env → Option (R × Env)} : opd (.isi a ts) f ρ = (f ρ).bind fun p => (frzO p.1).bind fun d => some (.d d, p.2) := rfl
@[simp] theorem lv_isi {a : E} {ts : List Ty} {bb : E} : evL Φ (.cons (.isi a ts) bb) ρ = (evE Φ (.isi a ts) ρ).bind fun p => (evL Φ bb p.2).bind fun q => some ((p.1, none) :: q.1, q.2) := lv_cons fun _ => nofun
@[simp] theorem op_mt {m : Mt} {o es : E} {f : Env → Option (R × Env)} : opd (.mt m o es) f ρ = (f ρ).bind fun p => (frzO p.1).bind fun d => some (.d d, p.2) := rfl
@[simp] theorem lv_mt {m : Mt} {o es : E} {bb : E} : evL Φ (.cons (.mt m o es) bb) ρ = (evE Φ (.mt m o es) ρ).bind fun p => (evL Φ bb p.2).bind fun q => some ((p.1, none) :: q.1, q.2) := lv_cons fun _ => nofun
@[simp] theorem op_pop {i : Nat} {f : Env → Option (R × Env)} : opd (.pop i) f ρ = (f ρ).bind fun p => (frzO p.1).bind fun d => some (.d d, p.2) := rfl
@[simp] theorem lv_pop {i : Nat} {bb : E} : evL Φ (.cons (.pop i) bb) ρ = (evE Φ (.pop i) ρ).bind fun p => (evL Φ bb p.2).bind fun q => some ((p.1, none) :: q.1, q.2) := lv_cons fun _ => nofun
@[simp] theorem op_lrg {t : Bool} {it : E} {f : Env → Option (R × Env)} : opd (.lrg t it) f ρ = (f ρ).bind fun p => (frzO p.1).bind fun d => some (.d d, p.2) := rfl
@[simp] theorem lv_lrg {t : Bool} {it : E} {bb : E} : evL Φ (.cons (.lrg t it) bb) ρ = (evE Φ (.lrg t it) ρ).bind fun p => (evL Φ bb p.2).bind fun q => some ((p.1, none) :: q.1, q.2) := lv_cons fun _ => nofun
@[simp] theorem op_comp {elt : E} {tg : Tg} {it ifs : E} {vs : List Nat} {f : Env → Option (R × Env)} : opd (.comp elt tg it ifs vs) f ρ = (f ρ).bind fun p => (frzO p.1).bind fun d => some (.d d, p.2) := rfl
@[simp] theorem lv_comp {elt : E} {tg : Tg} {it ifs : E} {vs : List Nat} {bb : E} : evL Φ (.cons (.comp elt tg it ifs vs) bb) ρ = (evE Φ (.comp elt tg it ifs vs) ρ).bind fun p => (evL Φ bb p.2).bind fun q => some ((p.1, none) :: q.1, q.2) := lv_cons fun _ => nofun
/-! statements -/
@[simp] theorem x0_skip : ex Φ .skip ρ = some (.next, ρ) := rfl
@[simp] theorem x0_seq {s t : S} : ex Φ (.seq s t) ρ = (ex Φ s ρ).bind fun p => match p.1 with
      | .next => ex Φ t p.2
      | f => some (f, p.2) := rfl
theorem seq_next {s t : S} {ρ1 : Env} (h : ex Φ s ρ = some (.next, ρ1)) : ex Φ (.seq s t) ρ = ex Φ t ρ1 := by
  show (ex Φ s ρ).bind _ = _
  rw [h]
  rfl
theorem seq_ret {s t : S} {ρ1 : Env} {r : R} (h : ex Φ s ρ = some (.ret r, ρ1)) : ex Φ (.seq s t) ρ = some (.ret r, ρ1) := by
  show (ex Φ s ρ).bind _ = _
  rw [h]
  rfl
@[simp] theorem x0_asg {i : Nat} {e : E} : ex Φ (.asg i e) ρ = (evE Φ e ρ).bind fun p => some (.next, setS p.2 i (some p.1)) := rfl
@[simp] theorem x0_asgF {i : Nat} {e : E} : ex Φ (.asgF i e) ρ = (evE Φ e ρ).bind fun p => (frzO p.1).bind fun d => some (.next, setS p.2 i (some (.v d))) := rfl
@[simp] theorem x0_asgT {tg : Tg} {e : E} : ex Φ (.asgT tg e) ρ = (evE Φ e ρ).bind fun p => (frzO p.1).bind fun d => (bindT tg d p.2).bind fun ρ2 => some (.next, ρ2) := rfl
@[simp] theorem x0_par {i j : Nat} {a b : E} : ex Φ (.par i j a b) ρ = (evE Φ a ρ).bind fun p => (evE Φ b p.2).bind fun q => if i < q.2.length ∧ j < q.2.length then some (.next, setS (setS q.2 i (some p.1)) j (some q.1)) else none := rfl
@[simp] theorem x0_setx {i : Nat} {ix e : E} : ex Φ (.setx i ix e) ρ = (evE Φ e ρ).bind fun p => (frzO p.1).bind fun d => (getS p.2 i).bind fun _ => (opd ix (evE Φ ix) p.2).bind fun y =>
      (der y.2 y.1).bind fun k => (getS y.2 i).bind fun r => match r, k with
        | .l xs, .int k => (ixN xs.length k).bind fun j => some (.next, setS y.2 i (some (.l (xs.set j d))))
        | _, _ => none := rfl
@[simp] theorem x0_app {i : Nat} {e : E} : ex Φ (.app i e) ρ = (getS ρ i).bind fun r0 => if r0.own = true then (evE Φ e ρ).bind fun p => (frzO p.1).bind fun d => (getS p.2 i).bind fun r => match r with
      | .l xs => if okN (xs.length + 1) = true then some (.next, setS p.2 i (some (.l (xs ++ [d])))) else none
      | _ => none
    else none := rfl
@[simp] theorem x0_ret {e : E} : ex Φ (.ret e) ρ = (evE Φ e ρ).bind fun p => some (.ret p.1, p.2) := rfl
@[simp] theorem x0_retN : ex Φ .retN ρ = some (.ret (.v .none), ρ) := rfl
@[simp] theorem x0_if {c : E} {s t : S} : ex Φ (.if_ c s t) ρ = (evT Φ c ρ).bind fun p => match p.1 with
      | true => ex Φ s p.2
      | false => ex Φ t p.2 := rfl
@[simp] theorem x0_for {tg : Tg} {it : E} {b : S} : ex Φ (.for_ tg it b) ρ = (evI Φ it ρ).bind fun p => forL (fun d ρ => (bindT tg d ρ).bind fun ρ2 => ex Φ b ρ2) p.1 p.2 := rfl
@[simp] theorem x0_while {c : E} {b : S} : ex Φ (.while_ c b) ρ = whileN (evT Φ c) (ex Φ b) WF ρ := rfl
@[simp] theorem x0_brk : ex Φ .brk ρ = some (.brk, ρ) := rfl
@[simp] theorem x0_cont : ex Φ .cont ρ = some (.cont, ρ) := rfl
@[simp] theorem x0_pass : ex Φ .pass ρ = some (.next, ρ) := rfl
@[simp] theorem x0_drop {e : E} : ex Φ (.drop e) ρ = (evE Φ e ρ).bind fun p => some (.next, p.2) := rfl
@[simp] theorem bt_nm {i : Nat} {d : D} : bindT (.nm i) d ρ = some (setS ρ i (some (.v d))) := rfl
@[simp] theorem bt_tp {a : Tg} {ds : List D} : bindT (.tp a) (.tuple ds) ρ = bindTs a ds ρ := rfl
@[simp] theorem bt_tpl {a : Tg} {ds : List D} : bindT (.tp a) (.list ds) ρ = bindTs a ds ρ := rfl
@[simp] theorem bts_nil : bindTs .nil [] ρ = some ρ := rfl
@[simp] theorem bts_cons {a b : Tg} {d : D} {ds : List D} : bindTs (.cons a b) (d :: ds) ρ = (bindT a d ρ).bind fun ρ1 => bindTs b ds ρ1 := rfl
/-! slots -/
@[simp] theorem gs_0 {r : Option R} : getS (r :: ρ) 0 = r := rfl
@[simp] theorem gs_s {r : Option R} {i : Nat} : getS (r :: ρ) (i + 1) = getS ρ i := rfl
@[simp] theorem ss_0 {r q : Option R} : setS (r :: ρ) 0 q = q :: ρ := rfl
@[simp] theorem ss_s {r q : Option R} {i : Nat} : setS (r :: ρ) (i + 1) q = r :: setS ρ i q := rfl
end
@[simp] theorem fz_v {d : D} : frzO (.v d) = some d := rfl
@[simp] theorem fz_l {d : List D} : frzO (.l d) = some (.list d) := rfl
@[simp] theorem dr_v {d : D} : derR (.v d) = some d := rfl
@[simp] theorem dr_l {d : List D} : derR (.l d) = some (.list d) := rfl
@[simp] theorem da_v {d : D} : derA (.v d) = some d := rfl
@[simp] theorem da_l {d : List D} : derA (.l d) = some (.list d) := rfl
@[simp] theorem da_s {ns : List Int} : derA (.s ns) = some (.list (ns.map PyData.int)) := rfl
@[simp] theorem de_s {ρ : Env} {i : Nat} : der ρ (.sl i) = (getS ρ i).bind derR := rfl
@[simp] theorem de_d {ρ : Env} {d : D} : der ρ (.d d) = some d := rfl
@[simp] theorem ds_s {ρ : Env} {i : Nat} : derS ρ (.sl i) = (getS ρ i).bind derA := rfl
@[simp] theorem ds_d {ρ : Env} {d : D} : derS ρ (.d d) = some d := rfl
@[simp] theorem dl_n {ρ : Env} : derAll ρ [] = some [] := rfl
@[simp] theorem dl_c {ρ : Env} {o : Op} {os : List Op} : derAll ρ (o :: os) = (der ρ o).bind fun d => (derAll ρ os).bind fun ds => some (d :: ds) := rfl
@[simp] theorem ow_v {d : D} : (R.v d).own = false := rfl
@[simp] theorem ow_l {d : List D} : (R.l d).own = true := rfl
@[simp] theorem ow_s {d : List Int} : (R.s d).own = false := rfl
@[simp] theorem wb_n {ρ : Env} : wb ρ [] [] = ρ := rfl
@[simp] theorem wb_s {ρ : Env} {x r : R} {i : Nat} {as : List (R × Option Nat)} {rs : List R} : wb ρ ((x, some i) :: as) (r :: rs) = wb (setS ρ i (some r)) as rs := rfl
@[simp] theorem wb_c {ρ : Env} {x r : R} {as : List (R × Option Nat)} {rs : List R} : wb ρ ((x, none) :: as) (r :: rs) = wb ρ as rs := rfl
@[simp] theorem fr_r {r : R} : flR (.ret r) = some r := rfl
@[simp] theorem fr_n : flR .next = some (.v .none) := rfl
@[simp] theorem wp_n {ρ : Env} : wipeE ρ [] = ρ := rfl
@[simp] theorem wp_c {ρ : Env} {v : Nat} {vs : List Nat} : wipeE ρ (v :: vs) = setS (wipeE ρ vs) v none := rfl
@[simp] theorem bk_n {ρ ρ' : Env} : back ρ ρ' [] = ρ' := rfl
@[simp] theorem bk_c {ρ ρ' : Env} {v : Nat} {vs : List Nat} : back ρ ρ' (v :: vs) = setS (back ρ ρ' vs) v (getS ρ v) := rfl
@[simp] theorem en_n {f : Fn} {j : Nat} : entryL f j [] = [] := rfl
@[simp] theorem en_c {f : Fn} {j : Nat} {r : R} {rs : List R} : entryL f j (r :: rs) = some (if f.io j = true then r else frzR r) :: entryL f (j + 1) rs := rfl
@[simp] theorem ot_n {f : Fn} {ρ : Env} {j : Nat} : outsL f ρ j [] = some [] := rfl
@[simp] theorem ot_c {f : Fn} {ρ : Env} {j : Nat} {r : R} {rs : List R} : outsL f ρ j (r :: rs) = (if f.io j = true then getS ρ j else some (frzR r)).bind fun q => (outsL f ρ (j + 1) rs).bind fun qs => some (q :: qs) := rfl
@[simp] theorem fzr_v {d : D} : frzR (.v d) = .v d := rfl
@[simp] theorem fzr_l {d : List D} : frzR (.l d) = .v (.list d) := rfl
@[simp] theorem fzr_s {d : List Int} : frzR (.s d) = .s d := rfl
@[simp] theorem bd_add {a b : Int} : binD .Add (.int a) (.int b) = some (.v (.int (a + b))) := rfl
@[simp] theorem bd_sub {a b : Int} : binD .Sub (.int a) (.int b) = some (.v (.int (a - b))) := rfl
@[simp] theorem bd_mul {a b : Int} : binD .Mult (.int a) (.int b) = if (-18446744073709551616 < a ∧ a < 18446744073709551616) ∨ (-18446744073709551616 < b ∧ b < 18446744073709551616) then some (.v (.int (a * b))) else none := rfl
@[simp] theorem bd_fdv {a b : Int} : binD .FloorDiv (.int a) (.int b) = if 0 < b ∧ b < 1073741824 then some (.v (.int (a / b))) else none := rfl
@[simp] theorem bd_mod {a b : Int} : binD .Mod (.int a) (.int b) = if 0 < b then some (.v (.int (a % b))) else none := rfl
@[simp] theorem bd_pow {a b : Int} : binD .Pow (.int a) (.int b) = if 0 ≤ b ∧ b ≤ 1000000 ∧ a.natAbs < 18446744073709551616 then some (.v (.int (a ^ b.toNat))) else none := rfl
@[simp] theorem bd_shl {a b : Int} : binD .LShift (.int a) (.int b) = if 0 ≤ b ∧ b ≤ 1000000 ∧ a.natAbs < 18446744073709551616 then some (.v (.int (a * 2 ^ b.toNat))) else none := rfl
@[simp] theorem bd_shr {a b : Int} : binD .RShift (.int a) (.int b) = if 0 ≤ b then some (.v (.int (a / 2 ^ b.toNat))) else none := rfl
@[simp] theorem bd_cat {a b : List D} : binD .Add (.list a) (.list b) = if okN (a.length + b.length) = true then some (.l (a ++ b)) else none := rfl
@[simp] theorem bd_catT {a b : List D} : binD .Add (.tuple a) (.tuple b) = if okN (a.length + b.length) = true then some (.v (.tuple (a ++ b))) else none := rfl
@[simp] theorem bd_rep {a : List D} {k : Int} : binD .Mult (.list a) (.int k) = if in62 k = true ∧ okN (a.length * k.toNat) = true then some (.l (List.replicate k.toNat a).flatten) else none := rfl
@[simp] theorem cd_lt {a b : Int} : cmpD .Lt (.int a) (.int b) = some (decide (a < b)) := rfl
@[simp] theorem cd_le {a b : Int} : cmpD .LtE (.int a) (.int b) = some (decide (a ≤ b)) := rfl
@[simp] theorem cd_gt {a b : Int} : cmpD .Gt (.int a) (.int b) = some (decide (b < a)) := rfl
@[simp] theorem cd_ge {a b : Int} : cmpD .GtE (.int a) (.int b) = some (decide (b ≤ a)) := rfl
@[simp] theorem cd_eq {a b : D} : cmpD .Eq a b = eqD a b := rfl
@[simp] theorem cd_ne {a b : D} : cmpD .NotEq a b = (eqD a b).map (!·) := rfl
@[simp] theorem cd_is {a : D} : cmpD .Is a .none = some (isNonD a) := rfl
@[simp] theorem cd_isn {a : D} : cmpD .IsNot a .none = some (!isNonD a) := rfl
@[simp] theorem cd_in {a b : D} : cmpD .In a b = inD a b := rfl
@[simp] theorem cd_nin {a b : D} : cmpD .NotIn a b = (inD a b).map (!·) := rfl
@[simp] theorem qd_int {a b : Int} : eqD (.int a) (.int b) = some (decide (a = b)) := rfl
@[simp] theorem qd_bool {a b : Bool} : eqD (.bool a) (.bool b) = some (decide (a = b)) := rfl
@[simp] theorem qd_str {a b : Str} : eqD (.str a) (.str b) = some (decide (a = b)) := rfl
@[simp] theorem xd_l {a : List D} {i : Int} : idxD (.list a) (.int i) = atI a i := rfl
@[simp] theorem xd_t {a : List D} {i : Int} : idxD (.tuple a) (.int i) = atI a i := rfl
@[simp] theorem nd_i {a : Int} : negD (.int a) = some (.int (-a)) := rfl
@[simp] theorem td_b {b : Bool} : truD (.bool b) = some b := rfl
@[simp] theorem td_i {i : Int} : truD (.int i) = some (decide (i ≠ 0)) := rfl
@[simp] theorem td_n : truD .none = some false := rfl
@[simp] theorem td_l {xs : List D} : truD (.list xs) = some (!xs.isEmpty) := rfl
@[simp] theorem td_t {xs : List D} : truD (.tuple xs) = some (!xs.isEmpty) := rfl
@[simp] theorem tr_r {r : R} : truR r = (derA r).bind truD := rfl
@[simp] theorem sd_l {xs : List D} {lo hi : Option Int} : slcD (.list xs) lo hi = some (.l (cutA xs lo hi)) := rfl
@[simp] theorem sd_t {xs : List D} {lo hi : Option Int} : slcD (.tuple xs) lo hi = some (.v (.tuple (cutA xs lo hi))) := rfl
@[simp] theorem rd_l {xs : List D} : revD (.list xs) = some (.l xs.reverse) := rfl
@[simp] theorem rd_t {xs : List D} : revD (.tuple xs) = some (.v (.tuple xs.reverse)) := rfl
@[simp] theorem bi_len {xs : List D} : biD .len [.list xs] = some (.v (.int xs.length)) := rfl
@[simp] theorem bi_lenT {xs : List D} : biD .len [.tuple xs] = some (.v (.int xs.length)) := rfl
@[simp] theorem bi_tup {xs : List D} : biD .tuple [.list xs] = some (.v (.tuple xs)) := rfl
@[simp] theorem bi_tupT {xs : List D} : biD .tuple [.tuple xs] = some (.v (.tuple xs)) := rfl
@[simp] theorem bi_lst {xs : List D} : biD .list [.list xs] = some (.l xs) := rfl
@[simp] theorem bi_lstT {xs : List D} : biD .list [.tuple xs] = some (.l xs) := rfl
@[simp] theorem bi_all {xs : List D} : biD .all [.list xs] = (boolsOf xs).bind fun bs => some (.v (.bool (bs.all id))) := rfl
@[simp] theorem bi_any {xs : List D} : biD .any [.list xs] = (boolsOf xs).bind fun bs => some (.v (.bool (bs.any id))) := rfl
@[simp] theorem bi_int {i : Int} : biD .int [.int i] = some (.v (.int i)) := rfl
@[simp] theorem bi_intB {b : Bool} : biD .int [.bool b] = some (.v (.int (if b then 1 else 0))) := rfl
@[simp] theorem bi_abs {i : Int} : biD .abs [.int i] = some (.v (.int (if i < 0 then -i else i))) := rfl
@[simp] theorem bi_min2 {i j : Int} : biD .min2 [.int i, .int j] = some (.v (.int (if j < i then j else i))) := rfl
@[simp] theorem bi_max2 {i j : Int} : biD .max2 [.int i, .int j] = some (.v (.int (if j > i then j else i))) := rfl
@[simp] theorem bi_sum {xs : List D} : biD .sum [.list xs] = (intsOf xs).bind fun ns => some (.v (.int ns.sum)) := rfl
@[simp] theorem bi_max {xs : List D} : biD .max [.list xs] = (intsOf xs).bind fun ns => (maxL ns).bind fun m => some (.v (.int m)) := rfl
@[simp] theorem bi_min {xs : List D} : biD .min [.list xs] = (intsOf xs).bind fun ns => (minL ns).bind fun m => some (.v (.int m)) := rfl
@[simp] theorem bi_srt {xs : List D} : biD .sorted [.list xs] = (intsOf xs).bind fun ns => some (.l ((srtI ns).map PyData.int)) := rfl
theorem okN_t {n : Nat} (h : n ≤ 16777216) : okN n = true := decide_eq_true h
theorem in62_of {i : Int} (h1 : -4611686018427387904 ≤ i) (h2 : i < 4611686018427387904) : in62 i = true := in62_b.mpr ⟨h1, h2⟩
/-- a loop that keeps to a form -/
theorem forL_keep {α : Type} {f : D → Env → Option (Fl × Env)} (Ev : α → Env) (step : α → D → α) : ∀ (ds : List D) (a : α), (∀ d ∈ ds, ∀ a, f d (Ev a) = some (.next, Ev (step a d))) → forL f ds (Ev a) = some (.next, Ev (ds.foldl step a))
  | [], a, _ => rfl
  | d :: ds, a, h => by
    show (f d (Ev a)).bind _ = _
    rw [h d (List.mem_cons_self ..) a]
    exact forL_keep Ev step ds (step a d) fun d' hd' => h d' (List.mem_cons_of_mem _ hd')
/-- .. by turns, under a word about the turn -/
theorem forL_turns {f : D → Env → Option (Fl × Env)} (Pt : Nat → Env → Prop) : ∀ (ds : List D) (i : Nat) (ρ : Env), Pt i ρ → (∀ j d ρ, ds[j]? = some d → Pt (i + j) ρ → ∃ ρ', (f d ρ = some (.next, ρ') ∨ f d ρ = some (.cont, ρ')) ∧ Pt (i + j + 1) ρ') → ∃ ρ', forL f ds ρ = some (.next, ρ') ∧ Pt (i + ds.length) ρ'
  | [], i, ρ, p, _ => ⟨ρ, rfl, p⟩
  | d :: ds, i, ρ, p, h => by
    obtain ⟨ρ1, e, p1⟩ := h 0 d ρ rfl p
    obtain ⟨ρ2, e2, p2⟩ := forL_turns Pt ds (i + 1) ρ1 p1 fun j d' ρ' hj pj => by
      have := h (j + 1) d' ρ' (by simpa using hj) (by rw [show i + (j + 1) = i + 1 + j by omega]; exact pj)
      rw [show i + (j + 1) + 1 = i + 1 + j + 1 by omega] at this
      exact this
    refine ⟨ρ2, ?_, by rw [List.length_cons, show i + (ds.length + 1) = i + 1 + ds.length by omega]; exact p2⟩
    show (f d ρ).bind _ = _
    rcases e with e | e <;> (rw [e]; exact e2)
/-- a comprehension whose turns leave the slots as they stood -/
theorem compL_map {g : D → Env → Option (Option D × Env)} {vs : List Nat} {h : D → Option D} {ρ : Env} : ∀ (ds : List D), (∀ d ∈ ds, ∃ ρ', g d ρ = some (h d, ρ') ∧ wipeE ρ' vs = ρ) → compL g vs ds ρ = some (ds.filterMap h, ρ)
  | [], _ => rfl
  | d :: ds, hh => by
    obtain ⟨ρ', e, e2⟩ := hh d (List.mem_cons_self ..)
    show (g d ρ).bind _ = _
    rw [e]
    show (compL g vs ds (wipeE ρ' vs)).bind _ = _
    rw [e2, compL_map ds fun d' hd' => hh d' (List.mem_cons_of_mem _ hd'), List.filterMap_cons]
    cases h d <;> rfl
/-- .. without tests -/
theorem compL_all {g : D → Env → Option (Option D × Env)} {vs : List Nat} {h : D → D} {ρ : Env} (ds : List D) (hh : ∀ d ∈ ds, ∃ ρ', g d ρ = some (some (h d), ρ') ∧ wipeE ρ' vs = ρ) : compL g vs ds ρ = some (ds.map h, ρ) := by
  rw [compL_map (h := fun d => some (h d)) ds hh, List.filterMap_eq_map']
/-- .. whose turns change the slots -/
theorem compL_turns {g : D → Env → Option (Option D × Env)} {vs : List Nat} (Pt : Nat → List D → Env → Prop) : ∀ (ds : List D) (i : Nat) (acc : List D) (ρ : Env), Pt i acc ρ →
    (∀ j d acc ρ, ds[j]? = some d → Pt (i + j) acc ρ → ∃ x ρ', g d ρ = some (some x, ρ') ∧ Pt (i + j + 1) (acc ++ [x]) (wipeE ρ' vs)) → ∃ xs ρ', compL g vs ds ρ = some (xs, ρ') ∧ Pt (i + ds.length) (acc ++ xs) ρ'
  | [], i, acc, ρ, p, _ => ⟨[], ρ, rfl, by rw [List.append_nil]; exact p⟩
  | d :: ds, i, acc, ρ, p, h => by
    obtain ⟨x, ρ1, e, p1⟩ := h 0 d acc ρ rfl p
    obtain ⟨xs, ρ2, e2, p2⟩ := compL_turns Pt ds (i + 1) (acc ++ [x]) (wipeE ρ1 vs) p1 fun j d' acc' ρ' hj pj => by
      have := h (j + 1) d' acc' ρ' (by simpa using hj) (by rw [show i + (j + 1) = i + 1 + j by omega]; exact pj)
      rw [show i + (j + 1) + 1 = i + 1 + j + 1 by omega] at this
      exact this
    refine ⟨x :: xs, ρ2, ?_, by rw [List.length_cons, show i + (ds.length + 1) = i + 1 + ds.length by omega, show acc ++ x :: xs = acc ++ [x] ++ xs by simp]; exact p2⟩
    show (g d ρ).bind _ = _
    rw [e]
    show (compL g vs ds (wipeE ρ1 vs)).bind _ = _
    rw [e2]
    rfl
theorem cut_take {α : Type} {xs : List α} {j : Int} (h : 0 ≤ j) : cutA xs none (some j) = xs.take j.toNat := by
  unfold cutA HT.sIx
  dsimp only
  rw [if_neg (by omega), List.drop_zero, Nat.sub_zero, List.take_eq_take_iff]
  omega
theorem cut_drop {α : Type} {xs : List α} {i : Int} (h : 0 ≤ i) : cutA xs (some i) none = xs.drop i.toNat := by
  unfold cutA HT.sIx
  dsimp only
  rw [if_neg (by omega)]
  by_cases hl : i.toNat ≤ xs.length
  · rw [Nat.min_eq_left hl, List.take_of_length_le (by rw [List.length_drop]; omega)]
  · rw [Nat.min_eq_right (by omega), List.drop_of_length_le (Nat.le_refl _), List.drop_of_length_le (by omega), List.take_nil]
theorem cut_both {α : Type} {xs : List α} {i j : Int} (h : 0 ≤ i) (h2 : 0 ≤ j) : cutA xs (some i) (some j) = (xs.take j.toNat).drop i.toNat := by
  unfold cutA HT.sIx
  dsimp only
  rw [if_neg (by omega), if_neg (by omega)]
  apply List.ext_getElem?
  intro m
  rw [List.getElem?_take, List.getElem?_drop, List.getElem?_drop, List.getElem?_take]
  by_cases hl : i.toNat ≤ xs.length
  · rw [Nat.min_eq_left hl]
    by_cases hm : i.toNat + m < j.toNat
    · rw [if_pos hm]
      by_cases hx : i.toNat + m < xs.length
      · rw [if_pos (by omega)]
      · rw [List.getElem?_eq_none (by omega)]
        split <;> rfl
    · rw [if_neg hm, if_neg (by omega)]
  · rw [List.getElem?_eq_none (i := i.toNat + m) (by omega), List.getElem?_eq_none (by omega)]
    split <;> split <;> rfl
theorem cut_last {α : Type} {xs : List α} : cutA xs none (some (-1)) = xs.dropLast := by
  unfold cutA HT.sIx
  dsimp only
  rw [if_pos (by omega), List.drop_zero, Nat.sub_zero, List.dropLast_eq_take]
  congr 1
  omega
theorem at_nat {α : Type} {xs : List α} {i : Int} {n : Nat} (h : i = n) : atI xs i = xs[n]? := by
  subst h
  unfold atI ixN
  rw [if_pos (by omega)]
  by_cases hl : (n : Int) < xs.length
  · rw [if_pos hl]
    rfl
  · rw [if_neg hl, List.getElem?_eq_none (by omega)]
    rfl
theorem at_last {α : Type} {xs : List α} : atI xs (-1) = xs.getLast? := by
  unfold atI ixN
  rw [if_neg (by omega)]
  by_cases hl : -(xs.length : Int) ≤ -1
  · rw [if_pos hl, List.getLast?_eq_getElem?]
    show xs[_]? = _
    congr 1
    omega
  · rw [if_neg hl]
    have : xs = [] := List.eq_nil_of_length_eq_zero (by omega)
    subst this
    rfl
theorem ix_nat {n j : Nat} {i : Int} (h : i = j) (hl : j < n) : ixN n i = some j := by
  subst h
  unfold ixN
  rw [if_pos (by omega), if_pos (by omega)]
  rfl
theorem runF_of {Φ : Phi} {f : Fn} {rs : List R} {ρ0 ρ1 : Env} {fl : Fl} {r : R} {outs : List R} (h1 : rs.length = f.np) (h2 : entryL f 0 rs ++ List.replicate (f.ns - f.np) none = ρ0) (h3 : ex Φ f.body ρ0 = some (fl, ρ1)) (h4 : flR fl = some r)
    (h5 : outsL f ρ1 0 rs = some outs) : runF Φ f rs = some (r, outs) := by
  unfold runF
  rw [if_pos h1, h2, h3]
  show (flR fl).bind _ = _
  rw [h4]
  show (outsL f ρ1 0 rs).bind _ = _
  rw [h5]
  rfl
theorem seq_n {Φ : Phi} {s t : S} {ρ ρ1 : Env} {x : Option (Fl × Env)} (h : ex Φ s ρ = some (.next, ρ1)) (h2 : ex Φ t ρ1 = x) : ex Φ (.seq s t) ρ = x := (seq_next h).trans h2
theorem asg_n {Φ : Phi} {i : Nat} {e : E} {ρ ρ1 : Env} {r : R} (h : evE Φ e ρ = some (r, ρ1)) : ex Φ (.asg i e) ρ = some (.next, setS ρ1 i (some r)) := by
  rw [x0_asg, h]
  rfl
theorem asgF_n {Φ : Phi} {i : Nat} {e : E} {ρ ρ1 : Env} {r : R} {d : D} (h : evE Φ e ρ = some (r, ρ1)) (h2 : frzO r = some d) : ex Φ (.asgF i e) ρ = some (.next, setS ρ1 i (some (.v d))) := by
  rw [x0_asgF, h]
  show (frzO r).bind _ = _
  rw [h2]
  rfl
theorem ret_n {Φ : Phi} {e : E} {t : S} {ρ ρ1 : Env} {r : R} (h : evE Φ e ρ = some (r, ρ1)) : ex Φ (.seq (.ret e) t) ρ = some (.ret r, ρ1) := by
  apply seq_ret
  rw [x0_ret, h]
  rfl
theorem for_n {Φ : Phi} {tg : Tg} {it : E} {b : S} {ρ ρ1 : Env} {ds : List D} {x : Option (Fl × Env)} (h : evI Φ it ρ = some (ds, ρ1)) (h2 : forL (fun d ρ => (bindT tg d ρ).bind fun ρ2 => ex Φ b ρ2) ds ρ1 = x) : ex Φ (.for_ tg it b) ρ = x := by
  rw [x0_for, h]
  exact h2
theorem comp_n {Φ : Phi} {elt : E} {tg : Tg} {it ifs : E} {vs : List Nat} {ρ ρ1 ρ2 : Env} {ds xs : List D} (h : evI Φ it ρ = some (ds, ρ1)) (hl : ds.length ≤ 16777216) (h2 : compL (turnE Φ elt tg ifs) vs ds (wipeE ρ1 vs) = some (xs, ρ2)) : evE Φ (.comp elt tg it ifs vs) ρ = some (.l xs, back ρ1 ρ2 vs) := by
  rw [ev_comp, h]
  show (if okN ds.length = true then _ else _) = _
  rw [if_pos (okN_t hl)]
  show (compL (turnE Φ elt tg ifs) vs ds (wipeE ρ1 vs)).bind _ = _
  rw [h2]
  rfl
theorem call_n {Φ : Phi} {f : Str} {es : E} {ρ ρ1 : Env} {as : List (R × Option Nat)} {r : R} {outs : List R} (h : evL Φ es ρ = some (as, ρ1)) (h2 : Φ f (as.map (·.1)) = some (r, outs)) (h3 : outs.length = as.length) : evE Φ (.call f es) ρ = some (r, wb ρ1 as outs) := by
  rw [ev_call, h]
  show (Φ f (as.map (·.1))).bind _ = _
  rw [h2]
  show (if outs.length = as.length then _ else _) = _
  rw [if_pos h3]
theorem all_n {Φ : Phi} {c : E} {ρ ρ1 : Env} {xs : List D} {bs : List Bool} (hv : ∀ i, c ≠ .var i) (h : evE Φ c ρ = some (.l xs, ρ1)) (hb : boolsOf xs = some bs) : evE Φ (.bi .all (.cons c .nil)) ρ = some (.v (.bool (bs.all id)), ρ1) := by
  rw [ev_ball, ov_cons, op_val hv, h]
  simp [hb]
theorem tup_n {Φ : Phi} {c : E} {ρ ρ1 : Env} {xs : List D} (hv : ∀ i, c ≠ .var i) (h : evE Φ c ρ = some (.l xs, ρ1)) : evE Φ (.bi .tuple (.cons c .nil)) ρ = some (.v (.tuple xs), ρ1) := by
  rw [ev_btuple, ov_cons, op_val hv, h]
  simp
theorem rng1_n {Φ : Phi} {a : E} {ρ ρ1 : Env} {j : Int} {o : Op} (h : opd a (evE Φ a) ρ = some (o, ρ1)) (h2 : der ρ1 o = some (.int j)) (h3 : -4611686018427387904 ≤ j) (h4 : j < 4611686018427387904) : evI Φ (.rng1 a) ρ = some (rngD 0 j, ρ1) := by
  rw [iv_1, h]
  show (der ρ1 o).bind _ = _
  rw [h2]
  show (if in62 j = true then _ else _) = _
  rw [if_pos (in62_of h3 h4)]
theorem rng2_n {Φ : Phi} {a b : E} {ρ ρ1 ρ2 : Env} {i j : Int} {o p : Op} (h : opd a (evE Φ a) ρ = some (o, ρ1)) (hb : opd b (evE Φ b) ρ1 = some (p, ρ2)) (h2 : der ρ2 o = some (.int i)) (h2b : der ρ2 p = some (.int j)) (h3 : -4611686018427387904 ≤ i) (h4 : i < 4611686018427387904)
    (h5 : -4611686018427387904 ≤ j) (h6 : j < 4611686018427387904) : evI Φ (.rng2 a b) ρ = some (rngD i j, ρ2) := by
  rw [iv_2, h]
  show (opd b (evE Φ b) ρ1).bind _ = _
  rw [hb]
  show (der ρ2 o).bind _ = _
  rw [h2]
  show (der ρ2 p).bind _ = _
  rw [h2b]
  show (if in62 i = true ∧ in62 j = true then _ else _) = _
  rw [if_pos ⟨in62_of h3 h4, in62_of h5 h6⟩]
theorem rng3_n {Φ : Phi} {a b c : E} {ρ ρ1 ρ2 ρ3 : Env} {i j : Int} {o p u : Op} (h : opd a (evE Φ a) ρ = some (o, ρ1)) (hb : opd b (evE Φ b) ρ1 = some (p, ρ2)) (hc : opd c (evE Φ c) ρ2 = some (u, ρ3)) (h2 : der ρ3 o = some (.int i)) (h2b : der ρ3 p = some (.int j)) (h2c : der ρ3 u = some (.int (-1)))
    (h3 : -4611686018427387904 ≤ i) (h4 : i < 4611686018427387904) (h5 : -4611686018427387904 ≤ j) (h6 : j < 4611686018427387904) : evI Φ (.rng3 a b c) ρ = some (rngC i (-1) (i - j).toNat, ρ3) := by
  rw [iv_3, h]
  show (opd b (evE Φ b) ρ1).bind _ = _
  rw [hb]
  show (opd c (evE Φ c) ρ2).bind _ = _
  rw [hc]
  show (der ρ3 o).bind _ = _
  rw [h2]
  show (der ρ3 p).bind _ = _
  rw [h2b]
  show (der ρ3 u).bind _ = _
  rw [h2c]
  show (if in62 i = true ∧ in62 j = true ∧ (-1 : Int) = -1 then _ else _) = _
  rw [if_pos ⟨in62_of h3 h4, in62_of h5 h6, rfl⟩]
/-- a while by turns -/
theorem while_turns {c : Env → Option (Bool × Env)} {f : Env → Option (Fl × Env)} (Pt : Nat → Env → Prop) (Qt : Env → Prop) (p : Nat) (hc : ∀ j ρ, j < p → Pt j ρ → ∃ ρ1 ρ2, c ρ = some (true, ρ1) ∧ f ρ1 = some (.next, ρ2) ∧ Pt (j + 1) ρ2)
    (he : ∀ ρ, Pt p ρ → ∃ ρ1, c ρ = some (false, ρ1) ∧ Qt ρ1) : ∀ (fuel i : Nat) (ρ : Env), i ≤ p → p - i < fuel → Pt i ρ → ∃ ρ', whileN c f fuel ρ = some (.next, ρ') ∧ Qt ρ'
  | 0, _, _, _, h, _ => absurd h (Nat.not_lt_zero _)
  | fuel + 1, i, ρ, hi, hf, hp => by
    by_cases q : i = p
    · subst q
      obtain ⟨ρ1, e, h⟩ := he ρ hp
      refine ⟨ρ1, ?_, h⟩
      show (c ρ).bind _ = _
      rw [e]
      rfl
    · obtain ⟨ρ1, ρ2, e1, e2, h⟩ := hc i ρ (by omega) hp
      obtain ⟨ρ3, e3, h3⟩ := while_turns Pt Qt p hc he fuel (i + 1) ρ2 (by omega) (by omega) h
      refine ⟨ρ3, ?_, h3⟩
      show (c ρ).bind _ = _
      rw [e1]
      show (f ρ1).bind _ = _
      rw [e2]
      exact e3
theorem whl_n {Φ : Phi} {c : E} {b : S} {ρ : Env} {x : Option (Fl × Env)} (h : whileN (evT Φ c) (ex Φ b) WF ρ = x) : ex Φ (.while_ c b) ρ = x := h
theorem rngC_at {i : Int} {n j : Nat} (h : j < n) : (rngC i (-1) n)[j]? = some (.int (i - j)) := by
  unfold rngC
  rw [List.getElem?_map, List.getElem?_range h]
  show some (PyData.int (i + (j : Int) * -1)) = _
  rw [show i + (j : Int) * -1 = i - j by omega]
theorem rngC_len {i c : Int} {n : Nat} : (rngC i c n).length = n := by simp [rngC]
theorem rngD_at {i j : Int} {m : Nat} (h : (m : Int) < j - i) : (rngD i j)[m]? = some (.int (i + m)) := by
  unfold rngD
  rw [List.getElem?_map, List.getElem?_range (by omega)]
  rfl
@[simp] theorem okN_0 : okN 0 = true := rfl
@[simp] theorem in62_0 : in62 0 = true := rfl
@[simp] theorem okN_1 : okN 1 = true := rfl
@[simp] theorem in62_1 : in62 1 = true := rfl
@[simp] theorem okN_2 : okN 2 = true := rfl
@[simp] theorem in62_2 : in62 2 = true := rfl
@[simp] theorem okN_3 : okN 3 = true := rfl
@[simp] theorem in62_3 : in62 3 = true := rfl
@[simp] theorem okN_4 : okN 4 = true := rfl
@[simp] theorem in62_4 : in62 4 = true := rfl
@[simp] theorem okN_5 : okN 5 = true := rfl
@[simp] theorem in62_5 : in62 5 = true := rfl
@[simp] theorem okN_6 : okN 6 = true := rfl
@[simp] theorem in62_6 : in62 6 = true := rfl
@[simp] theorem okN_7 : okN 7 = true := rfl
@[simp] theorem in62_7 : in62 7 = true := rfl
@[simp] theorem okN_8 : okN 8 = true := rfl
@[simp] theorem in62_8 : in62 8 = true := rfl
@[simp] theorem okN_9 : okN 9 = true := rfl
@[simp] theorem in62_9 : in62 9 = true := rfl
theorem lrg_n {Φ : Phi} {it : E} {ρ ρ1 : Env} {ds : List D} (h : evI Φ it ρ = some (ds, ρ1)) (hl : ds.length ≤ 16777216) : evE Φ (.lrg false it) ρ = some (.l ds, ρ1) := by
  rw [ev_lrg, h]
  show (if okN ds.length = true then _ else _) = _
  rw [if_pos (okN_t hl)]
  rfl
theorem bin_n {Φ : Phi} {o : Operator} {a b : E} {ρ ρ1 ρ2 : Env} {x y : Op} {d e : D} {r : R} (h1 : opd a (evE Φ a) ρ = some (x, ρ1)) (h2 : opd b (evE Φ b) ρ1 = some (y, ρ2)) (h3 : der ρ2 x = some d) (h4 : der ρ2 y = some e) (h5 : binD o d e = some r) : evE Φ (.bin o a b) ρ = some (r, ρ2) := by
  rw [ev_bin, h1]
  show (opd b (evE Φ b) ρ1).bind _ = _
  rw [h2]
  show (der ρ2 x).bind _ = _
  rw [h3]
  show (der ρ2 y).bind _ = _
  rw [h4]
  show (binD o d e).bind _ = _
  rw [h5]
  rfl
theorem lst1_n {Φ : Phi} {a : E} {ρ ρ1 : Env} {r : R} {d : D} (h : evE Φ a ρ = some (r, ρ1)) (h2 : frzO r = some d) : evE Φ (.lst (.cons a .nil)) ρ = some (.l [d], ρ1) := by
  rw [ev_lst, fv_cons, h]
  simp [h2]
theorem opd_n {Φ : Phi} {a : E} {ρ ρ1 : Env} {r : R} {d : D} (hv : ∀ i, a ≠ .var i) (h : evE Φ a ρ = some (r, ρ1)) (h2 : frzO r = some d) : opd a (evE Φ a) ρ = some (.d d, ρ1) := by
  rw [op_val hv, h]
  simp [h2]
theorem cat_n {a b : List D} (h : a.length + b.length ≤ 16777216) : binD .Add (.list a) (.list b) = some (.l (a ++ b)) := if_pos (okN_t h)
end Pv

/-! ## tables of levels: the mathematics -/
namespace Lv
def run (f : Nat → Nat) (s : Nat) : Nat → Nat
  | 0 => s
  | b + 1 => f (run f s b)
def T (N : Nat) : Nat → Nat → Nat → Nat
  | 0, _, b => b
  | d + 1, a, b => if a + (d + 1) = N then run (fun x => T N d x (a + 1)) (a + 1) (b - 1) else T N d a b
def op (N a b : Nat) : Nat := T N N a b
theorem T_same {N a b : Nat} : ∀ (e : Nat), N - a ≤ e → a ≤ N → T N e a b = T N (N - a) a b
  | 0, h, _ => by rw [show N - a = 0 by omega]
  | e + 1, h, ha => by
    by_cases q : N - a = e + 1
    · rw [q]
    · show (if a + (e + 1) = N then _ else T N e a b) = _
      rw [if_neg (by omega)]
      exact T_same e (by omega) ha
theorem op_N {N b : Nat} : op N N b = b := by
  unfold op
  rw [T_same N (by omega) (Nat.le_refl _), Nat.sub_self]
  rfl
theorem op_run {N a b : Nat} (h : a < N) : op N a b = run (fun x => T N (N - a - 1) x (a + 1)) (a + 1) (b - 1) := by
  unfold op
  rw [T_same N (by omega) (by omega)]
  obtain ⟨d, hd⟩ : ∃ d, N - a = d + 1 := ⟨N - a - 1, by omega⟩
  rw [hd]
  show (if a + (d + 1) = N then _ else _) = _
  rw [if_pos (by omega)]
  rfl
theorem op_one {N a : Nat} (h : a < N) : op N a 1 = a + 1 := by
  rw [op_run h]
  rfl
theorem op_both {N : Nat} : ∀ (d a : Nat), N - a ≤ d → a < N → ∀ b, 1 ≤ b → (a < op N a b ∧ op N a b ≤ N) ∧ op N a (b + 1) = op N (op N a b) (a + 1)
  | 0, a, h, ha => by omega
  | d + 1, a, h, ha => by
    have st : ∀ b, 1 ≤ b → a < op N a b ∧ op N a b ≤ N → op N a (b + 1) = op N (op N a b) (a + 1) := fun b hb hh => by
      rw [op_run ha (b := b + 1)]
      obtain ⟨m, rfl⟩ : ∃ m, b = m + 1 := ⟨b - 1, by omega⟩
      show T N (N - a - 1) (run _ _ m) (a + 1) = _
      have e : run (fun x => T N (N - a - 1) x (a + 1)) (a + 1) m = op N a (m + 1) := (op_run ha (b := m + 1)).symm
      rw [e]
      show _ = T N N _ _
      rw [T_same (N - a - 1) (by omega) hh.2, T_same N (by omega) hh.2]
    have bd : ∀ b, 1 ≤ b → a < op N a b ∧ op N a b ≤ N := fun b hb => by
      induction b with
      | zero => omega
      | succ b ih =>
        by_cases q : b = 0
        · subst q
          rw [op_one ha]
          omega
        · have z := ih (by omega)
          rw [st b (by omega) z]
          by_cases w : op N a b = N
          · rw [w, op_N]
            omega
          · have := (op_both (N := N) d (op N a b) (by omega) (by omega) (a + 1) (by omega)).1
            omega
    exact fun b hb => ⟨bd b hb, st b hb (bd b hb)⟩
theorem op_gt {N a b : Nat} (h : a < N) (hb : 1 ≤ b) : a < op N a b := (op_both (N - a) a (Nat.le_refl _) h b hb).1.1
theorem op_le {N a b : Nat} (h : a ≤ N) (hb : 1 ≤ b) (hb2 : b ≤ N) : op N a b ≤ N := by
  by_cases q : a = N
  · rw [q, op_N]
    exact hb2
  · exact (op_both (N - a) a (Nat.le_refl _) (by omega) b hb).1.2
theorem op_le' {N a b : Nat} (h : a < N) (hb : 1 ≤ b) : op N a b ≤ N := (op_both (N - a) a (Nat.le_refl _) (by omega) b hb).1.2
theorem op_succ {N a b : Nat} (h : a < N) (hb : 1 ≤ b) : op N a (b + 1) = op N (op N a b) (a + 1) := (op_both (N - a) a (Nat.le_refl _) h b hb).2
theorem op_pos {N a b : Nat} (ha : 1 ≤ a) (h : a ≤ N) (hb : 1 ≤ b) : 1 ≤ op N a b := by
  by_cases q : a = N
  · rw [q, op_N]
    exact hb
  · have := op_gt (N := N) (a := a) (by omega) hb
    omega
/-! ### the end of a row -/
theorem op_again {N a q : Nat} (h : a < N) (hq : 1 ≤ q) (e : op N a q = N) : ∀ j, 1 ≤ j → op N a (q + j) = op N a j := fun j hj => by
  induction j with
  | zero => omega
  | succ j ih =>
    by_cases w : j = 0
    · subst w
      rw [op_succ h hq, e, op_N, op_one h]
    · rw [show q + (j + 1) = q + j + 1 by omega, op_succ h (by omega), ih (by omega), op_succ h (by omega)]
theorem op_mul {N a q : Nat} (h : a < N) (hq : 1 ≤ q) (e : op N a q = N) : ∀ m, 1 ≤ m → op N a (m * q) = N := fun m hm => by
  induction m with
  | zero => omega
  | succ m ih =>
    by_cases w : m = 0
    · subst w
      rw [Nat.zero_add, Nat.one_mul]
      exact e
    · rw [Nat.succ_mul, Nat.add_comm, op_again h hq e _ (Nat.mul_pos (by omega) (by omega))]
      exact ih (by omega)
/-- p is where the row of a ends first -/
structure Per (N a p : Nat) : Prop where
  pos : 1 ≤ p
  at_ : op N a p = N
  lt : ∀ j, 1 ≤ j → j < p → op N a j < N
def Fine (N : Nat) : Prop := ∀ a, 1 ≤ a → a ≤ N → ∃ p, p ∣ N ∧ Per N a p
theorem Fine.top {N a : Nat} (h : Fine N) (ha : 1 ≤ a) (h2 : a ≤ N) : op N a N = N := by
  by_cases q : a = N
  · rw [q, op_N]
  · obtain ⟨p, ⟨m, e⟩, P⟩ := h a ha h2
    have hm : 1 ≤ m := by
      rcases Nat.eq_zero_or_pos m with z | z
      · subst z
        rw [Nat.mul_zero] at e
        omega
      · exact z
    have := op_mul (by omega) P.pos P.at_ m hm
    rwa [Nat.mul_comm, ← e] at this
/-! ### a level down -/
def pr (N x : Nat) : Nat := (x - 1) % N + 1
theorem pr_pos {N x : Nat} : 1 ≤ pr N x := Nat.le_add_left _ _
theorem pr_le {N x : Nat} (h : 1 ≤ N) : pr N x ≤ N := by
  have := Nat.mod_lt (x - 1) (show 0 < N by omega)
  unfold pr
  omega
theorem pr_id {N x : Nat} (h : 1 ≤ x) (h2 : x ≤ N) : pr N x = x := by
  unfold pr
  rw [Nat.mod_eq_of_lt (by omega)]
  omega
theorem pr_up {N x : Nat} (h : 1 ≤ x) (h2 : x ≤ N) : pr N (N + x) = x := by
  unfold pr
  rw [show N + x - 1 = x - 1 + N by omega, Nat.add_mod_right, Nat.mod_eq_of_lt (by omega)]
  omega
theorem pr_next {N b : Nat} (hN : 1 ≤ N) (hb : 1 ≤ b) : pr N (b + 1) = if pr N b = N then 1 else pr N b + 1 := by
  unfold pr
  have h1 := Nat.mod_lt (b - 1) (show 0 < N by omega)
  rw [show b + 1 - 1 = (b - 1) + 1 by omega, Nat.add_mod]
  by_cases q : (b - 1) % N + 1 = N
  · rw [if_pos q]
    by_cases o : N = 1
    · subst o
      omega
    · rw [Nat.mod_eq_of_lt (show 1 < N by omega), q, Nat.mod_self]
  · rw [if_neg q, Nat.mod_eq_of_lt (a := 1) (by omega), Nat.mod_eq_of_lt (by omega)]
section
variable {N : Nat} (hN : 1 ≤ N) (F : Fine N)
include hN F
/-- the next place below -/
theorem op_prn {a b : Nat} (ha : 1 ≤ a) (h : a < N) (hb : 1 ≤ b) : op N a (pr N (b + 1)) = op N (op N a (pr N b)) (a + 1) := by
  rw [pr_next hN hb]
  by_cases q : pr N b = N
  · rw [if_pos q, q, F.top ha (by omega), op_N, op_one h]
  · rw [if_neg q, op_succ h pr_pos]
theorem up_lt : ∀ (d a : Nat), N - a ≤ d → 1 ≤ a → a < N → ∀ b, 1 ≤ b → op (2 * N) (N + a) b = N + op N a (pr N b)
  | 0, a, h, _, h2 => by omega
  | d + 1, a, h, ha, h2 => fun b hb => by
    induction b with
    | zero => omega
    | succ b ih =>
      by_cases q : b = 0
      · subst q
        rw [op_one (by omega), pr_id (by omega) (by omega), op_one h2]
        omega
      · have hb : 1 ≤ b := by omega
        rw [op_succ (by omega) hb, ih hb, op_prn hN F ha h2 hb]
        have y1 := op_gt h2 (pr_pos (N := N) (x := b))
        have y2 := op_le' h2 (pr_pos (N := N) (x := b))
        by_cases w : op N a (pr N b) = N
        · rw [w, show N + N = 2 * N by omega, op_N, op_N]
          omega
        · rw [up_lt d (op N a (pr N b)) (by omega) (by omega) (by omega) (N + a + 1) (by omega), show N + a + 1 = N + (a + 1) by omega, pr_up (by omega) (by omega)]
theorem up_N {b : Nat} (hb : 1 ≤ b) : op (2 * N) N b = N + pr N b := by
  induction b with
  | zero => omega
  | succ b ih =>
    by_cases q : b = 0
    · subst q
      rw [op_one (by omega), pr_id (by omega) (by omega)]
    · have hb : 1 ≤ b := by omega
      rw [op_succ (by omega) hb, ih hb, pr_next hN hb]
      have y2 := pr_le (x := b) hN
      by_cases w : pr N b = N
      · rw [if_pos w, w, show N + N = 2 * N by omega, op_N]
      · rw [if_neg w, up_lt hN F N (pr N b) (by omega) pr_pos (by omega) (N + 1) (by omega), pr_up (by omega) (by omega), op_one (by omega)]
/-- a level down, products go to products -/
theorem op_pr (d : Nat) : ∀ (a : Nat), 2 * N - a ≤ d → 1 ≤ a → a ≤ 2 * N → ∀ b, 1 ≤ b → pr N (op (2 * N) a b) = op N (pr N a) (pr N b) := by
    induction d with
    | zero =>
      intro a h ha h2 b hb
      rw [show a = 2 * N by omega, op_N, show 2 * N = N + N by omega, pr_up hN (Nat.le_refl _), op_N]
    | succ d ihd =>
    intro a h ha h2 b hb
    by_cases c1 : a = 2 * N
    · rw [c1, op_N, show 2 * N = N + N by omega, pr_up hN (Nat.le_refl _), op_N]
    by_cases c2 : N < a
    · obtain ⟨a', rfl⟩ : ∃ a', a = N + a' := ⟨a - N, by omega⟩
      rw [up_lt hN F N a' (by omega) (by omega) (by omega) b hb, pr_up (x := a') (by omega) (by omega)]
      exact pr_up (op_pos (by omega) (by omega) pr_pos) (op_le' (by omega) pr_pos)
    by_cases c3 : a = N
    · rw [c3, up_N hN F hb, pr_up pr_pos (pr_le hN), pr_id hN (Nat.le_refl _), op_N]
    have c4 : a < N := by omega
    rw [pr_id ha (by omega)]
    induction b with
    | zero => omega
    | succ b ih =>
      by_cases q : b = 0
      · subst q
        rw [op_one (by omega), pr_id (by omega) (by omega), pr_id (by omega) (by omega), op_one c4]
      · have hb : 1 ≤ b := by omega
        have z1 := op_gt (N := 2 * N) (a := a) (by omega) hb
        have z2 := op_le' (N := 2 * N) (a := a) (by omega) hb
        rw [op_succ (by omega) hb, ihd (op (2 * N) a b) (by omega) (by omega) z2 (a + 1) (by omega), ih hb, op_prn hN F ha c4 hb, pr_id (x := a + 1) (by omega) (by omega)]
theorem fine_up : Fine (2 * N) := fun a ha h2 => by
  by_cases c1 : a = 2 * N
  · refine ⟨2 * N, Nat.dvd_refl _, by omega, by rw [c1, op_N], fun j h1 h2 => by rw [c1, op_N]; exact h2⟩
  by_cases c2 : N < a
  · obtain ⟨a', rfl⟩ : ∃ a', a = N + a' := ⟨a - N, by omega⟩
    obtain ⟨p, dv, P⟩ := F a' (by omega) (by omega)
    have pl : p ≤ N := Nat.le_of_dvd (by omega) dv
    have pp := P.pos
    refine ⟨p, Nat.dvd_trans dv ⟨2, by omega⟩, P.pos, ?_, fun j h1 h2 => ?_⟩
    · rw [up_lt hN F N a' (by omega) (by omega) (by omega) p P.pos, pr_id P.pos pl, P.at_]
      omega
    · rw [up_lt hN F N a' (by omega) (by omega) (by omega) j h1, pr_id h1 (by omega)]
      have := P.lt j h1 h2
      omega
  by_cases c3 : a = N
  · refine ⟨N, ⟨2, by omega⟩, hN, ?_, fun j h1 h2 => ?_⟩
    · rw [c3, up_N hN F hN, pr_id hN (Nat.le_refl _)]
      omega
    · rw [c3, up_N hN F h1, pr_id h1 (by omega)]
      omega
  have c4 : a < N := by omega
  obtain ⟨p, dv, P⟩ := F a ha (by omega)
  have pl : p ≤ N := Nat.le_of_dvd (by omega) dv
  have pp := P.pos
  have down : ∀ j, 1 ≤ j → j ≤ N → pr N (op (2 * N) a j) = op N a j := fun j h1 h2 => by
    rw [op_pr hN F (2 * N) a (by omega) ha (by omega) j h1, pr_id ha (by omega), pr_id h1 h2]
  have small : ∀ j, 1 ≤ j → j < p → op (2 * N) a j < 2 * N := fun j h1 h2 => by
    have l := op_le' (N := 2 * N) (a := a) (by omega) h1
    have e := down j h1 (by omega)
    have := P.lt j h1 h2
    rcases Nat.lt_or_ge (op (2 * N) a j) (2 * N) with z | z
    · exact z
    · rw [show op (2 * N) a j = N + N by omega, pr_up hN (Nat.le_refl _)] at e
      omega
  have e := down p P.pos pl
  rw [P.at_] at e
  have z1 := op_gt (N := 2 * N) (a := a) (by omega) P.pos
  have z2 := op_le' (N := 2 * N) (a := a) (by omega) P.pos
  by_cases w : N < op (2 * N) a p
  · obtain ⟨x, hx⟩ : ∃ x, op (2 * N) a p = N + x := ⟨op (2 * N) a p - N, by omega⟩
    rw [hx, pr_up (by omega) (by omega)] at e
    exact ⟨p, Nat.dvd_trans dv ⟨2, by omega⟩, P.pos, by rw [hx, e]; omega, small⟩
  · have e0 : op (2 * N) a p = N := by
      rw [pr_id (by omega) (by omega)] at e
      exact e
    have far : ∀ j, 1 ≤ j → j ≤ p → op (2 * N) a (p + j) = N + op N a j := fun j h1 h2 => by
      induction j with
      | zero => omega
      | succ j ih =>
        by_cases q : j = 0
        · subst q
          rw [op_succ (by omega) P.pos, e0, up_N hN F (by omega), pr_id (by omega) (by omega), op_one c4]
        · rw [show p + (j + 1) = p + j + 1 by omega, op_succ (by omega) (by omega), ih (by omega) (by omega)]
          have y1 := op_gt c4 (b := j) (by omega)
          have y2 := P.lt j (by omega) (by omega)
          rw [up_lt hN F N (op N a j) (by omega) (by omega) y2 (a + 1) (by omega), pr_id (by omega) (by omega), op_succ c4 (by omega)]
    refine ⟨2 * p, Nat.mul_dvd_mul_left 2 dv, by omega, ?_, fun j h1 h2 => ?_⟩
    · rw [show 2 * p = p + p by omega, far p P.pos (Nat.le_refl _), P.at_]
      omega
    · by_cases c5 : j < p
      · exact small j h1 c5
      · by_cases c6 : j = p
        · rw [c6, e0]
          omega
        · obtain ⟨i, rfl⟩ : ∃ i, j = p + i := ⟨j - p, by omega⟩
          rw [far i (by omega) (by omega)]
          have := P.lt i (by omega) (by omega)
          omega
end
theorem fine_pow : ∀ n, Fine (2 ^ n)
  | 0 => fun a h1 h2 => by
    have h2 : a ≤ 1 := h2
    have e : a = 1 := by omega
    subst e
    exact ⟨1, Nat.dvd_refl _, Nat.le_refl _, op_N, fun j h1 h2 => by omega⟩
  | n + 1 => by
    rw [Nat.pow_succ, Nat.mul_comm]
    exact fine_up (Nat.one_le_two_pow) (fine_pow n)
/-! ### the left spread law -/
section
variable {N : Nat} (hN : 1 ≤ N) (F : Fine N)
include F
theorem op_by1 {a b : Nat} (ha : 1 ≤ a) (ha2 : a ≤ N) (hb : 1 ≤ b) (hb2 : b ≤ N) : op N a (op N b 1) = op N (op N a b) (op N a 1) := by
  by_cases q : b = N
  · rw [q, op_N, F.top ha ha2, op_N]
  · rw [op_one (a := b) (by omega)]
    by_cases w : a = N
    · rw [w, op_N, op_N, op_N, op_one (by omega)]
    · rw [op_succ (by omega) hb, op_one (by omega)]
theorem ld : ∀ (da db a b : Nat), N - a ≤ da → N - b ≤ db → 1 ≤ a → a ≤ N → 1 ≤ b → b ≤ N → ∀ c, 1 ≤ c → c ≤ N → op N a (op N b c) = op N (op N a b) (op N a c)
  | da, db, a, b, hda, hdb, ha, ha2, hb, hb2 => fun c hc hc2 => by
    by_cases q : a = N
    · rw [q, op_N, op_N, op_N]
    by_cases w : b = N
    · rw [w, op_N, F.top ha ha2, op_N]
    match da, db, hda, hdb with
    | 0, _, h, _ => omega
    | _ + 1, 0, _, h => omega
    | da + 1, db + 1, hda, hdb =>
      induction c with
      | zero => omega
      | succ c ih =>
        by_cases u : c = 0
        · subst u
          exact op_by1 F ha ha2 hb hb2
        · have hc : 1 ≤ c := by omega
          have g1 := op_gt (N := N) (a := b) (by omega) hc
          have g2 := op_le' (N := N) (a := b) (by omega) hc
          have g3 := op_gt (N := N) (a := a) (by omega) hb
          have g4 := op_le' (N := N) (a := a) (by omega) hb
          have g5 := op_pos ha ha2 hc
          have g6 := op_le' (N := N) (a := a) (by omega) hc
          rw [op_succ (a := b) (by omega) hc, ld (da + 1) db a (op N b c) (by omega) (by omega) ha ha2 (by omega) g2 (b + 1) (by omega) (by omega), ih hc (by omega),
            op_succ (a := a) (by omega) hc, op_succ (a := a) (by omega) hb]
          by_cases v : op N a b = N
          · rw [v, op_N, op_N, op_N]
          · exact (ld da N (op N a b) (op N a c) (by omega) (by omega) (by omega) g4 g5 g6 (a + 1) (by omega) (by omega)).symm
  termination_by da db => (da, db)
theorem spread {a b c : Nat} (ha : 1 ≤ a) (ha2 : a ≤ N) (hb : 1 ≤ b) (hb2 : b ≤ N) (hc : 1 ≤ c) (hc2 : c ≤ N) : op N a (op N b c) = op N (op N a b) (op N a c) := ld F N N a b (by omega) (by omega) ha ha2 hb hb2 c hc hc2
end
/-! ### one, then the other -/
def nx (N x : Nat) : Nat := x % N + 1
def pv (N y : Nat) : Nat := (y + N - 2) % N + 1
def co (N a b : Nat) : Nat := pv N (op N a (nx N b))
section
variable {N : Nat} (hN : 1 ≤ N)
include hN
theorem nx_pos {x : Nat} : 1 ≤ nx N x := Nat.le_add_left _ _
theorem nx_le {x : Nat} : nx N x ≤ N := by
  have := Nat.mod_lt x (show 0 < N by omega)
  unfold nx
  omega
theorem nx_lt {x : Nat} (h : x < N) : nx N x = x + 1 := by
  unfold nx
  rw [Nat.mod_eq_of_lt h]
theorem nx_N : nx N N = 1 := by
  unfold nx
  rw [Nat.mod_self]
theorem nx_op {x : Nat} (h : 1 ≤ x) (h2 : x ≤ N) : nx N x = op N x 1 := by
  by_cases q : x = N
  · rw [q, nx_N hN, op_N]
  · rw [nx_lt hN (by omega), op_one (by omega)]
theorem pv_pos {x : Nat} : 1 ≤ pv N x := Nat.le_add_left _ _
theorem pv_le {x : Nat} : pv N x ≤ N := by
  have := Nat.mod_lt (x + N - 2) (show 0 < N by omega)
  unfold pv
  omega
theorem pv_1 : pv N 1 = N := by
  unfold pv
  rw [Nat.mod_eq_of_lt (by omega)]
  omega
theorem pv_s {x : Nat} (h : 1 ≤ x) (h2 : x < N) : pv N (x + 1) = x := by
  unfold pv
  rw [show x + 1 + N - 2 = x - 1 + N by omega, Nat.add_mod_right, Nat.mod_eq_of_lt (by omega)]
  omega
theorem nx_pv {y : Nat} (h : 1 ≤ y) (h2 : y ≤ N) : nx N (pv N y) = y := by
  by_cases q : y = 1
  · rw [q, pv_1 hN, nx_N hN]
  · obtain ⟨x, rfl⟩ : ∃ x, y = x + 1 := ⟨y - 1, by omega⟩
    rw [pv_s hN (by omega) (by omega), nx_lt hN (by omega)]
theorem pv_nx {y : Nat} (h : 1 ≤ y) (h2 : y ≤ N) : pv N (nx N y) = y := by
  by_cases q : y = N
  · rw [q, nx_N hN, pv_1 hN]
  · rw [nx_lt hN (by omega), pv_s hN h (by omega)]
theorem nx_inj {x y : Nat} (h : 1 ≤ x) (h2 : x ≤ N) (k : 1 ≤ y) (k2 : y ≤ N) (e : nx N x = nx N y) : x = y := by
  rw [← pv_nx hN h h2, e, pv_nx hN k k2]
theorem co_pos {a b : Nat} : 1 ≤ co N a b := pv_pos hN
theorem co_le {a b : Nat} : co N a b ≤ N := pv_le hN
variable (F : Fine N)
theorem nx_co {a b : Nat} (ha : 1 ≤ a) (ha2 : a ≤ N) : nx N (co N a b) = op N a (nx N b) :=
  nx_pv hN (op_pos ha ha2 (nx_pos hN)) (op_le ha2 (nx_pos hN) (nx_le hN))
theorem co_N {b : Nat} (hb : 1 ≤ b) (hb2 : b ≤ N) : co N N b = b := by
  unfold co
  rw [op_N, pv_nx hN hb hb2]
theorem co_r {b : Nat} (hb : 1 ≤ b) (hb2 : b ≤ N) : co N b N = b := by
  unfold co
  rw [nx_N hN, ← nx_op hN hb hb2, pv_nx hN hb hb2]
include F
theorem co_op {a b : Nat} (ha : 1 ≤ a) (ha2 : a ≤ N) (hb : 1 ≤ b) (hb2 : b ≤ N) : ∀ c, 1 ≤ c → c ≤ N → op N (co N a b) c = op N a (op N b c) := fun c hc hc2 => by
  have one : op N (co N a b) 1 = op N a (op N b 1) := by
    rw [← nx_op hN (co_pos hN) (co_le hN), nx_co hN ha ha2, nx_op hN hb hb2]
  induction c with
  | zero => omega
  | succ c ih =>
    by_cases u : c = 0
    · subst u
      exact one
    · have hc : 1 ≤ c := by omega
      have b1 := op_pos hb hb2 hc
      have b2 := op_le hb2 hc (by omega : c ≤ N)
      have b3 := op_pos hb hb2 (Nat.le_refl 1)
      have b4 := op_le hb2 (Nat.le_refl 1) hN
      rw [← op_one (N := N) (a := c) (by omega), spread F (co_pos hN) (co_le hN) hc (by omega) (Nat.le_refl 1) hN, ih hc (by omega), one, ← spread F ha ha2 b1 b2 b3 b4, ← spread F hb hb2 hc (by omega) (Nat.le_refl 1) hN]
theorem co_assoc {a b c : Nat} (ha : 1 ≤ a) (ha2 : a ≤ N) (hb : 1 ≤ b) (hb2 : b ≤ N) (hc : 1 ≤ c) (hc2 : c ≤ N) : co N (co N a b) c = co N a (co N b c) := by
  apply nx_inj hN (co_pos hN) (co_le hN) (co_pos hN) (co_le hN)
  rw [nx_co hN (co_pos hN) (co_le hN), nx_co hN ha ha2, nx_co hN hb hb2, co_op hN F ha ha2 hb hb2 _ (nx_pos hN) (nx_le hN)]
theorem co_comm {a b : Nat} (ha : 1 ≤ a) (ha2 : a ≤ N) (hb : 1 ≤ b) (hb2 : b ≤ N) : co N a b = co N (op N a b) a := by
  apply nx_inj hN (co_pos hN) (co_le hN) (co_pos hN) (co_le hN)
  rw [nx_co hN ha ha2, nx_co hN (op_pos ha ha2 hb) (op_le ha2 hb hb2), nx_op hN hb hb2, nx_op hN ha ha2, op_by1 F ha ha2 hb hb2]
theorem op_co : ∀ (d a b c : Nat), N - b ≤ d → 1 ≤ a → a ≤ N → 1 ≤ b → b ≤ N → 1 ≤ c → c ≤ N → op N a (co N b c) = co N (op N a b) (op N a c) := by
  intro d
  induction d with
  | zero =>
    intro a b c h ha ha2 hb hb2 hc hc2
    have e : b = N := by omega
    rw [e, co_N hN hc hc2, F.top ha ha2, co_N hN (op_pos ha ha2 hc) (op_le ha2 hc hc2)]
  | succ d ih =>
    intro a b c h ha ha2 hb hb2 hc hc2
    by_cases q : b = N
    · rw [q, co_N hN hc hc2, F.top ha ha2, co_N hN (op_pos ha ha2 hc) (op_le ha2 hc hc2)]
    · have g := op_gt (N := N) (a := b) (by omega) hc
      have g2 := op_le hb2 hc hc2
      rw [co_comm hN F hb hb2 hc hc2, ih a (op N b c) b (by omega) ha ha2 (by omega) g2 hb hb2, spread F ha ha2 hb hb2 hc hc2, ← co_comm hN F (op_pos ha ha2 hb) (op_le ha2 hb hb2) (op_pos ha ha2 hc) (op_le ha2 hc hc2)]
end
/-! ### several levels down -/
theorem pr_pr {m n x : Nat} (h : m ≤ n) (hx : 1 ≤ x) : pr (2 ^ m) (pr (2 ^ n) x) = pr (2 ^ m) x := by
  unfold pr
  rw [Nat.add_sub_cancel, Nat.mod_mod_of_dvd _ (Nat.pow_dvd_pow 2 h)]
theorem op_low {m n : Nat} (h : m ≤ n) {a b : Nat} (ha : 1 ≤ a) (ha2 : a ≤ 2 ^ n) (hb : 1 ≤ b) : pr (2 ^ m) (op (2 ^ n) a b) = op (2 ^ m) (pr (2 ^ m) a) (pr (2 ^ m) b) := by
  induction n generalizing a b with
  | zero =>
    have e : m = 0 := by omega
    subst e
    have e : a = 1 := by
      have : a ≤ 1 := ha2
      omega
    subst e
    show pr 1 (op 1 1 b) = op 1 (pr 1 1) (pr 1 b)
    rw [op_N, show pr 1 1 = 1 from rfl, op_N]
  | succ n ih =>
    by_cases q : m = n + 1
    · subst q
      rw [pr_id ha ha2]
      by_cases w : a = 2 ^ (n + 1)
      · rw [w, op_N, op_N]
      · rw [pr_id (op_pos ha ha2 hb) (op_le' (by omega) hb)]
        have hN : 1 ≤ 2 ^ (n + 1) := Nat.one_le_two_pow
        clear ih
        induction b with
        | zero => omega
        | succ b ihb =>
          by_cases u : b = 0
          · subst u
            rw [pr_id (by omega) hN]
          · rw [op_prn hN (fine_pow (n + 1)) ha (by omega) (by omega), ← ihb (by omega), op_succ (by omega) (by omega)]
    · have hm : m ≤ n := by omega
      have hN : 1 ≤ 2 ^ n := Nat.one_le_two_pow
      have e2 : 2 ^ (n + 1) = 2 * 2 ^ n := by rw [Nat.pow_succ, Nat.mul_comm]
      rw [← pr_pr hm (op_pos ha ha2 hb), e2]
      rw [e2] at ha2
      rw [op_pr hN (fine_pow n) (2 * 2 ^ n) a (by omega) ha ha2 b hb, ih hm pr_pos (pr_le hN) pr_pos, pr_pr hm ha, pr_pr hm hb]
theorem nx_low {m n x : Nat} (h : m ≤ n) (hx : 1 ≤ x) (hx2 : x ≤ 2 ^ n) : pr (2 ^ m) (nx (2 ^ n) x) = nx (2 ^ m) (pr (2 ^ m) x) := by
  rw [nx_op Nat.one_le_two_pow hx hx2, op_low h hx hx2 (Nat.le_refl 1), pr_id (Nat.le_refl 1) Nat.one_le_two_pow, nx_op Nat.one_le_two_pow pr_pos (pr_le Nat.one_le_two_pow)]
theorem co_low {m n : Nat} (h : m ≤ n) {a b : Nat} (ha : 1 ≤ a) (ha2 : a ≤ 2 ^ n) (hb : 1 ≤ b) (hb2 : b ≤ 2 ^ n) : pr (2 ^ m) (co (2 ^ n) a b) = co (2 ^ m) (pr (2 ^ m) a) (pr (2 ^ m) b) := by
  have n1 : 1 ≤ 2 ^ n := Nat.one_le_two_pow
  have m1 : 1 ≤ 2 ^ m := Nat.one_le_two_pow
  apply nx_inj m1 pr_pos (pr_le m1) (co_pos m1) (co_le m1)
  rw [← nx_low h (co_pos n1) (co_le n1), nx_co n1 ha ha2, op_low h ha ha2 (nx_pos n1), nx_co m1 pr_pos (pr_le m1), nx_low h hb hb2]
end Lv

namespace Lv
open PySem Pv
/-! ## the rows as data -/
def per (N a : Nat) : Nat := ((List.range N).find? fun i => decide (op N a (i + 1) = N)).getD 0 + 1
theorem find_first {p : Nat → Bool} : ∀ (n m : Nat), m < n → p m = true → (∀ j, j < m → p j = false) → (List.range n).find? p = some m := by
  intro n m h hp hl
  have e : List.range n = List.range m ++ (List.range (n - m)).map (m + ·) := by
    rw [← List.range_add, show m + (n - m) = n by omega]
  rw [e, List.find?_append]
  have n1 : (List.range m).find? p = none := by
    rw [List.find?_eq_none]
    intro x hx
    rw [hl x (List.mem_range.mp hx)]
    decide
  rw [n1]
  obtain ⟨d, hd⟩ : ∃ d, n - m = d + 1 := ⟨n - m - 1, by omega⟩
  rw [hd, List.range_succ_eq_map, List.map_cons, List.find?_cons, Nat.add_zero, hp]
  rfl
theorem per_of {N a p : Nat} (P : Per N a p) (h : p ≤ N) : per N a = p := by
  unfold per
  have pp := P.pos
  rw [find_first N (p - 1) (by omega) (by
    rw [show p - 1 + 1 = p by omega]
    exact decide_eq_true P.at_) (fun j hj => decide_eq_false (by
    have := P.lt (j + 1) (by omega) (by omega)
    omega))]
  show p - 1 + 1 = p
  omega
section
variable {N a : Nat} (F : Fine N) (ha : 1 ≤ a) (ha2 : a ≤ N)
include F ha ha2
theorem perP : Per N a (per N a) ∧ per N a ∣ N ∧ per N a ≤ N := by
  obtain ⟨p, dv, P⟩ := F a ha ha2
  have pl : p ≤ N := Nat.le_of_dvd (by omega) dv
  rw [per_of P pl]
  exact ⟨P, dv, pl⟩
theorem op_back (h : a < N) : ∀ (m b : Nat), 1 ≤ b → op N a (m * per N a + b) = op N a b := by
  obtain ⟨P, _, _⟩ := perP F ha ha2
  intro m
  induction m with
  | zero =>
    intro b hb
    rw [Nat.zero_mul, Nat.zero_add]
  | succ m ih =>
    intro b hb
    rw [Nat.succ_mul, Nat.add_comm (m * per N a), Nat.add_assoc, op_again h P.pos P.at_ _ (by omega), ih b hb]
theorem op_mod {b : Nat} (hb : b < N) : op N a (b % per N a + 1) = op N a (b + 1) := by
  obtain ⟨P, dv, pl⟩ := perP F ha ha2
  by_cases q : a = N
  · have e : per N a = N := by
      refine per_of ⟨by omega, by rw [q, op_N], fun j h1 h2 => by rw [q, op_N]; exact h2⟩ (Nat.le_refl _)
    rw [e, Nat.mod_eq_of_lt hb]
  · have z := op_back F ha ha2 (by omega) (b / per N a) (b % per N a + 1) (by omega)
    rw [← z, ← Nat.add_assoc, Nat.mul_comm, Nat.div_add_mod]
end
def rowD (N a : Nat) : List D := (List.range (per N a)).map fun i => .int (op N a (i + 1) : Nat)
theorem rowD_len {N a : Nat} : (rowD N a).length = per N a := by simp [rowD]
theorem rowD_at {N a i : Nat} (h : i < per N a) : (rowD N a)[i]? = some (.int (op N a (i + 1) : Nat)) := by
  unfold rowD
  rw [List.getElem?_map, List.getElem?_range h]
  rfl
/-- the rows, when all from N - i on stand -/
def stg (N i : Nat) : List D := (List.range (N + 1)).map fun a => .list (if N - i ≤ a then rowD N a else [])
theorem stg_len {N i : Nat} : (stg N i).length = N + 1 := by simp [stg]
theorem stg_at {N i a : Nat} (h : a ≤ N) (h2 : N - i ≤ a) : (stg N i)[a]? = some (.list (rowD N a)) := by
  unfold stg
  rw [List.getElem?_map, List.getElem?_range (by omega)]
  show some (PyData.list (if N - i ≤ a then rowD N a else [])) = _
  rw [if_pos h2]
theorem stg_set {N i : Nat} (h : i + 1 ≤ N) : (stg N i).set (N - (i + 1)) (.list (rowD N (N - (i + 1)))) = stg N (i + 1) := by
  apply List.ext_getElem?
  intro m
  by_cases hm : m ≤ N
  · by_cases q : m = N - (i + 1)
    · rw [q, List.getElem?_set_self (by rw [stg_len]; omega), stg_at (by omega) (Nat.le_refl _)]
    · rw [List.getElem?_set_ne (Ne.symm q)]
      unfold stg
      rw [List.getElem?_map, List.getElem?_map, List.getElem?_range (by omega)]
      show some (PyData.list (if N - i ≤ m then rowD N m else [])) = some (PyData.list (if N - (i + 1) ≤ m then rowD N m else []))
      by_cases w : N - i ≤ m
      · rw [if_pos w, if_pos (by omega)]
      · rw [if_neg w, if_neg (by omega)]
  · rw [List.getElem?_eq_none (by rw [List.length_set, stg_len]; omega), List.getElem?_eq_none (by rw [stg_len]; omega)]
def rowsD (N : Nat) : List D := stg N (N - 1)
theorem rowsD_at {N a : Nat} (ha : 1 ≤ a) (h : a ≤ N) : (rowsD N)[a]? = some (.list (rowD N a)) := stg_at h (by omega)
theorem rowsD_len {N : Nat} : (rowsD N).length = N + 1 := stg_len
theorem pow_le12 {n : Nat} (h : n ≤ 12) : 2 ^ n ≤ 4096 := Nat.pow_le_pow_right (by omega) h
end Lv

namespace Ir
open PySem Pv
/-- is_number(thing 0) -/
def b_is_number : S := (.seq (.ret (.and_ (.isi (.var 0) [.int]) (.not_ (.isi (.var 0) [.bool])))) .skip)
def f_is_number : Fn := ⟨1, 1, b_is_number, []⟩
/-- is_among(thing 0, least 1, most 2) -/
def b_is_among : S := (.seq (.ret (.and_ (.call "is_number" (.cons (.var 0) .nil)) (.chain .LtE .LtE (.var 1) (.var 0) (.var 2)))) .skip)
def f_is_among : Fn := ⟨3, 3, b_is_among, []⟩
/-- is_long(thing 0, length 1) -/
def b_is_long : S := (.seq (.ret (.and_ (.isi (.var 0) [.tuple]) (.cmp .Eq (.bi .len (.cons (.var 0) .nil)) (.var 1)))) .skip)
def f_is_long : Fn := ⟨2, 2, b_is_long, []⟩
/-- tupled(value 0, own 1) -/
def b_tupled : S := (.seq (.ret (.ife (.tt (.isi (.var 0) [.list, .tuple])) (.bi .tuple (.cons (.comp (.call "tupled" (.cons (.var 1) .nil)) (.nm 1) (.it (.var 0)) .tyes [1]) .nil)) (.var 0))) .skip)
def f_tupled : Fn := ⟨1, 2, b_tupled, []⟩
/-- sure_number(thing 0, least 1, most 2) -/
def b_sure_number : S := (.seq (.if_ (.tnot (.tt (.call "is_among" (.cons (.var 0) (.cons (.var 1) (.cons (.var 2) .nil)))))) .never .skip) (.seq (.ret (.var 0)) .skip))
def f_sure_number : Fn := ⟨3, 3, b_sure_number, []⟩
/-- rows_in(level 0, last 1, rows 2, number 3, row 4, turned 5, _ 6) -/
def b_rows_in : S := (.seq (.asg 1 (.bin .LShift (.num 1) (.var 0))) (.seq (.asg 2 (.bin .Add (.comp (.lst .nil) (.nm 6) (.rng1 (.var 1)) .tyes [6]) (.lst (.cons (.lrg false (.rng2 (.num 1) (.bin .Add (.var 1) (.num 1)))) .nil)))) (.seq (.for_ (.nm 3) (.rng3 (.bin .Sub (.var 1) (.num 1)) (.num 0) (.neg (.num 1))) (.seq (.asg 4 (.lst (.cons (.bin .Add (.var 3) (.num 1)) .nil))) (.seq (.while_ (.tcmp .NotEq (.idx (.var 4) (.neg (.num 1))) (.var 1)) (.seq (.asg 5 (.idx (.var 2) (.idx (.var 4) (.neg (.num 1))))) (.seq (.app 4 (.idx (.var 5) (.bin .Mod (.var 3) (.bi .len (.cons (.var 5) .nil))))) .skip))) (.seq (.setx 2 (.var 3) (.var 4)) .skip)))) (.seq (.ret (.mv 2)) .skip))))
def f_rows_in : Fn := ⟨1, 7, b_rows_in, []⟩
/-- product_in(rows 0, one 1, other 2) -/
def b_product_in : S := (.seq (.ret (.idx (.idx (.var 0) (.var 1)) (.bin .Mod (.bin .Sub (.var 2) (.num 1)) (.bi .len (.cons (.idx (.var 0) (.var 1)) .nil))))) .skip)
def f_product_in : Fn := ⟨3, 3, b_product_in, []⟩
/-- sure_level(thing 0) -/
def b_sure_level : S := (.seq (.ret (.call "sure_number" (.cons (.var 0) (.cons (.num 0) (.cons (.cst "MOST_LEVEL" 12) .nil))))) .skip)
def f_sure_level : Fn := ⟨1, 1, b_sure_level, []⟩
/-- sure_in(level 0, thing 1) -/
def b_sure_in : S := (.seq (.ret (.call "sure_number" (.cons (.var 1) (.cons (.num 1) (.cons (.bin .LShift (.num 1) (.var 0)) .nil))))) .skip)
def f_sure_in : Fn := ⟨2, 2, b_sure_in, []⟩
/-- sure_all_in(level 0, thing 1, own 2, its 3) -/
def b_sure_all_in : S := (.seq (.asg 2 (.call "tupled" (.cons (.var 1) .nil))) (.seq (.if_ (.tor (.tnot (.tt (.isi (.var 2) [.tuple]))) (.tnot (.tt (.bi .all (.cons (.comp (.call "is_among" (.cons (.var 3) (.cons (.num 1) (.cons (.bin .LShift (.num 1) (.var 0)) .nil)))) (.nm 3) (.it (.var 2)) .tyes [3]) .nil))))) .never .skip) (.seq (.ret (.mv 2)) .skip)))
def f_sure_all_in : Fn := ⟨2, 4, b_sure_all_in, []⟩
/-- whole_in(level 0, last 1, one 2, rows 3, found 4, other 5) -/
def b_whole_in : S := (.seq (.par 3 4 (.call "rows_in" (.cons (.var 0) .nil)) (.lst .nil)) (.seq (.asg 1 (.bin .LShift (.num 1) (.var 0))) (.seq (.for_ (.nm 2) (.rng2 (.num 1) (.bin .Add (.var 1) (.num 1))) (.seq (.app 4 (.bi .tuple (.cons (.comp (.call "product_in" (.cons (.var 3) (.cons (.var 2) (.cons (.var 5) .nil)))) (.nm 5) (.rng2 (.num 1) (.bin .Add (.var 1) (.num 1))) .tyes [5]) .nil))) .skip)) (.seq (.ret (.bi .tuple (.cons (.var 4) .nil))) .skip))))
def f_whole_in : Fn := ⟨1, 6, b_whole_in, []⟩
/-- times(level 0, one 1, other 2, told 3, near 4) -/
def b_times : S := (.seq (.asg 3 (.call "sure_level" (.cons (.var 0) .nil))) (.seq (.asg 4 (.call "sure_in" (.cons (.var 3) (.cons (.var 1) .nil)))) (.seq (.ret (.call "product_in" (.cons (.call "rows_in" (.cons (.var 3) .nil)) (.cons (.var 4) (.cons (.call "sure_in" (.cons (.var 3) (.cons (.var 2) .nil))) .nil))))) .skip)))
def f_times : Fn := ⟨3, 5, b_times, []⟩
/-- table_row(level 0, one 1, told 2, near 3) -/
def b_table_row : S := (.seq (.asg 2 (.call "sure_level" (.cons (.var 0) .nil))) (.seq (.asg 3 (.call "sure_in" (.cons (.var 2) (.cons (.var 1) .nil)))) (.seq (.ret (.bi .tuple (.cons (.idx (.call "rows_in" (.cons (.var 2) .nil)) (.var 3)) .nil))) .skip)))
def f_table_row : Fn := ⟨2, 4, b_table_row, []⟩
/-- period(level 0, one 1) -/
def b_period : S := (.seq (.ret (.bi .len (.cons (.call "table_row" (.cons (.var 0) (.cons (.var 1) .nil))) .nil))) .skip)
def f_period : Fn := ⟨2, 2, b_period, []⟩
/-- whole_table(level 0) -/
def b_whole_table : S := (.seq (.if_ (.tcmp .Gt (.call "sure_level" (.cons (.var 0) .nil)) (.cst "MOST_WHOLE" 6)) .never .skip) (.seq (.ret (.call "whole_in" (.cons (.var 0) .nil))) .skip))
def f_whole_table : Fn := ⟨1, 1, b_whole_table, []⟩
/-- spreads_at(level 0, one 1, other 2, third 3, told 4, near 5, mid 6, far 7, rows 8, left 9) -/
def b_spreads_at : S := (.seq (.asg 4 (.call "sure_level" (.cons (.var 0) .nil))) (.seq (.asg 5 (.call "sure_in" (.cons (.var 4) (.cons (.var 1) .nil)))) (.seq (.asg 6 (.call "sure_in" (.cons (.var 4) (.cons (.var 2) .nil)))) (.seq (.asg 7 (.call "sure_in" (.cons (.var 4) (.cons (.var 3) .nil)))) (.seq (.asg 8 (.call "rows_in" (.cons (.var 4) .nil))) (.seq (.asg 9 (.call "product_in" (.cons (.var 8) (.cons (.var 5) (.cons (.call "product_in" (.cons (.var 8) (.cons (.var 6) (.cons (.var 7) .nil)))) .nil))))) (.seq (.ret (.tup (.cons (.var 9) (.cons (.call "product_in" (.cons (.var 8) (.cons (.call "product_in" (.cons (.var 8) (.cons (.var 5) (.cons (.var 6) .nil)))) (.cons (.call "product_in" (.cons (.var 8) (.cons (.var 5) (.cons (.var 7) .nil)))) .nil)))) .nil)))) .skip)))))))
def f_spreads_at : Fn := ⟨4, 10, b_spreads_at, []⟩
/-- both_in(level 0, rows 1, one 2, other 3, last 4) -/
def b_both_in : S := (.seq (.asg 4 (.bin .LShift (.num 1) (.var 0))) (.seq (.ret (.bin .Add (.bin .Mod (.bin .Sub (.call "product_in" (.cons (.var 1) (.cons (.var 2) (.cons (.bin .Add (.bin .Mod (.var 3) (.var 4)) (.num 1)) .nil)))) (.num 2)) (.var 4)) (.num 1))) .skip))
def f_both_in : Fn := ⟨4, 5, b_both_in, []⟩
/-- both(level 0, one 1, other 2, told 3, near 4) -/
def b_both : S := (.seq (.asg 3 (.call "sure_level" (.cons (.var 0) .nil))) (.seq (.asg 4 (.call "sure_in" (.cons (.var 3) (.cons (.var 1) .nil)))) (.seq (.ret (.call "both_in" (.cons (.var 3) (.cons (.call "rows_in" (.cons (.var 3) .nil)) (.cons (.var 4) (.cons (.call "sure_in" (.cons (.var 3) (.cons (.var 2) .nil))) .nil)))))) .skip)))
def f_both : Fn := ⟨3, 5, b_both, []⟩
/-- both_table(level 0, told 1, found 2, one 3, rows 4, last 5, other 6) -/
def b_both_table : S := (.seq (.asg 1 (.call "sure_level" (.cons (.var 0) .nil))) (.seq (.if_ (.tcmp .Gt (.var 1) (.cst "MOST_TABLE" 6)) .never .skip) (.seq (.par 4 5 (.call "rows_in" (.cons (.var 1) .nil)) (.bin .LShift (.num 1) (.var 1))) (.seq (.asg 2 (.lst .nil)) (.seq (.for_ (.nm 3) (.rng2 (.num 1) (.bin .Add (.var 5) (.num 1))) (.seq (.app 2 (.bi .tuple (.cons (.comp (.call "both_in" (.cons (.var 1) (.cons (.var 4) (.cons (.var 3) (.cons (.var 6) .nil))))) (.nm 6) (.rng2 (.num 1) (.bin .Add (.var 5) (.num 1))) .tyes [6]) .nil))) .skip)) (.seq (.ret (.bi .tuple (.cons (.var 2) .nil))) .skip))))))
def f_both_table : Fn := ⟨1, 7, b_both_table, []⟩
/-- folded(level 0, numbers 1, rows 2, found 3, own 4) -/
def b_folded : S := (.seq (.asg 2 (.call "rows_in" (.cons (.var 0) .nil))) (.seq (.asg 3 (.bin .LShift (.num 1) (.var 0))) (.seq (.for_ (.nm 4) (.it (.var 1)) (.seq (.asg 3 (.call "both_in" (.cons (.var 0) (.cons (.var 2) (.cons (.var 3) (.cons (.var 4) .nil)))))) .skip)) (.seq (.ret (.mv 3)) .skip))))
def f_folded : Fn := ⟨2, 5, b_folded, []⟩
/-- all_both(level 0, numbers 1, told 2) -/
def b_all_both : S := (.seq (.asg 2 (.call "sure_level" (.cons (.var 0) .nil))) (.seq (.ret (.call "folded" (.cons (.var 2) (.cons (.call "sure_all_in" (.cons (.var 2) (.cons (.var 1) .nil))) .nil)))) .skip))
def f_all_both : Fn := ⟨2, 3, b_all_both, []⟩
/-- both_times(level 0, one 1, many 2, told 3, own 4) -/
def b_both_times : S := (.seq (.asg 3 (.call "sure_level" (.cons (.var 0) .nil))) (.seq (.asg 4 (.call "sure_in" (.cons (.var 3) (.cons (.var 1) .nil)))) (.seq (.ret (.call "folded" (.cons (.var 3) (.cons (.bin .Mult (.lst (.cons (.var 4) .nil)) (.call "sure_number" (.cons (.var 2) (.cons (.num 0) (.cons (.cst "MOST_TIMES" 1000) .nil))))) .nil)))) .skip)))
def f_both_times : Fn := ⟨3, 5, b_both_times, []⟩
/-- is_both(level 0, one 1, other 2, thing 3, found 4) -/
def b_is_both : S := (.seq (.asg 4 (.call "both" (.cons (.var 0) (.cons (.var 1) (.cons (.var 2) .nil))))) (.seq (.ret (.and_ (.call "is_number" (.cons (.var 3) .nil)) (.cmp .Eq (.var 3) (.var 4)))) .skip))
def f_is_both : Fn := ⟨4, 5, b_is_both, []⟩
/-- laws_of_both(level 0, one 1, other 2, third 3, told 4, a 5, b 6, c 7, rows 8, one_pair 9, two_pair 10, three_pair 11, pair 12, ahead 13, behind 14, last 15) -/
def b_laws_of_both : S := (.seq (.asg 4 (.call "sure_level" (.cons (.var 0) .nil))) (.seq (.asg 5 (.call "sure_in" (.cons (.var 4) (.cons (.var 1) .nil)))) (.seq (.asg 6 (.call "sure_in" (.cons (.var 4) (.cons (.var 2) .nil)))) (.seq (.asg 7 (.call "sure_in" (.cons (.var 4) (.cons (.var 3) .nil)))) (.seq (.asg 8 (.call "rows_in" (.cons (.var 4) .nil))) (.seq (.par 12 13 (.call "both_in" (.cons (.var 4) (.cons (.var 8) (.cons (.var 5) (.cons (.var 6) .nil))))) (.call "product_in" (.cons (.var 8) (.cons (.var 5) (.cons (.var 6) .nil))))) (.seq (.par 14 15 (.call "both_in" (.cons (.var 4) (.cons (.var 8) (.cons (.var 6) (.cons (.var 7) .nil))))) (.call "product_in" (.cons (.var 8) (.cons (.var 5) (.cons (.var 7) .nil))))) (.seq (.asg 9 (.tup (.cons (.call "both_in" (.cons (.var 4) (.cons (.var 8) (.cons (.var 12) (.cons (.var 7) .nil))))) (.cons (.call "both_in" (.cons (.var 4) (.cons (.var 8) (.cons (.var 5) (.cons (.var 14) .nil))))) .nil)))) (.seq (.asg 10 (.tup (.cons (.call "product_in" (.cons (.var 8) (.cons (.var 12) (.cons (.var 7) .nil)))) (.cons (.call "product_in" (.cons (.var 8) (.cons (.var 5) (.cons (.call "product_in" (.cons (.var 8) (.cons (.var 6) (.cons (.var 7) .nil)))) .nil)))) .nil)))) (.seq (.asg 11 (.tup (.cons (.call "product_in" (.cons (.var 8) (.cons (.var 5) (.cons (.var 14) .nil)))) (.cons (.call "both_in" (.cons (.var 4) (.cons (.var 8) (.cons (.var 13) (.cons (.var 15) .nil))))) .nil)))) (.seq (.ret (.tup (.cons (.var 9) (.cons (.var 10) (.cons (.var 11) (.cons (.tup (.cons (.var 12) (.cons (.call "both_in" (.cons (.var 4) (.cons (.var 8) (.cons (.var 13) (.cons (.var 5) .nil))))) .nil))) .nil)))))) .skip)))))))))))
def f_laws_of_both : Fn := ⟨4, 16, b_laws_of_both, []⟩
/-- fixed_by(level 0, one 1, told 2, own 3, rows 4, its 5) -/
def b_fixed_by : S := (.seq (.asg 2 (.call "sure_level" (.cons (.var 0) .nil))) (.seq (.asg 3 (.call "sure_in" (.cons (.var 2) (.cons (.var 1) .nil)))) (.seq (.asg 4 (.call "rows_in" (.cons (.var 2) .nil))) (.seq (.ret (.bi .tuple (.cons (.comp (.var 5) (.nm 5) (.rng2 (.num 1) (.bin .Add (.bin .LShift (.num 1) (.var 2)) (.num 1))) (.tcmp .Eq (.call "product_in" (.cons (.var 4) (.cons (.var 3) (.cons (.var 5) .nil)))) (.var 5)) [5]) .nil))) .skip))))
def f_fixed_by : Fn := ⟨2, 6, b_fixed_by, []⟩
/-- sure_listed(level 0, told 1) -/
def b_sure_listed : S := (.seq (.asg 1 (.call "sure_level" (.cons (.var 0) .nil))) (.seq (.if_ (.tcmp .Gt (.var 1) (.cst "MOST_LISTED" 10)) .never .skip) (.seq (.ret (.mv 1)) .skip)))
def f_sure_listed : Fn := ⟨1, 2, b_sure_listed, []⟩
/-- periods(level 0, row 1) -/
def b_periods : S := (.seq (.ret (.bi .tuple (.cons (.comp (.bi .len (.cons (.var 1) .nil)) (.nm 1) (.it (.slc (.call "rows_in" (.cons (.call "sure_listed" (.cons (.var 0) .nil)) .nil)) (.it (.num 1)) .nob)) .tyes [1]) .nil))) .skip)
def f_periods : Fn := ⟨1, 2, b_periods, []⟩
/-- divided(level 0, one 1, goal 2, told 3, own 4, end 5, row 6) -/
def b_divided : S := (.seq (.asg 3 (.call "sure_level" (.cons (.var 0) .nil))) (.seq (.asg 4 (.call "sure_in" (.cons (.var 3) (.cons (.var 1) .nil)))) (.seq (.asg 5 (.call "sure_in" (.cons (.var 3) (.cons (.var 2) .nil)))) (.seq (.asg 6 (.idx (.call "rows_in" (.cons (.var 3) .nil)) (.var 4))) (.seq (.ret (.ife (.tcmp .In (.var 5) (.var 6)) (.bin .Add (.mt .index (.var 6) (.cons (.var 5) .nil)) (.num 1)) .non)) .skip)))))
def f_divided : Fn := ⟨3, 7, b_divided, []⟩
/-- comes_behind(level 0, one 1, goal 2) -/
def b_comes_behind : S := (.seq (.ret (.cmp .IsNot (.call "divided" (.cons (.var 0) (.cons (.var 1) (.cons (.var 2) .nil)))) .non)) .skip)
def f_comes_behind : Fn := ⟨3, 3, b_comes_behind, []⟩
/-- sure_below(level 0) -/
def b_sure_below : S := (.seq (.ret (.call "sure_number" (.cons (.var 0) (.cons (.num 0) (.cons (.cst "MOST_BELOW" 11) .nil))))) .skip)
def f_sure_below : Fn := ⟨1, 1, b_sure_below, []⟩
/-- lowered_in(level 0, number 1) -/
def b_lowered_in : S := (.seq (.ret (.bin .Add (.bin .Mod (.bin .Sub (.var 1) (.num 1)) (.bin .LShift (.num 1) (.var 0))) (.num 1))) .skip)
def f_lowered_in : Fn := ⟨2, 2, b_lowered_in, []⟩
/-- lowered(level 0, number 1, told 2) -/
def b_lowered : S := (.seq (.asg 2 (.call "sure_below" (.cons (.var 0) .nil))) (.seq (.ret (.call "lowered_in" (.cons (.var 2) (.cons (.call "sure_number" (.cons (.var 1) (.cons (.num 1) (.cons (.cst "MOST_NUMBER" 4096) .nil)))) .nil)))) .skip))
def f_lowered : Fn := ⟨2, 3, b_lowered, []⟩
/-- is_bush_in(thing 0) -/
def b_is_bush_in : S := (.seq (.if_ (.tnot (.tt (.isi (.var 0) [.tuple]))) (.seq (.ret (.bl false)) .skip) .skip) (.seq (.ret (.or_ (.cmp .Eq (.var 0) (.tup .nil)) (.and_ (.call "is_long" (.cons (.var 0) (.cons (.num 2) .nil))) (.and_ (.call "is_bush_in" (.cons (.idx (.var 0) (.num 0)) .nil)) (.call "is_bush_in" (.cons (.idx (.var 0) (.num 1)) .nil)))))) .skip))
def f_is_bush_in : Fn := ⟨1, 1, b_is_bush_in, []⟩
/-- sure_bush(thing 0, own 1) -/
def b_sure_bush : S := (.seq (.asg 1 (.call "tupled" (.cons (.var 0) .nil))) (.seq (.if_ (.tnot (.tt (.call "is_bush_in" (.cons (.var 1) .nil)))) .never .skip) (.seq (.ret (.mv 1)) .skip)))
def f_sure_bush : Fn := ⟨1, 2, b_sure_bush, []⟩
/-- worth_by(rows 0, bush 1) -/
def b_worth_by : S := (.seq (.ret (.ife (.tcmp .Eq (.var 1) (.tup .nil)) (.num 1) (.call "product_in" (.cons (.var 0) (.cons (.call "worth_by" (.cons (.var 0) (.cons (.idx (.var 1) (.num 0)) .nil))) (.cons (.call "worth_by" (.cons (.var 0) (.cons (.idx (.var 1) (.num 1)) .nil))) .nil)))))) .skip)
def f_worth_by : Fn := ⟨2, 2, b_worth_by, []⟩
/-- worth(level 0, bush 1, told 2) -/
def b_worth : S := (.seq (.asg 2 (.call "sure_level" (.cons (.var 0) .nil))) (.seq (.ret (.call "worth_by" (.cons (.call "rows_in" (.cons (.var 2) .nil)) (.cons (.call "sure_bush" (.cons (.var 1) .nil)) .nil)))) .skip))
def f_worth : Fn := ⟨2, 3, b_worth, []⟩
/-- _law_box(script 0, k 1, bit_so 2) -/
def b__law_box : S := (.seq (.asg 2 (.ife (.tcmp .Lt (.var 1) (.bi .len (.cons (.var 0) .nil))) (.idx (.var 0) (.var 1)) (.num 0))) (.seq (.ret (.lst (.cons (.bin .Mult (.bi .abs (.cons (.var 2) .nil)) (.bi .int (.cons (.cmp .GtE (.bi .abs (.cons (.var 2) .nil)) (.bin .Pow (.num 10) (.num 18))) .nil))) (.cons (.bin .Add (.bin .Add (.bin .Mod (.bi .int (.cons (.var 2) .nil)) (.num 2305843009213693951)) (.bin .Mult (.num 39373) (.var 1))) (.num 9285072)) (.cons (.num 0) .nil))))) .skip))
def f__law_box : Fn := ⟨2, 3, b__law_box, []⟩
/-- _law_take(tin 0, below_so 1, once_so 2, wide_so 3, twice_so 4, drawn_so 5) -/
def b__law_take : S := (.seq (.if_ (.tcmp .Gt (.idx (.var 0) (.num 0)) (.num 0)) (.seq (.asg 5 (.bin .Mod (.bi .int (.cons (.idx (.var 0) (.num 0)) .nil)) (.var 1))) (.seq (.setx 0 (.num 0) (.bin .FloorDiv (.idx (.var 0) (.num 0)) (.var 1))) (.seq (.ret (.mv 5)) .skip))) .skip) (.seq (.setx 0 (.num 2) (.bin .Add (.idx (.var 0) (.num 2)) (.num 1))) (.seq (.asg 2 (.bin .Mod (.bi .int (.cons (.bin .Mult (.bin .Add (.idx (.var 0) (.num 1)) (.bin .Mult (.num 48271) (.idx (.var 0) (.num 2)))) (.bin .Add (.num 39373) (.idx (.var 0) (.num 2)))) .nil)) (.num 2147483647))) (.seq (.asg 3 (.bin .Add (.bin .Mod (.bi .int (.cons (.var 2) .nil)) (.num 40009)) (.num 7))) (.seq (.asg 4 (.bin .Mod (.bi .int (.cons (.bin .Mult (.bin .Add (.bin .Add (.var 2) (.idx (.var 0) (.num 2))) (.bin .FloorDiv (.idx (.var 0) (.num 1)) (.num 1000003))) (.var 3)) .nil)) (.num 2147483629))) (.seq (.ret (.bin .Mod (.bi .int (.cons (.bin .FloorDiv (.bin .Mod (.bi .int (.cons (.bin .Add (.bin .Mult (.var 4) (.num 48271)) (.var 2)) .nil)) (.num 2147483587)) (.num 64)) .nil)) (.var 1))) .skip))))))
def f__law_take : Fn := ⟨2, 6, b__law_take, []⟩
/-- _law_cells(script 0, most_so 1, cells_so 2, k 3, bit_so 4, at_so 5) -/
def b__law_cells : S := (.seq (.asg 2 (.or_ (.bi .list (.cons (.slc (.var 0) .nob (.it (.var 1))) .nil)) (.lst (.cons (.num 0) .nil)))) (.seq (.for_ (.tp (.cons (.nm 3) (.cons (.nm 4) .nil))) (.enum (.slc (.var 0) (.it (.var 1)) (.it (.num 63)))) (.seq (.asg 5 (.bin .Mod (.bi .int (.cons (.var 3) .nil)) (.var 1))) (.seq (.setx 2 (.var 5) (.bin .Add (.idx (.var 2) (.var 5)) (.bin .Mult (.var 4) (.bin .Add (.var 3) (.num 2))))) .skip))) (.seq (.ret (.mv 2)) .skip)))
def f__law_cells : Fn := ⟨2, 6, b__law_cells, []⟩
/-- _law_same(got 0, due 1, mine 2, its 3) -/
def b__law_same : S := (.seq (.if_ (.tt (.isi (.var 1) [.list, .tuple])) (.seq (.if_ (.tor (.tcmp .NotEq (.isi (.var 0) [.list]) (.isi (.var 1) [.list])) (.tcmp .NotEq (.isi (.var 0) [.tuple]) (.isi (.var 1) [.tuple]))) (.seq (.ret (.bl false)) .skip) .skip) (.seq (.ret (.and_ (.cmp .Eq (.bi .len (.cons (.var 0) .nil)) (.bi .len (.cons (.var 1) .nil))) (.bi .all (.cons (.comp (.call "_law_same" (.cons (.var 2) (.cons (.var 3) .nil))) (.tp (.cons (.nm 2) (.cons (.nm 3) .nil))) (.zip (.var 0) (.var 1)) .tyes [2, 3]) .nil)))) .skip)) .skip) (.seq (.if_ (.tcmp .Is (.var 1) .non) (.seq (.ret (.cmp .Is (.var 0) .non)) .skip) .skip) (.seq (.if_ (.tt (.isi (.var 1) [.bool, .str])) (.seq (.ret (.and_ (.cmp .Eq (.isi (.var 0) [.bool]) (.isi (.var 1) [.bool])) (.and_ (.cmp .Eq (.isi (.var 0) [.str]) (.isi (.var 1) [.str])) (.cmp .Eq (.var 0) (.var 1))))) .skip) .skip) (.seq (.ret (.and_ (.isi (.var 0) [.int]) (.and_ (.not_ (.isi (.var 0) [.bool])) (.cmp .Eq (.var 0) (.var 1))))) .skip))))
def f__law_same : Fn := ⟨2, 4, b__law_same, []⟩
/-- _law_net(tin 0, many_so 1, pool_so 2, lap 3, k 4) -/
def b__law_net : S := (.seq (.asg 2 (.bin .Mult (.lst (.cons (.tup .nil) .nil)) (.var 1))) (.seq (.for_ (.nm 3) (.rng1 (.bin .Sub (.var 1) (.num 1))) (.seq (.asg 4 (.call "_law_take" (.cons (.var 0) (.cons (.bin .Sub (.bi .len (.cons (.var 2) .nil)) (.num 1)) .nil)))) (.seq (.asg 2 (.bin .Add (.bin .Add (.slc (.var 2) .nob (.it (.var 4))) (.lst (.cons (.tup (.cons (.idx (.var 2) (.var 4)) (.cons (.idx (.var 2) (.bin .Add (.var 4) (.num 1))) .nil))) .nil))) (.slc (.var 2) (.it (.bin .Add (.var 4) (.num 2))) .nob))) .skip))) (.seq (.ret (.idx (.var 2) (.num 0))) .skip)))
def f__law_net : Fn := ⟨2, 5, b__law_net, []⟩
/-- _law_table(level_so 0, last_so 1, rows_so 2, a 3, row_so 4, b 5) -/
def b__law_table : S := (.seq (.asg 1 (.bin .LShift (.num 1) (.var 0))) (.seq (.asg 2 (.bin .Mult (.lst (.cons .non .nil)) (.bin .Add (.var 1) (.num 1)))) (.seq (.setx 2 (.var 1) (.lrg false (.rng1 (.bin .Add (.var 1) (.num 1))))) (.seq (.for_ (.nm 3) (.rng3 (.bin .Sub (.var 1) (.num 1)) (.num 0) (.neg (.num 1))) (.seq (.asg 4 (.lst (.cons (.num 0) (.cons (.bin .Add (.var 3) (.num 1)) .nil)))) (.seq (.for_ (.nm 5) (.rng2 (.num 1) (.var 1)) (.seq (.app 4 (.idx (.idx (.var 2) (.idx (.var 4) (.var 5))) (.bin .Add (.var 3) (.num 1)))) .skip)) (.seq (.setx 2 (.var 3) (.var 4)) .skip)))) (.seq (.ret (.mv 2)) .skip)))))
def f__law_table : Fn := ⟨1, 6, b__law_table, []⟩
/-- _law_more_right(tin 0, both_so 1, last_so 2, level_so 3, one 4, other 5, table_so 6, third 7, sides_so 8, low_so 9, got 10, due 11, rows_so 12, fixes_so 13, k 14, bad_so 15, a 16, near 17, far 18, net 19, b 20, own 21, wide_so 22, bothes_so 23, lap 24, c 25) -/
def b__law_more_right : S := (.seq (.asg 8 (.call "laws_of_both" (.cons (.var 3) (.cons (.var 4) (.cons (.var 5) (.cons (.var 7) .nil)))))) (.seq (.asg 9 (.call "_law_take" (.cons (.var 0) (.cons (.bin .Add (.var 3) (.num 1)) .nil)))) (.seq (.asg 10 (.lst (.cons (.comp (.cmp .Eq (.var 16) (.var 20)) (.tp (.cons (.nm 16) (.cons (.nm 20) .nil))) (.it (.var 8)) .tyes [16, 20]) (.cons (.idx (.var 8) (.num 3)) (.cons (.call "lowered" (.cons (.var 9) (.cons (.var 1) .nil))) (.cons (.cmp .Eq (.idx (.call "spreads_at" (.cons (.var 3) (.cons (.var 4) (.cons (.var 5) (.cons (.var 7) .nil))))) (.num 0)) (.call "times" (.cons (.var 3) (.cons (.call "both" (.cons (.var 3) (.cons (.var 4) (.cons (.var 5) .nil)))) (.cons (.var 7) .nil))))) .nil)))))) (.seq (.asg 11 (.lst (.cons (.bin .Mult (.lst (.cons (.bl true) .nil)) (.num 4)) (.cons (.tup (.cons (.var 1) (.cons (.call "both" (.cons (.var 3) (.cons (.idx (.idx (.var 6) (.var 4)) (.var 5)) (.cons (.var 4) .nil)))) .nil))) (.cons (.call "both" (.cons (.var 9) (.cons (.call "lowered" (.cons (.var 9) (.cons (.var 4) .nil))) (.cons (.call "lowered" (.cons (.var 9) (.cons (.var 5) .nil))) .nil)))) (.cons (.bl true) .nil)))))) (.seq (.if_ (.tnot (.tt (.call "_law_same" (.cons (.var 10) (.cons (.var 11) .nil))))) (.seq (.ret (.bl false)) .skip) .skip) (.seq (.asg 12 (.comp (.call "table_row" (.cons (.var 3) (.cons (.var 21) .nil))) (.nm 21) (.it (.tup (.cons (.var 4) (.cons (.var 5) (.cons (.var 1) .nil))))) .tyes [21])) (.seq (.asg 13 (.comp (.call "fixed_by" (.cons (.var 3) (.cons (.var 21) .nil))) (.nm 21) (.it (.tup (.cons (.var 4) (.cons (.var 5) .nil)))) .tyes [21])) (.seq (.asg 10 (.lst (.cons (.comp (.var 21) (.nm 21) (.it (.idx (.var 12) (.num 2))) (.tcmp .NotIn (.var 21) (.idx (.var 12) (.num 0))) [21]) (.cons (.cmp .LtE (.bi .len (.cons (.idx (.var 12) (.num 2)) .nil)) (.bi .min2 (.cons (.bi .len (.cons (.idx (.var 12) (.num 0)) .nil)) (.cons (.bi .len (.cons (.idx (.var 12) (.num 1)) .nil)) .nil)))) .nil)))) (.seq (.asg 10 (.bin .Add (.var 10) (.lst (.cons (.comp (.var 21) (.nm 21) (.it (.idx (.var 13) (.num 0))) (.tand (.tcmp .In (.var 21) (.idx (.var 13) (.num 1))) (.tcmp .NotIn (.var 21) (.call "fixed_by" (.cons (.var 3) (.cons (.var 1) .nil))))) [21]) (.cons (.call "comes_behind" (.cons (.var 3) (.cons (.var 4) (.cons (.idx (.idx (.var 12) (.num 2)) (.num 0)) .nil)))) (.cons (.call "period" (.cons (.var 3) (.cons (.var 1) .nil))) .nil)))))) (.seq (.if_ (.tnot (.tt (.call "_law_same" (.cons (.var 10) (.cons (.lst (.cons (.lst .nil) (.cons (.bl true) (.cons (.lst .nil) (.cons (.bl true) (.cons (.bi .len (.cons (.idx (.var 12) (.num 2)) .nil)) .nil)))))) .nil))))) (.seq (.ret (.bl false)) .skip) .skip) (.seq (.asg 14 (.call "divided" (.cons (.var 3) (.cons (.var 4) (.cons (.call "times" (.cons (.var 3) (.cons (.var 1) (.cons (.var 7) .nil)))) .nil))))) (.seq (.if_ (.tnot (.tt (.call "_law_same" (.cons (.lst (.cons (.call "times" (.cons (.var 3) (.cons (.var 4) (.cons (.var 14) .nil)))) (.cons (.cmp .LtE (.var 14) (.call "period" (.cons (.var 3) (.cons (.var 4) .nil)))) .nil))) (.cons (.lst (.cons (.call "times" (.cons (.var 3) (.cons (.var 1) (.cons (.var 7) .nil)))) (.cons (.bl true) .nil))) .nil))))) (.seq (.ret (.bl false)) .skip) .skip) (.seq (.if_ (.tcmp .Lt (.var 3) (.num 5)) (.seq (.par 22 23 (.call "whole_table" (.cons (.var 3) .nil)) (.call "both_table" (.cons (.var 3) .nil))) (.seq (.asg 15 (.lst .nil)) (.seq (.for_ (.nm 16) (.rng1 (.var 2)) (.seq (.for_ (.nm 20) (.rng1 (.var 2)) (.seq (.if_ (.tcmp .NotEq (.comp (.idx (.idx (.var 22) (.var 16)) (.bin .Sub (.idx (.idx (.var 22) (.var 20)) (.var 25)) (.num 1))) (.nm 25) (.rng1 (.var 2)) .tyes [25]) (.bi .list (.cons (.idx (.var 22) (.bin .Sub (.idx (.idx (.var 23) (.var 16)) (.var 20)) (.num 1))) .nil))) (.seq (.app 15 (.tup (.cons (.var 16) (.cons (.var 20) .nil)))) .skip) .skip) .skip)) .skip)) (.seq (.if_ (.tnot (.tt (.call "_law_same" (.cons (.lst (.cons (.var 15) (.cons (.idx (.idx (.var 23) (.bin .Sub (.var 4) (.num 1))) (.bin .Sub (.var 5) (.num 1))) (.cons (.comp (.bi .len (.cons (.var 21) .nil)) (.nm 21) (.it (.var 23)) .tyes [21]) (.cons (.bi .len (.cons (.call "periods" (.cons (.var 3) .nil)) .nil)) .nil))))) (.cons (.lst (.cons (.lst .nil) (.cons (.var 1) (.cons (.bin .Mult (.lst (.cons (.var 2) .nil)) (.var 2)) (.cons (.var 2) .nil))))) .nil))))) (.seq (.ret (.bl false)) .skip) .skip) .skip)))) .skip) (.seq (.asgT (.tp (.cons (.nm 17) (.cons (.nm 18) (.cons (.nm 19) .nil)))) (.comp (.call "_law_net" (.cons (.var 0) (.cons (.bin .Add (.num 1) (.call "_law_take" (.cons (.var 0) (.cons (.num 4) .nil)))) .nil))) (.nm 24) (.rng1 (.num 3)) .tyes [24])) (.seq (.par 16 20 (.call "worth" (.cons (.var 3) (.cons (.var 18) .nil))) (.call "worth" (.cons (.var 3) (.cons (.var 17) .nil)))) (.seq (.ret (.call "_law_same" (.cons (.call "worth" (.cons (.var 3) (.cons (.tup (.cons (.var 18) (.cons (.tup (.cons (.var 17) (.cons (.var 19) .nil))) .nil))) .nil))) (.cons (.call "times" (.cons (.var 3) (.cons (.call "both" (.cons (.var 3) (.cons (.var 16) (.cons (.var 20) .nil)))) (.cons (.call "worth" (.cons (.var 3) (.cons (.var 19) .nil))) .nil)))) .nil)))) .skip))))))))))))))))
def f__law_more_right : Fn := ⟨8, 26, b__law_more_right, []⟩
/-- _law_right(tin 0, level_so 1, last_so 2, table_so 3, both_so 4, due 5, alikes_so 6, got 7, row_so 8, goal_so 9, own 10, whole_so 11, many_so 12, lap 13, one 14, other 15, third 16, here_so 17, spot 18, k 19) -/
def b__law_right : S := (.seq (.asg 1 (.call "_law_take" (.cons (.var 0) (.cons (.num 7) .nil)))) (.seq (.asg 2 (.bin .LShift (.num 1) (.var 1))) (.seq (.asg 3 (.call "_law_table" (.cons (.var 1) .nil))) (.seq (.asgT (.tp (.cons (.nm 14) (.cons (.nm 15) (.cons (.nm 16) .nil)))) (.comp (.bin .Add (.num 1) (.call "_law_take" (.cons (.var 0) (.cons (.var 2) .nil)))) (.nm 13) (.rng1 (.num 3)) .tyes [13])) (.seq (.asg 4 (.call "both" (.cons (.var 1) (.cons (.var 14) (.cons (.var 15) .nil))))) (.seq (.asg 5 (.comp (.idx (.idx (.var 3) (.var 14)) (.idx (.idx (.var 3) (.var 15)) (.var 19))) (.nm 19) (.rng2 (.num 1) (.bin .Add (.var 2) (.num 1))) .tyes [19])) (.seq (.asg 6 (.comp (.var 19) (.nm 19) (.rng2 (.num 1) (.bin .Add (.var 2) (.num 1))) (.tcmp .Eq (.slc (.idx (.var 3) (.var 19)) (.it (.num 1)) .nob) (.var 5)) [19])) (.seq (.asg 7 (.lst (.cons (.var 6) (.cons (.comp (.call "times" (.cons (.var 1) (.cons (.var 4) (.cons (.var 19) .nil)))) (.nm 19) (.rng2 (.num 1) (.bin .Add (.var 2) (.num 1))) .tyes [19]) (.cons (.comp (.call "is_both" (.cons (.var 1) (.cons (.var 14) (.cons (.var 15) (.cons (.var 19) .nil))))) (.nm 19) (.rng2 (.num 1) (.bin .Add (.var 2) (.num 1))) .tyes [19]) (.cons (.call "is_both" (.cons (.var 1) (.cons (.var 14) (.cons (.var 15) (.cons .non .nil))))) .nil)))))) (.seq (.if_ (.tnot (.tt (.call "_law_same" (.cons (.var 7) (.cons (.lst (.cons (.lst (.cons (.var 4) .nil)) (.cons (.var 5) (.cons (.comp (.cmp .Eq (.var 19) (.var 4)) (.nm 19) (.rng2 (.num 1) (.bin .Add (.var 2) (.num 1))) .tyes [19]) (.cons (.bl false) .nil))))) .nil))))) (.seq (.ret (.bl false)) .skip) .skip) (.seq (.asg 8 (.bi .tuple (.cons (.comp (.bin .Add (.num 1) (.call "_law_take" (.cons (.var 0) (.cons (.var 2) .nil)))) (.nm 13) (.rng1 (.call "_law_take" (.cons (.var 0) (.cons (.num 6) .nil)))) .tyes [13]) .nil))) (.seq (.asg 9 (.var 16)) (.seq (.for_ (.nm 10) (.it (.rev (.var 8))) (.seq (.asg 9 (.idx (.idx (.var 3) (.var 10)) (.var 9))) .skip)) (.seq (.asg 11 (.call "all_both" (.cons (.var 1) (.cons (.var 8) .nil)))) (.seq (.asg 7 (.lst (.cons (.call "times" (.cons (.var 1) (.cons (.var 11) (.cons (.var 16) .nil)))) (.cons (.call "all_both" (.cons (.var 1) (.cons (.bin .Add (.var 8) (.tup (.cons (.var 14) .nil))) .nil))) (.cons (.call "all_both" (.cons (.var 1) (.cons (.bin .Add (.tup (.cons (.var 14) .nil)) (.var 8)) .nil))) (.cons (.call "both" (.cons (.var 1) (.cons (.var 2) (.cons (.var 14) .nil)))) (.cons (.call "both" (.cons (.var 1) (.cons (.var 14) (.cons (.var 2) .nil)))) .nil))))))) (.seq (.asg 7 (.bin .Add (.var 7) (.lst (.cons (.call "all_both" (.cons (.var 1) (.cons (.tup (.cons (.var 4) (.cons (.var 16) .nil))) .nil))) .nil)))) (.seq (.if_ (.tnot (.tt (.call "_law_same" (.cons (.var 7) (.cons (.lst (.cons (.var 9) (.cons (.call "both" (.cons (.var 1) (.cons (.var 11) (.cons (.var 14) .nil)))) (.cons (.call "both" (.cons (.var 1) (.cons (.var 14) (.cons (.var 11) .nil)))) (.cons (.var 14) (.cons (.var 14) (.cons (.call "all_both" (.cons (.var 1) (.cons (.tup (.cons (.var 14) (.cons (.var 15) (.cons (.var 16) .nil)))) .nil))) .nil))))))) .nil))))) (.seq (.ret (.bl false)) .skip) .skip) (.seq (.asg 12 (.call "_law_take" (.cons (.var 0) (.cons (.num 30) .nil)))) (.seq (.par 17 18 (.var 2) (.var 15)) (.seq (.for_ (.nm 13) (.rng1 (.var 12)) (.seq (.par 17 18 (.call "both" (.cons (.var 1) (.cons (.var 17) (.cons (.var 14) .nil)))) (.idx (.idx (.var 3) (.var 14)) (.var 18))) .skip)) (.seq (.asg 7 (.lst (.cons (.call "both_times" (.cons (.var 1) (.cons (.var 14) (.cons (.var 12) .nil)))) (.cons (.call "times" (.cons (.var 1) (.cons (.call "both_times" (.cons (.var 1) (.cons (.var 14) (.cons (.var 12) .nil)))) (.cons (.var 15) .nil)))) (.cons (.call "both" (.cons (.var 1) (.cons (.call "both_times" (.cons (.var 1) (.cons (.var 14) (.cons (.var 12) .nil)))) (.cons (.var 14) .nil)))) .nil))))) (.seq (.asg 7 (.bin .Add (.var 7) (.lst (.cons (.call "both_times" (.cons (.var 1) (.cons (.var 14) (.cons (.num 0) .nil)))) (.cons (.call "both_times" (.cons (.var 1) (.cons (.var 2) (.cons (.var 12) .nil)))) .nil))))) (.seq (.if_ (.tnot (.tt (.call "_law_same" (.cons (.var 7) (.cons (.lst (.cons (.var 17) (.cons (.var 18) (.cons (.call "both_times" (.cons (.var 1) (.cons (.var 14) (.cons (.bin .Add (.var 12) (.num 1)) .nil)))) (.cons (.var 2) (.cons (.var 2) .nil)))))) .nil))))) (.seq (.ret (.bl false)) .skip) .skip) (.seq (.ret (.call "_law_more_right" (.cons (.var 0) (.cons (.var 4) (.cons (.var 2) (.cons (.var 1) (.cons (.var 14) (.cons (.var 15) (.cons (.var 3) (.cons (.var 16) .nil)))))))))) .skip)))))))))))))))))))))))
def f__law_right : Fn := ⟨1, 20, b__law_right, []⟩
/-- law(script 0, cells_so 1, k 2) -/
def b_law : S := (.seq (.asg 1 (.call "_law_cells" (.cons (.var 0) (.cons (.num 2) .nil)))) (.seq (.ret (.bi .all (.cons (.comp (.call "_law_right" (.cons (.call "_law_box" (.cons (.var 1) (.cons (.var 2) .nil))) .nil)) (.nm 2) (.rng1 (.bi .len (.cons (.var 1) .nil))) .tyes [2]) .nil))) .skip))
def f_law : Fn := ⟨1, 3, b_law, []⟩
def progL : List (Str × Fn) := [(("is_number" : Str), f_is_number), (("is_among" : Str), f_is_among), (("is_long" : Str), f_is_long), (("tupled" : Str), f_tupled), (("sure_number" : Str), f_sure_number), (("rows_in" : Str), f_rows_in), (("product_in" : Str), f_product_in), (("sure_level" : Str), f_sure_level), (("sure_in" : Str), f_sure_in), (("sure_all_in" : Str), f_sure_all_in), (("whole_in" : Str), f_whole_in), (("times" : Str), f_times), (("table_row" : Str), f_table_row), (("period" : Str), f_period), (("whole_table" : Str), f_whole_table), (("spreads_at" : Str), f_spreads_at), (("both_in" : Str), f_both_in), (("both" : Str), f_both), (("both_table" : Str), f_both_table), (("folded" : Str), f_folded), (("all_both" : Str), f_all_both), (("both_times" : Str), f_both_times), (("is_both" : Str), f_is_both), (("laws_of_both" : Str), f_laws_of_both), (("fixed_by" : Str), f_fixed_by), (("sure_listed" : Str), f_sure_listed), (("periods" : Str), f_periods), (("divided" : Str), f_divided), (("comes_behind" : Str), f_comes_behind), (("sure_below" : Str), f_sure_below), (("lowered_in" : Str), f_lowered_in), (("lowered" : Str), f_lowered), (("is_bush_in" : Str), f_is_bush_in), (("sure_bush" : Str), f_sure_bush), (("worth_by" : Str), f_worth_by), (("worth" : Str), f_worth), (("_law_box" : Str), f__law_box), (("_law_take" : Str), f__law_take), (("_law_cells" : Str), f__law_cells), (("_law_same" : Str), f__law_same), (("_law_net" : Str), f__law_net), (("_law_table" : Str), f__law_table), (("_law_more_right" : Str), f__law_more_right), (("_law_right" : Str), f__law_right), (("law" : Str), f_law)]
def prog (x : Str) : Option Fn := progL.lookup x
end Ir

namespace Ev
open PySem Pv L2
theorem c_product_in {k : Nat} {rs : List R} : Ph Ir.prog (k + 1) "product_in" rs = runF (Ph Ir.prog k) Ir.f_product_in rs := rfl
theorem c__law_right {k : Nat} {rs : List R} : Ph Ir.prog (k + 1) "_law_right" rs = runF (Ph Ir.prog k) Ir.f__law_right rs := rfl
theorem c__law_take {k : Nat} {rs : List R} : Ph Ir.prog (k + 1) "_law_take" rs = runF (Ph Ir.prog k) Ir.f__law_take rs := rfl
theorem c_is_number {k : Nat} {rs : List R} : Ph Ir.prog (k + 1) "is_number" rs = runF (Ph Ir.prog k) Ir.f_is_number rs := rfl
theorem c_is_among {k : Nat} {rs : List R} : Ph Ir.prog (k + 1) "is_among" rs = runF (Ph Ir.prog k) Ir.f_is_among rs := rfl
theorem e_product_in {k : Nat} {rows row : List D} {one other : Int} {d : D} (h1 : atI rows one = some (.list row)) (h2 : 0 < row.length) (h3 : atI row ((other - 1) % row.length) = some d) :
    Ph Ir.prog (k + 1) "product_in" [.v (.list rows), .v (.int one), .v (.int other)] = some (.v d, [.v (.list rows), .v (.int one), .v (.int other)]) := by
  have h2' : (0 : Int) < row.length := by omega
  rw [c_product_in]
  simp [runF, Ir.f_product_in, Ir.b_product_in, Fn.io, S.st, h1, h2, h2', h3]
theorem e_is_number {k : Nat} {z : Int} : Ph Ir.prog (k + 1) "is_number" [.v (.int z)] = some (.v (.bool true), [.v (.int z)]) := by
  rw [c_is_number]
  simp [runF, Ir.f_is_number, Ir.b_is_number, Fn.io, S.st, isiD]
theorem e_is_among {k : Nat} {z a b : Int} : Ph Ir.prog (k + 2) "is_among" [.v (.int z), .v (.int a), .v (.int b)] = some (.v (.bool (decide (a ≤ z ∧ z ≤ b))), [.v (.int z), .v (.int a), .v (.int b)]) := by
  rw [c_is_among]
  by_cases h : a ≤ z <;> simp [runF, Ir.f_is_among, Ir.b_is_among, Fn.io, S.st, isiD, e_is_number, h]
def TinI (c : Nat) (x y z : Int) : Prop := 0 ≤ x ∧ 0 ≤ y ∧ y < 4611686018427387904 ∧ 0 ≤ z ∧ z ≤ c
abbrev tinD (x y z : Int) : List D := [.int x, .int y, .int z]
theorem e__law_take {k c : Nat} {x y z b : Int} (hc : c < 1000000) (t : TinI c x y z) (hb : 0 < b) (hb2 : b < 1073741824) :
    ∃ v x' z', TinI (c + 1) x' y z' ∧ 0 ≤ v ∧ v < b ∧ Ph Ir.prog (k + 1) "_law_take" [.l (tinD x y z), .v (.int b)] = some (.v (.int v), [.l (tinD x' y z'), .v (.int b)]) := by
  obtain ⟨h1, h2, h3, h4, h5⟩ := t
  rw [c__law_take]
  by_cases hx : 0 < x
  · refine ⟨x % b, x / b, z, ⟨Int.ediv_nonneg h1 (by omega), h2, h3, h4, by omega⟩, Int.emod_nonneg _ (by omega), Int.emod_lt_of_pos _ hb, ?_⟩
    simp [runF, Ir.f__law_take, Ir.b__law_take, Fn.io, S.st, atI, ixN, hx, hb, hb2]
  · have k1 : -18446744073709551616 < 39373 + (z + 1) := by omega
    have k2 : 39373 + (z + 1) < 18446744073709551616 := by omega
    have k3 : ∀ u : Int, -18446744073709551616 < u % 40009 + 7 := fun u => by omega
    have k4 : ∀ u : Int, u % 40009 + 7 < 18446744073709551616 := fun u => by omega
    have w : ∀ u : Int, 0 ≤ u % b ∧ u % b < b := fun u => ⟨Int.emod_nonneg _ (by omega), Int.emod_lt_of_pos _ hb⟩
    have : ∃ v, 0 ≤ v ∧ v < b ∧ runF (Ph Ir.prog k) Ir.f__law_take [.l (tinD x y z), .v (.int b)] = some (.v (.int v), [.l (tinD x y (z + 1)), .v (.int b)]) := by
      simp [runF, Ir.f__law_take, Ir.b__law_take, Fn.io, S.st, atI, ixN, hx, hb, k1, k2, k3, k4]
      exact w _
    obtain ⟨v, v1, v2, e⟩ := this
    exact ⟨v, x, z + 1, ⟨h1, h2, h3, by omega, by omega⟩, v1, v2, e⟩
end Ev

namespace Ev
open PySem Pv L2
theorem c__law_cells {k : Nat} {rs : List R} : Ph Ir.prog (k + 1) "_law_cells" rs = runF (Ph Ir.prog k) Ir.f__law_cells rs := rfl
theorem c__law_box {k : Nat} {rs : List R} : Ph Ir.prog (k + 1) "_law_box" rs = runF (Ph Ir.prog k) Ir.f__law_box rs := rfl
theorem c_law {k : Nat} {rs : List R} : Ph Ir.prog (k + 1) "law" rs = runF (Ph Ir.prog k) Ir.f_law rs := rfl
def iL (ns : List Int) : List D := ns.map PyData.int
@[simp] theorem iL_len (ns : List Int) : (iL ns).length = ns.length := by simp [iL]
theorem iL_get {ns : List Int} {i : Nat} (h : i < ns.length) : (iL ns)[i]? = some (.int ns[i]) := by simp [iL, h]
@[simp] theorem iL_emp (ns : List Int) : (iL ns).isEmpty = ns.isEmpty := by cases ns <;> rfl
theorem e__law_cells {k : Nat} {ns : List Int} (hn : ns.length ≤ 63) : ∃ cs : List Int, cs.length ≤ 2 ∧ Ph Ir.prog (k + 1) "_law_cells" [.s ns, .v (.int 2)] = some (.l (iL cs), [.s ns, .v (.int 2)]) := by
  rw [c__law_cells]
  have hcut : cutA (iL ns) none (some 2) = iL (ns.take 2) := by rw [cut_take (by omega)]; unfold iL; rw [List.map_take]; rfl
  have hcut2 : cutA (iL ns) (some 2) (some 63) = iL ((ns.take 63).drop 2) := by rw [cut_both (by omega) (by omega)]; unfold iL; rw [List.map_drop, List.map_take]; rfl
  obtain ⟨c0, hc0, e0⟩ : ∃ c0 : List Int, (c0.length ≤ 2 ∧ (2 ≤ ns.length → c0.length = 2)) ∧ evE (Ph Ir.prog k) (.or_ (.bi .list (.cons (.slc (.var 0) .nob (.it (.var 1))) .nil)) (.lst (.cons (.num 0) .nil))) [some (.s ns), some (.v (.int 2)), none, none, none, none] = some (.l (iL c0), [some (.s ns), some (.v (.int 2)), none, none, none, none]) := by
    cases ns with
    | nil => exact ⟨[0], ⟨by simp, by simp⟩, by rfl⟩
    | cons a l => exact ⟨(a :: l).take 2, ⟨by simp; omega, by simp; omega⟩, by
      have hm : (a :: l).map PyData.int = iL (a :: l) := rfl
      simp [-List.map_cons, hm, hcut]⟩
  let f : D → Pv.Env → Option (Fl × Pv.Env) := fun d ρ => (bindT (.tp (.cons (.nm 3) (.cons (.nm 4) .nil))) d ρ).bind fun ρ2 => ex (Ph Ir.prog k) (.seq (.asg 5 (.bin .Mod (.bi .int (.cons (.var 3) .nil)) (.var 1))) (.seq (.setx 2 (.var 5) (.bin .Add (.idx (.var 2) (.var 5)) (.bin .Mult (.var 4) (.bin .Add (.var 3) (.num 2))))) .skip)) ρ2
  obtain ⟨ρ', e1, cs, o3, o4, o5, hcs, rfl⟩ := forL_turns (f := f) (fun _ ρ => ∃ (cs : List Int) (o3 o4 o5 : Option R), cs.length = c0.length ∧ ρ = [some (.s ns), some (.v (.int 2)), some (.l (iL cs)), o3, o4, o5]) (enumD (iL ((ns.take 63).drop 2))) 0
    [some (.s ns), some (.v (.int 2)), some (.l (iL c0)), none, none, none] ⟨c0, none, none, none, rfl, rfl⟩ (fun j d ρ hj ⟨cs, o3, o4, o5, hcs, hρ⟩ => by
      subst hρ
      obtain ⟨x, hx, rfl⟩ := enumD_get hj
      rw [iL, List.getElem?_map] at hx
      obtain ⟨z, hz, rfl⟩ := Option.map_eq_some_iff.mp hx
      have lt := (List.getElem?_eq_some_iff.mp hz).1
      rw [List.length_drop, List.length_take] at lt
      have l2 : cs.length = 2 := by rw [hcs]; exact hc0.2 (by omega)
      obtain ⟨u, v, rfl⟩ : ∃ u v, cs = [u, v] := by
        match cs, l2 with
        | [u, v], _ => exact ⟨u, v, rfl⟩
      have b1 : -18446744073709551616 < ((j : Nat) : Int) + 2 := by omega
      have b2 : ((j : Nat) : Int) + 2 < 18446744073709551616 := by omega
      rcases (by omega : ((j : Nat) : Int) % 2 = 0 ∨ ((j : Nat) : Int) % 2 = 1) with q | q
      · exact ⟨_, .inl (by simp [f, q, b1, b2, atI, ixN]; rfl), [u + z * (((j : Nat) : Int) + 2), v], _, _, _, hcs, rfl⟩
      · exact ⟨_, .inl (by simp [f, q, b1, b2, atI, ixN]; rfl), [u, v + z * (((j : Nat) : Int) + 2)], _, _, _, hcs, rfl⟩)
  refine ⟨cs, by omega, ?_⟩
  refine runF_of (ρ0 := [some (.s ns), some (.v (.int 2)), none, none, none, none]) (ρ1 := [some (.s ns), some (.v (.int 2)), none, o3, o4, o5]) rfl rfl (seq_n (asg_n e0) (seq_n (for_n (ρ1 := [some (.s ns), some (.v (.int 2)), some (.l (iL c0)), none, none, none]) ?_ e1) rfl)) rfl rfl
  have hm : ns.map PyData.int = iL ns := rfl
  simp [hm, hcut2]
theorem e__law_box {k : Nat} {cs : List Int} {i : Nat} (hi : i < cs.length) (hi2 : i < 100) : ∃ x y, 0 ≤ x ∧ 0 ≤ y ∧ y < 4611686018427387904 ∧ Ph Ir.prog (k + 1) "_law_box" [.l (iL cs), .v (.int i)] = some (.l [.int x, .int y, .int 0], [.l (iL cs), .v (.int i)]) := by
  rw [c__law_box]
  have h1 : atI (iL cs) (i : Int) = some (.int cs[i]) := by rw [at_nat rfl, iL_get hi]
  have h2 : (i : Int) < cs.length := by omega
  have b1 : -18446744073709551616 < (i : Int) := by omega
  have b2 : (i : Int) < 18446744073709551616 := by omega
  have k1 : ∀ u : Bool, -18446744073709551616 < (if u = true then (1 : Int) else 0) := fun u => by cases u <;> decide
  have k2 : ∀ u : Bool, (if u = true then (1 : Int) else 0) < 18446744073709551616 := fun u => by cases u <;> decide
  have p1 : 0 ≤ (if cs[i] < 0 then -cs[i] else cs[i]) := by split <;> omega
  have p2 : ∀ u : Bool, 0 ≤ (if u = true then (1 : Int) else 0) := fun u => by cases u <;> decide
  obtain ⟨A, hA⟩ : ∃ A, A = (if cs[i] < 0 then -cs[i] else cs[i]) := ⟨_, rfl⟩
  rw [← hA] at p1
  refine ⟨A * (if decide (10 ^ 18 ≤ A) = true then 1 else 0), cs[i] % 2305843009213693951 + 39373 * i + 9285072, Int.mul_nonneg p1 (p2 _), by omega, by omega, ?_⟩
  have e1 : evE (Ph Ir.prog k) (.ife (.tcmp .Lt (.var 1) (.bi .len (.cons (.var 0) .nil))) (.idx (.var 0) (.var 1)) (.num 0)) [some (.l (iL cs)), some (.v (.int i)), none] = some (.v (.int cs[i]), [some (.l (iL cs)), some (.v (.int i)), none]) := by
    simp [h1, h2, hi]
  refine runF_of (ρ0 := [some (.l (iL cs)), some (.v (.int i)), none]) (ρ1 := [some (.l (iL cs)), some (.v (.int i)), some (.v (.int cs[i]))]) rfl rfl (seq_n (asg_n e1) (ret_n ?_)) rfl rfl
  have z := k1 (decide (10 ^ 18 ≤ A))
  have z2 := k2 (decide (10 ^ 18 ≤ A))
  simp [← hA, b1, b2, okN]
  by_cases q : (1000000000000000000 : Int) ≤ A <;> simp [q]
theorem law_of {k : Nat} (HR : ∀ x y : Int, 0 ≤ x → 0 ≤ y → y < 4611686018427387904 → ∃ o, Ph Ir.prog (k + 1) "_law_right" [.l [.int x, .int y, .int 0]] = some (.v (.bool true), [o])) (ns : List Int) (hn : ns.length ≤ 63) :
    ∃ outs, Ph Ir.prog (k + 2) "law" [.s ns] = some (.v (.bool true), outs) := by
  obtain ⟨cs, hl, e1⟩ := e__law_cells (k := k) hn
  rw [c_law]
  have hc : compL (turnE (Ph Ir.prog (k + 1)) (.call "_law_right" (.cons (.call "_law_box" (.cons (.var 1) (.cons (.var 2) .nil))) .nil)) (.nm 2) .tyes) [2] (rngD 0 cs.length) [some (.s ns), some (.l (iL cs)), none] = some ((rngD 0 cs.length).map fun _ => .bool true, [some (.s ns), some (.l (iL cs)), none]) := by
    apply compL_all
    intro d hd
    obtain ⟨i, hi⟩ := List.getElem?_of_mem hd
    obtain rfl := rngD_get hi
    have lt := (List.getElem?_eq_some_iff.mp hi).1
    rw [rngD_len] at lt
    obtain ⟨x, y, h1, h2, h3, eb⟩ := e__law_box (k := k) (cs := cs) (i := i) (by omega) (by omega)
    obtain ⟨o, er⟩ := HR x y h1 h2 h3
    refine ⟨[some (.s ns), some (.l (iL cs)), some (.v (.int (0 + (i : Nat))))], ?_, rfl⟩
    simp [turnE, eb, er]
  refine ⟨[.s ns], runF_of (ρ0 := [some (.s ns), none, none]) (ρ1 := [some (.s ns), some (.l (iL cs)), none]) rfl rfl (seq_n (asg_n (call_n (as := [(.s ns, none), (.v (.int 2), none)]) (ρ1 := [some (.s ns), none, none]) (by simp) e1 rfl)) (ret_n ?_)) rfl rfl⟩
  have hb : boolsOf ((rngD 0 cs.length).map fun _ => PyData.bool true) = some ((rngD 0 cs.length).map fun _ => true) := by
    rw [show ((rngD 0 cs.length).map fun _ => PyData.bool true) = ((rngD 0 cs.length).map fun _ => true).map PyData.bool by simp]
    exact boolsOf_of _
  have hA : evE (Ph Ir.prog (k + 1)) (.comp (.call "_law_right" (.cons (.call "_law_box" (.cons (.var 1) (.cons (.var 2) .nil))) .nil)) (.nm 2) (.rng1 (.bi .len (.cons (.var 1) .nil))) .tyes [2]) [some (.s ns), some (.l (iL cs)), none] = some (.l ((rngD 0 cs.length).map fun _ => .bool true), [some (.s ns), some (.l (iL cs)), none]) :=
    comp_n (ρ1 := [some (.s ns), some (.l (iL cs)), none]) (rng1_n (j := cs.length) (o := .d (.int cs.length)) (by simp) rfl (by omega) (by omega)) (by rw [rngD_len]; omega) hc
  exact (all_n (by intro _; nofun) hA hb).trans (by simp)
end Ev

namespace Ev
open PySem Pv L2 Lv
theorem c_rows_in {k : Nat} {rs : List R} : Ph Ir.prog (k + 1) "rows_in" rs = runF (Ph Ir.prog k) Ir.f_rows_in rs := rfl
theorem pow_cast (n : Nat) : (2 : Int) ^ n = ((2 ^ n : Nat) : Int) := by simp
/-- the slots of rows_in in the while -/
def wEnv (n N i a j : Nat) (o : Option R) : Pv.Env := [some (.v (.int n)), some (.v (.int N)), some (.l (stg N i)), some (.v (.int a)), some (.l ((rowD N a).take (j + 1))), o, none]
theorem e_rows_in {k n : Nat} (hn : n ≤ 12) : Ph Ir.prog (k + 1) "rows_in" [.v (.int n)] = some (.l (rowsD (2 ^ n)), [.v (.int n)]) := by
  rw [c_rows_in]
  have hN1 : 1 ≤ 2 ^ n := Nat.one_le_two_pow
  have hN2 : 2 ^ n ≤ 4096 := pow_le12 hn
  have F := fine_pow n
  have hp := pow_cast n
  generalize 2 ^ n = N at *
  -- the empty rows
  have hcomp : evE (Ph Ir.prog k) (.comp (.lst .nil) (.nm 6) (.rng1 (.var 1)) .tyes [6]) [some (.v (.int n)), some (.v (.int N)), none, none, none, none, none] = some (.l ((rngD 0 N).map fun _ => .list []), [some (.v (.int n)), some (.v (.int N)), none, none, none, none, none]) := by
    refine comp_n (ρ1 := [some (.v (.int n)), some (.v (.int N)), none, none, none, none, none]) (ρ2 := [some (.v (.int n)), some (.v (.int N)), none, none, none, none, none]) (rng1_n (j := N) (o := .sl 1) (by simp) (by simp) (by omega) (by omega)) (by rw [rngD_len]; omega) ?_
    apply compL_all
    intro d _
    exact ⟨[some (.v (.int n)), some (.v (.int N)), none, none, none, none, some (.v d)], by simp [turnE, okN], rfl⟩
  have h0 : ((rngD 0 N).map fun _ => PyData.list []) ++ [.list (rngD 1 (N + 1))] = stg N 0 := by
    apply List.ext_getElem?
    intro m
    have l0 : ((rngD 0 N).map fun _ => PyData.list []).length = N := by rw [List.length_map, rngD_len]; omega
    have top : rngD 1 (N + 1) = rowD N N := by
      have e : per N N = N := per_of ⟨hN1, op_N, fun j h1 h2 => by rw [op_N]; exact h2⟩ (Nat.le_refl _)
      unfold rngD rowD
      rw [e, show ((N : Int) + 1 - 1).toNat = N by omega]
      apply List.map_congr_left
      intro i _
      rw [op_N, show (1 : Int) + (i : Nat) = ((i + 1 : Nat) : Int) by omega]
    by_cases hm : m < N
    · rw [List.getElem?_append_left (by omega), List.getElem?_map, rngD_at (by omega)]
      unfold stg
      rw [List.getElem?_map, List.getElem?_range (by omega)]
      show some _ = some (PyData.list (if N - 0 ≤ m then rowD N m else []))
      rw [if_neg (by omega)]
    · by_cases q : m = N
      · rw [q, List.getElem?_append_right (by omega), l0, Nat.sub_self, stg_at (Nat.le_refl _) (by omega), ← top]
        rfl
      · rw [List.getElem?_eq_none (by rw [List.length_append, l0]; simp; omega), List.getElem?_eq_none (by rw [stg_len]; omega)]
  -- one row
  let f : D → Pv.Env → Option (Fl × Pv.Env) := fun d ρ => (bindT (.nm 3) d ρ).bind fun ρ2 => ex (Ph Ir.prog k) (.seq (.asg 4 (.lst (.cons (.bin .Add (.var 3) (.num 1)) .nil))) (.seq (.while_ (.tcmp .NotEq (.idx (.var 4) (.neg (.num 1))) (.var 1)) (.seq (.asg 5 (.idx (.var 2) (.idx (.var 4) (.neg (.num 1))))) (.seq (.app 4 (.idx (.var 5) (.bin .Mod (.var 3) (.bi .len (.cons (.var 5) .nil))))) .skip))) (.seq (.setx 2 (.var 3) (.var 4)) .skip))) ρ2
  have hturn : ∀ i a : Nat, a = N - (i + 1) → 1 ≤ a → i + 1 ≤ N → ∀ o3 o4 o5 : Option R, ∃ o4' o5', f (.int a) [some (.v (.int n)), some (.v (.int N)), some (.l (stg N i)), o3, o4, o5, none] = some (.next, [some (.v (.int n)), some (.v (.int N)), some (.l (stg N (i + 1))), some (.v (.int a)), o4', o5', none]) := by
    intro i a ea ha hi o3 o4 o5
    have hlt : a < N := by omega
    obtain ⟨P, dv, pl⟩ := perP F ha (by omega)
    have pp := P.pos
    have tk : ∀ j, j < per N a → (rowD N a).take (j + 1) = (rowD N a).take j ++ [.int (op N a (j + 1) : Nat)] := fun j hj => by
      rw [List.take_add_one, rowD_at hj]
      rfl
    have lst : ∀ j, j < per N a → atI ((rowD N a).take (j + 1)) (-1) = some (.int (op N a (j + 1) : Nat)) := fun j hj => by
      rw [at_last, tk j hj, List.getLast?_append]
      rfl
    obtain ⟨ρ', ew, o5', hρ⟩ := while_turns (c := evT (Ph Ir.prog k) (.tcmp .NotEq (.idx (.var 4) (.neg (.num 1))) (.var 1))) (f := ex (Ph Ir.prog k) (.seq (.asg 5 (.idx (.var 2) (.idx (.var 4) (.neg (.num 1))))) (.seq (.app 4 (.idx (.var 5) (.bin .Mod (.var 3) (.bi .len (.cons (.var 5) .nil))))) .skip)))
      (fun j ρ => ∃ o, ρ = wEnv n N i a j o) (fun ρ => ∃ o, ρ = wEnv n N i a (per N a - 1) o) (per N a - 1) (fun j ρ hj ⟨o, hρ⟩ => by
        subst hρ
        have jl : j < per N a := by omega
        have y1 := op_gt hlt (b := j + 1) (by omega)
        have y2 := P.lt (j + 1) (by omega) (by omega)
        have hne : ¬ ((op N a (j + 1) : Nat) : Int) = (N : Int) := by omega
        refine ⟨wEnv n N i a j o, wEnv n N i a (j + 1) (some (.v (.list (rowD N (op N a (j + 1)))))), by simp [wEnv, lst j jl, hne], ?_, _, rfl⟩
        obtain ⟨Py, dvy, ply⟩ := perP F (a := op N a (j + 1)) (by omega) (by omega)
        have ppy := Py.pos
        have r1 : atI (stg N i) ((op N a (j + 1) : Nat) : Int) = some (.list (rowD N (op N a (j + 1)))) := by rw [at_nat rfl, stg_at (by omega) (by omega)]
        have r2 : atI (rowD N (op N a (j + 1))) ((a : Int) % (per N (op N a (j + 1)) : Nat)) = some (.int (op N a (j + 2) : Nat)) := by
          rw [at_nat (n := a % per N (op N a (j + 1))) (by omega), rowD_at (Nat.mod_lt _ ppy), op_mod F (by omega) (by omega) hlt, op_succ hlt (b := j + 1) (by omega)]
        have pi : (0 : Int) < (per N (op N a (j + 1)) : Nat) := by omega
        have ok : okN (min (j + 1) (per N a) + 1) = true := okN_t (by omega)
        have ppy0 : 0 < per N (op N a (j + 1)) := ppy
        refine seq_n (ρ1 := wEnv n N i a j (some (.v (.list (rowD N (op N a (j + 1))))))) (asg_n (ρ1 := wEnv n N i a j o) (r := .v (.list (rowD N (op N a (j + 1))))) (by simp [wEnv, lst j jl, r1])) (seq_n (ρ1 := wEnv n N i a (j + 1) (some (.v (.list (rowD N (op N a (j + 1))))))) ?_ rfl)
        have tk2 := tk (j + 1) (by omega)
        simp only [wEnv, tk2]
        simp [rowD_len, ppy0, r2, ok]) (fun ρ ⟨o, hρ⟩ => by
        subst hρ
        refine ⟨_, ?_, o, rfl⟩
        have e : op N a (per N a - 1 + 1) = N := by rw [show per N a - 1 + 1 = per N a by omega]; exact P.at_
        have z := lst (per N a - 1) (by omega)
        rw [e] at z
        simp [wEnv, z]) WF 0 (wEnv n N i a 0 o5) (Nat.zero_le _) (by unfold WF; omega) ⟨o5, rfl⟩
    subst hρ
    have full : (rowD N a).take (per N a - 1 + 1) = rowD N a := List.take_of_length_le (by rw [rowD_len]; omega)
    refine ⟨some (.v (.list (rowD N a))), o5', ?_⟩
    show ex _ _ [some (.v (.int n)), some (.v (.int N)), some (.l (stg N i)), some (.v (.int a)), o4, o5, none] = _
    have t1 : (rowD N a).take (0 + 1) = [.int ((a : Int) + 1)] := by
      rw [tk 0 pp, op_one hlt]
      rfl
    refine seq_n (ρ1 := wEnv n N i a 0 o5) (asg_n (ρ1 := [some (.v (.int n)), some (.v (.int N)), some (.l (stg N i)), some (.v (.int a)), o4, o5, none]) (r := .l ((rowD N a).take (0 + 1))) (by simp only [t1]; simp [okN])) (seq_n (whl_n ew) (seq_n ?_ rfl))
    have e2 : ixN (stg N i).length (a : Int) = some a := ix_nat rfl (by rw [stg_len]; omega)
    have e3 : (stg N i).set a (.list (rowD N a)) = stg N (i + 1) := by
      rw [ea]
      exact stg_set hi
    simp [wEnv, full, e2, e3]
  obtain ⟨ρ', ef, o3', o4', o5', hρ⟩ := forL_turns (f := f) (fun i ρ => ∃ o3 o4 o5, ρ = [some (.v (.int n)), some (.v (.int N)), some (.l (stg N i)), o3, o4, o5, none]) (rngC ((N : Int) - 1) (-1) (N - 1)) 0
    [some (.v (.int n)), some (.v (.int N)), some (.l (stg N 0)), none, none, none, none] ⟨_, _, _, rfl⟩ (fun j d ρ hj ⟨o3, o4, o5, hρ⟩ => by
      subst hρ
      have lt := (List.getElem?_eq_some_iff.mp hj).1
      rw [rngC_len] at lt
      rw [rngC_at lt] at hj
      cases hj
      obtain ⟨o4', o5', e⟩ := hturn j (N - (j + 1)) rfl (by omega) (by omega) o3 o4 o5
      rw [show (((N - (j + 1) : Nat)) : Int) = (N : Int) - 1 - (j : Nat) by omega] at e
      rw [Nat.zero_add]
      exact ⟨_, .inl e, _, _, _, rfl⟩)
  subst hρ
  rw [rngC_len, Nat.zero_add] at ef
  refine runF_of (ρ0 := [some (.v (.int n)), none, none, none, none, none, none]) (ρ1 := [some (.v (.int n)), some (.v (.int N)), none, o3', o4', o5', none]) rfl rfl (seq_n (asg_n (ρ1 := [some (.v (.int n)), none, none, none, none, none, none]) (r := .v (.int N)) ?_)
    (seq_n (asg_n (ρ1 := [some (.v (.int n)), some (.v (.int N)), none, none, none, none, none]) (r := .l (stg N 0)) ?_) (seq_n (for_n (ρ1 := [some (.v (.int n)), some (.v (.int N)), some (.l (stg N 0)), none, none, none, none]) (ds := rngC ((N : Int) - 1) (-1) (N - 1)) ?_ ef) rfl))) rfl rfl
  · have b1 : (n : Int) ≤ 1000000 := by omega
    simp [b1, hp]
  · have z := rng2_n (Φ := Ph Ir.prog k) (a := .num 1) (b := .bin .Add (.var 1) (.num 1)) (ρ := [some (.v (.int n)), some (.v (.int N)), none, none, none, none, none]) (i := 1) (j := (N : Int) + 1) (ρ1 := [some (.v (.int n)), some (.v (.int N)), none, none, none, none, none]) (ρ2 := [some (.v (.int n)), some (.v (.int N)), none, none, none, none, none])
      (o := .d (.int 1)) (p := .d (.int ((N : Int) + 1))) (by simp) (by simp) rfl rfl (by omega) (by omega) (by omega) (by omega)
    have hl1 : (rngD 1 ((N : Int) + 1)).length ≤ 16777216 := by rw [rngD_len]; omega
    have hl2 : ((rngD 0 N).map fun _ => PyData.list []).length + [PyData.list (rngD 1 ((N : Int) + 1))].length ≤ 16777216 := by rw [List.length_map, rngD_len]; simp; omega
    rw [← h0]
    exact bin_n (opd_n (by intro _; nofun) hcomp rfl) (opd_n (by intro _; nofun) (lst1_n (lrg_n z hl1) rfl) rfl) rfl rfl (cat_n hl2)
  · have z := rng3_n (Φ := Ph Ir.prog k) (a := .bin .Sub (.var 1) (.num 1)) (b := .num 0) (c := .neg (.num 1)) (ρ := [some (.v (.int n)), some (.v (.int N)), some (.l (stg N 0)), none, none, none, none]) (i := (N : Int) - 1) (j := 0) (ρ1 := [some (.v (.int n)), some (.v (.int N)), some (.l (stg N 0)), none, none, none, none]) (ρ2 := [some (.v (.int n)), some (.v (.int N)), some (.l (stg N 0)), none, none, none, none]) (ρ3 := [some (.v (.int n)), some (.v (.int N)), some (.l (stg N 0)), none, none, none, none]) (o := .d (.int ((N : Int) - 1))) (p := .d (.int 0)) (u := .d (.int (-1))) (by simp) (by simp) (by simp) rfl rfl rfl (by omega) (by omega) (by omega) (by omega)
    rw [show ((N : Int) - 1 - 0).toNat = N - 1 by omega] at z
    exact z
end Ev

namespace Ev
open PySem Pv L2 Lv
abbrev iv (a : Nat) : R := .v (.int a)
/-- the rows, own or not -/
def RowsR (N : Nat) (r : R) : Prop := r = .v (.list (rowsD N)) ∨ r = .l (rowsD N)
theorem emod_cast (a b : Nat) : ((a % b : Nat) : Int) = (a : Int) % (b : Int) := by simp
theorem c_sure_number {k : Nat} {rs : List R} : Ph Ir.prog (k + 1) "sure_number" rs = runF (Ph Ir.prog k) Ir.f_sure_number rs := rfl
theorem c_sure_level {k : Nat} {rs : List R} : Ph Ir.prog (k + 1) "sure_level" rs = runF (Ph Ir.prog k) Ir.f_sure_level rs := rfl
theorem c_sure_in {k : Nat} {rs : List R} : Ph Ir.prog (k + 1) "sure_in" rs = runF (Ph Ir.prog k) Ir.f_sure_in rs := rfl
theorem c_both_in {k : Nat} {rs : List R} : Ph Ir.prog (k + 1) "both_in" rs = runF (Ph Ir.prog k) Ir.f_both_in rs := rfl
theorem c_both {k : Nat} {rs : List R} : Ph Ir.prog (k + 1) "both" rs = runF (Ph Ir.prog k) Ir.f_both rs := rfl
theorem c_times {k : Nat} {rs : List R} : Ph Ir.prog (k + 1) "times" rs = runF (Ph Ir.prog k) Ir.f_times rs := rfl
theorem e_sure_number {k : Nat} {z a b : Int} (h1 : a ≤ z) (h2 : z ≤ b) : Ph Ir.prog (k + 3) "sure_number" [.v (.int z), .v (.int a), .v (.int b)] = some (.v (.int z), [.v (.int z), .v (.int a), .v (.int b)]) := by
  rw [c_sure_number]
  simp [runF, Ir.f_sure_number, Ir.b_sure_number, Fn.io, S.st, e_is_among, h1, h2]
theorem e_sure_level {k n : Nat} (hn : n ≤ 12) : Ph Ir.prog (k + 4) "sure_level" [iv n] = some (iv n, [iv n]) := by
  rw [c_sure_level]
  have h1 : (0 : Int) ≤ n := by omega
  have h2 : (n : Int) ≤ 12 := by omega
  simp [runF, Ir.f_sure_level, Ir.b_sure_level, Fn.io, S.st, e_sure_number, h1, h2]
theorem e_sure_in {k n a : Nat} (hn : n ≤ 12) (h1 : 1 ≤ a) (h2 : a ≤ 2 ^ n) : Ph Ir.prog (k + 4) "sure_in" [iv n, iv a] = some (iv a, [iv n, iv a]) := by
  rw [c_sure_in]
  have b1 : (n : Int) ≤ 1000000 := by omega
  have k1 : (1 : Int) ≤ a := by omega
  have k2 : (a : Int) ≤ 2 ^ n := by rw [pow_cast]; omega
  simp [runF, Ir.f_sure_in, Ir.b_sure_in, Fn.io, S.st, e_sure_number, b1, k1, k2]
section
variable {k n a b : Nat} {r : R}
theorem e_prod {N : Nat} (F : Fine N) (hr : RowsR N r) (ha : 1 ≤ a) (ha2 : a ≤ N) (hb : 1 ≤ b) (hb2 : b ≤ N) : Ph Ir.prog (k + 1) "product_in" [r, iv a, iv b] = some (iv (op N a b), [r, iv a, iv b]) := by
  rw [c_product_in]
  obtain ⟨P, _, pl⟩ := perP F ha ha2
  have h1 : atI (rowsD N) (a : Int) = some (.list (rowD N a)) := by rw [at_nat rfl, rowsD_at ha ha2]
  have h3 : atI (rowD N a) (((b : Int) - 1) % (per N a : Nat)) = some (.int (op N a b : Nat)) := by
    rw [at_nat (n := (b - 1) % per N a) (by rw [emod_cast, show ((b - 1 : Nat) : Int) = (b : Int) - 1 by omega]), rowD_at (Nat.mod_lt _ P.pos), op_mod F ha ha2 (by omega), show b - 1 + 1 = b by omega]
  have ppos : 0 < per N a := P.pos
  rcases hr with rfl | rfl <;> simp [runF, Ir.f_product_in, Ir.b_product_in, Fn.io, S.st, h1, h3, rowD_len, ppos]
theorem pv_int {N y : Nat} (hN : 1 ≤ N) (hy : 1 ≤ y) : ((y : Int) - 2) % (N : Int) + 1 = (Lv.pv N y : Nat) := by
  unfold Lv.pv
  rw [Int.natCast_add, emod_cast, show ((y + N - 2 : Nat) : Int) = (y : Int) - 2 + N by omega, Int.add_emod_right]
  rfl
theorem nx_int {N y : Nat} : (y : Int) % (N : Int) + 1 = (nx N y : Nat) := by
  unfold nx
  rw [Int.natCast_add, emod_cast]
  rfl
theorem e_both_in (hn : n ≤ 12) (hr : RowsR (2 ^ n) r) (ha : 1 ≤ a) (ha2 : a ≤ 2 ^ n) : Ph Ir.prog (k + 2) "both_in" [iv n, r, iv a, iv b] = some (iv (co (2 ^ n) a b), [iv n, r, iv a, iv b]) := by
  rw [c_both_in]
  have b1 : (n : Int) ≤ 1000000 := by omega
  have hN : 1 ≤ 2 ^ n := Nat.one_le_two_pow
  have F := fine_pow n
  have hp := pow_cast n
  unfold co
  generalize 2 ^ n = N at *
  have e := e_prod (k := k) (b := nx N b) F hr ha ha2 (nx_pos hN) (nx_le hN)
  have z := pv_int hN (op_pos ha ha2 (nx_pos hN (x := b)))
  have hN0 : 0 < N := hN
  rcases hr with rfl | rfl <;> simp [runF, Ir.f_both_in, Ir.b_both_in, Fn.io, S.st, b1, hp, nx_int, e, z, hN0]
theorem e_both (hn : n ≤ 12) (ha : 1 ≤ a) (ha2 : a ≤ 2 ^ n) (hb : 1 ≤ b) (hb2 : b ≤ 2 ^ n) : Ph Ir.prog (k + 5) "both" [iv n, iv a, iv b] = some (iv (co (2 ^ n) a b), [iv n, iv a, iv b]) := by
  rw [c_both]
  have e1 := e_sure_level (k := k) hn
  have e2 := e_sure_in (k := k) hn ha ha2
  have e3 := e_sure_in (k := k) hn hb hb2
  have e4 := e_rows_in (k := k + 3) hn
  have e5 := e_both_in (k := k + 2) (b := b) hn (.inr rfl) ha ha2
  simp [runF, Ir.f_both, Ir.b_both, Fn.io, S.st, e1, e2, e3, e4, e5]
theorem e_times (hn : n ≤ 12) (ha : 1 ≤ a) (ha2 : a ≤ 2 ^ n) (hb : 1 ≤ b) (hb2 : b ≤ 2 ^ n) : Ph Ir.prog (k + 5) "times" [iv n, iv a, iv b] = some (iv (op (2 ^ n) a b), [iv n, iv a, iv b]) := by
  rw [c_times]
  have e1 := e_sure_level (k := k) hn
  have e2 := e_sure_in (k := k) hn ha ha2
  have e3 := e_sure_in (k := k) hn hb hb2
  have e4 := e_rows_in (k := k + 3) hn
  have e5 := e_prod (k := k + 3) (fine_pow n) (.inr rfl) ha ha2 hb hb2
  simp [runF, Ir.f_times, Ir.b_times, Fn.io, S.st, e1, e2, e3, e4, e5]
end
end Ev

namespace Ev
open PySem Pv L2 Lv
theorem c_table_row {k : Nat} {rs : List R} : Ph Ir.prog (k + 1) "table_row" rs = runF (Ph Ir.prog k) Ir.f_table_row rs := rfl
theorem c_period {k : Nat} {rs : List R} : Ph Ir.prog (k + 1) "period" rs = runF (Ph Ir.prog k) Ir.f_period rs := rfl
theorem c_sure_below {k : Nat} {rs : List R} : Ph Ir.prog (k + 1) "sure_below" rs = runF (Ph Ir.prog k) Ir.f_sure_below rs := rfl
theorem c_lowered_in {k : Nat} {rs : List R} : Ph Ir.prog (k + 1) "lowered_in" rs = runF (Ph Ir.prog k) Ir.f_lowered_in rs := rfl
theorem c_lowered {k : Nat} {rs : List R} : Ph Ir.prog (k + 1) "lowered" rs = runF (Ph Ir.prog k) Ir.f_lowered rs := rfl
theorem c_is_both {k : Nat} {rs : List R} : Ph Ir.prog (k + 1) "is_both" rs = runF (Ph Ir.prog k) Ir.f_is_both rs := rfl
theorem c_folded {k : Nat} {rs : List R} : Ph Ir.prog (k + 1) "folded" rs = runF (Ph Ir.prog k) Ir.f_folded rs := rfl
theorem c_all_both {k : Nat} {rs : List R} : Ph Ir.prog (k + 1) "all_both" rs = runF (Ph Ir.prog k) Ir.f_all_both rs := rfl
theorem c_both_times {k : Nat} {rs : List R} : Ph Ir.prog (k + 1) "both_times" rs = runF (Ph Ir.prog k) Ir.f_both_times rs := rfl
theorem c_sure_all_in {k : Nat} {rs : List R} : Ph Ir.prog (k + 1) "sure_all_in" rs = runF (Ph Ir.prog k) Ir.f_sure_all_in rs := rfl
theorem c_tupled {k : Nat} {rs : List R} : Ph Ir.prog (k + 1) "tupled" rs = runF (Ph Ir.prog k) Ir.f_tupled rs := rfl
theorem c_spreads_at {k : Nat} {rs : List R} : Ph Ir.prog (k + 1) "spreads_at" rs = runF (Ph Ir.prog k) Ir.f_spreads_at rs := rfl
theorem c_laws_of_both {k : Nat} {rs : List R} : Ph Ir.prog (k + 1) "laws_of_both" rs = runF (Ph Ir.prog k) Ir.f_laws_of_both rs := rfl
abbrev nL (l : List Nat) : List D := l.map fun x => .int (x : Nat)
section
variable {k n a b c : Nat}
theorem e_table_row (hn : n ≤ 12) (ha : 1 ≤ a) (ha2 : a ≤ 2 ^ n) : Ph Ir.prog (k + 5) "table_row" [iv n, iv a] = some (.v (.tuple (rowD (2 ^ n) a)), [iv n, iv a]) := by
  rw [c_table_row]
  have e1 := e_sure_level (k := k) hn
  have e2 := e_sure_in (k := k) hn ha ha2
  have e4 := e_rows_in (k := k + 3) hn
  have h1 : atI (rowsD (2 ^ n)) (a : Int) = some (.list (rowD (2 ^ n) a)) := by rw [at_nat rfl, rowsD_at ha ha2]
  simp [runF, Ir.f_table_row, Ir.b_table_row, Fn.io, S.st, e1, e2, e4, h1]
theorem e_period (hn : n ≤ 12) (ha : 1 ≤ a) (ha2 : a ≤ 2 ^ n) : Ph Ir.prog (k + 6) "period" [iv n, iv a] = some (iv (per (2 ^ n) a), [iv n, iv a]) := by
  rw [c_period]
  have e1 := e_table_row (k := k) hn ha ha2
  simp [runF, Ir.f_period, Ir.b_period, Fn.io, S.st, e1, rowD_len]
theorem e_lowered {m : Nat} (hm : m ≤ 11) (ha : 1 ≤ a) (ha2 : a ≤ 4096) : Ph Ir.prog (k + 5) "lowered" [iv m, iv a] = some (iv (pr (2 ^ m) a), [iv m, iv a]) := by
  rw [c_lowered]
  have b1 : (0 : Int) ≤ m := by omega
  have b2 : (m : Int) ≤ 11 := by omega
  have b3 : (1 : Int) ≤ a := by omega
  have b4 : (a : Int) ≤ 4096 := by omega
  have b5 : (m : Int) ≤ 1000000 := by omega
  have e1 : Ph Ir.prog (k + 4) "sure_below" [iv m] = some (iv m, [iv m]) := by
    rw [c_sure_below]
    simp [runF, Ir.f_sure_below, Ir.b_sure_below, Fn.io, S.st, e_sure_number, b1, b2]
  have e2 : Ph Ir.prog (k + 4) "lowered_in" [iv m, iv a] = some (iv (pr (2 ^ m) a), [iv m, iv a]) := by
    rw [c_lowered_in]
    have hN : 1 ≤ 2 ^ m := Nat.one_le_two_pow
    have hp := pow_cast m
    have z : ((a : Int) - 1) % (2 ^ m : Nat) + 1 = (pr (2 ^ m) a : Nat) := by
      unfold pr
      rw [Int.natCast_add, emod_cast, show ((a - 1 : Nat) : Int) = (a : Int) - 1 by omega]
      rfl
    have h0 : (0 : Int) < (2 ^ m : Nat) := by omega
    rw [← hp] at z h0
    simp [runF, Ir.f_lowered_in, Ir.b_lowered_in, Fn.io, S.st, b5, z, h0]
  simp [runF, Ir.f_lowered, Ir.b_lowered, Fn.io, S.st, e1, e2, e_sure_number, b3, b4]
theorem e_is_both (hn : n ≤ 12) (ha : 1 ≤ a) (ha2 : a ≤ 2 ^ n) (hb : 1 ≤ b) (hb2 : b ≤ 2 ^ n) (x : Nat) : Ph Ir.prog (k + 6) "is_both" [iv n, iv a, iv b, iv x] = some (.v (.bool (decide (x = co (2 ^ n) a b))), [iv n, iv a, iv b, iv x]) := by
  rw [c_is_both]
  have e1 := e_both (k := k) hn ha ha2 hb hb2
  simp [runF, Ir.f_is_both, Ir.b_is_both, Fn.io, S.st, e1, e_is_number]
  omega
theorem e_is_bothN (hn : n ≤ 12) (ha : 1 ≤ a) (ha2 : a ≤ 2 ^ n) (hb : 1 ≤ b) (hb2 : b ≤ 2 ^ n) : Ph Ir.prog (k + 6) "is_both" [iv n, iv a, iv b, .v .none] = some (.v (.bool false), [iv n, iv a, iv b, .v .none]) := by
  rw [c_is_both]
  have e1 := e_both (k := k) hn ha ha2 hb hb2
  have e2 : Ph Ir.prog (k + 5) "is_number" [.v .none] = some (.v (.bool false), [.v .none]) := by
    rw [c_is_number]
    simp [runF, Ir.f_is_number, Ir.b_is_number, Fn.io, S.st, isiD]
  simp [runF, Ir.f_is_both, Ir.b_is_both, Fn.io, S.st, e1, e2]
/-- fold -/
def fl (N : Nat) (l : List Nat) : Nat := l.foldl (co N) N
theorem fl_rng {N : Nat} (hN : 1 ≤ N) (l : List Nat) : ∀ y, 1 ≤ y → y ≤ N → 1 ≤ l.foldl (co N) y ∧ l.foldl (co N) y ≤ N := by
  induction l with
  | nil => exact fun y h1 h2 => ⟨h1, h2⟩
  | cons x l ih => exact fun y h1 h2 => ih _ (co_pos hN) (co_le hN)
theorem e_folded (hn : n ≤ 12) (l : List Nat) (hl : ∀ x ∈ l, 1 ≤ x ∧ x ≤ 2 ^ n) (r : R) (hr : r = .v (.tuple (nL l)) ∨ r = .l (nL l)) : ∃ r', Ph Ir.prog (k + 3) "folded" [iv n, r] = some (iv (fl (2 ^ n) l), [iv n, r']) := by
  rw [c_folded]
  have hN : 1 ≤ 2 ^ n := Nat.one_le_two_pow
  have e4 := e_rows_in (k := k + 1) hn
  have b1 : (n : Int) ≤ 1000000 := by omega
  have hp := pow_cast n
  let f : D → Pv.Env → Option (Fl × Pv.Env) := fun d ρ => (bindT (.nm 4) d ρ).bind fun ρ2 => ex (Ph Ir.prog (k + 2)) (.seq (.asg 3 (.call "both_in" (.cons (.var 0) (.cons (.var 2) (.cons (.var 3) (.cons (.var 4) .nil)))))) .skip) ρ2
  have loop : ∀ (r1 : R) (l : List Nat) (y : Nat) (o : Option R), 1 ≤ y → y ≤ 2 ^ n → ∃ o', forL f (nL l) [some (iv n), some r1, some (.l (rowsD (2 ^ n))), some (iv y), o] = some (.next, [some (iv n), some r1, some (.l (rowsD (2 ^ n))), some (iv (l.foldl (co (2 ^ n)) y)), o']) := by
    intro r1 l
    induction l with
    | nil => exact fun y o _ _ => ⟨o, rfl⟩
    | cons x l ih =>
      intro y o h1 h2
      obtain ⟨o', e⟩ := ih (co (2 ^ n) y x) (some (iv x)) (co_pos hN) (co_le hN)
      refine ⟨o', ?_⟩
      show (f _ _).bind _ = _
      have e5 := e_both_in (k := k) (b := x) hn (.inr rfl) h1 h2
      have e6 : f (.int x) [some (iv n), some r1, some (.l (rowsD (2 ^ n))), some (iv y), o] = some (.next, [some (iv n), some r1, some (.l (rowsD (2 ^ n))), some (iv (co (2 ^ n) y x)), some (iv x)]) := by
        simp [f, e5]
      rw [e6]
      exact e
  rcases hr with rfl | rfl
  · obtain ⟨o', e⟩ := loop (.v (.tuple (nL l))) l (2 ^ n) none hN (Nat.le_refl _)
    refine ⟨_, runF_of (ρ0 := [some (iv n), some (.v (.tuple (nL l))), none, none, none]) rfl rfl (seq_n (asg_n (ρ1 := [some (iv n), some (.v (.tuple (nL l))), none, none, none]) (r := .l (rowsD (2 ^ n))) (by simp [e4])) (seq_n (asg_n (ρ1 := [some (iv n), some (.v (.tuple (nL l))), some (.l (rowsD (2 ^ n))), none, none]) (r := iv (2 ^ n)) (by simp [b1])) (seq_n (for_n (ρ1 := [some (iv n), some (.v (.tuple (nL l))), some (.l (rowsD (2 ^ n))), some (iv (2 ^ n)), none]) (ds := nL l) (by simp [seqD]) e) rfl))) rfl rfl⟩
  · obtain ⟨o', e⟩ := loop (.v (.list (nL l))) l (2 ^ n) none hN (Nat.le_refl _)
    refine ⟨_, runF_of (ρ0 := [some (iv n), some (.l (nL l)), none, none, none]) rfl rfl (seq_n (asg_n (ρ1 := [some (iv n), some (.l (nL l)), none, none, none]) (r := .l (rowsD (2 ^ n))) (by simp [e4])) (seq_n (asg_n (ρ1 := [some (iv n), some (.l (nL l)), some (.l (rowsD (2 ^ n))), none, none]) (r := iv (2 ^ n)) (by simp [b1])) (seq_n (for_n (ρ1 := [some (iv n), some (.v (.list (nL l))), some (.l (rowsD (2 ^ n))), some (iv (2 ^ n)), none]) (ds := nL l) (by simp [seqD]) e) rfl))) rfl rfl⟩
theorem rep_flat (x : D) (m : Nat) : (List.replicate ((m : Nat) : Int).toNat [x]).flatten = List.replicate m x := by
  rw [Int.toNat_natCast]
  induction m with
  | zero => rfl
  | succ m ih => rw [List.replicate_succ, List.flatten_cons, ih, List.replicate_succ]; rfl
theorem e_both_times {m : Nat} (hn : n ≤ 12) (ha : 1 ≤ a) (ha2 : a ≤ 2 ^ n) (hm : m ≤ 1000) : Ph Ir.prog (k + 5) "both_times" [iv n, iv a, iv m] = some (iv (fl (2 ^ n) (List.replicate m a)), [iv n, iv a, iv m]) := by
  rw [c_both_times]
  have e1 := e_sure_level (k := k) hn
  have e2 := e_sure_in (k := k) hn ha ha2
  have b1 : (0 : Int) ≤ m := by omega
  have b2 : (m : Int) ≤ 1000 := by omega
  have e3 := e_sure_number (k := k + 1) b1 b2
  obtain ⟨r', e5⟩ := e_folded (k := k + 1) hn (List.replicate m a) (fun x hx => by rw [List.eq_of_mem_replicate hx]; exact ⟨ha, ha2⟩) _ (.inr rfl)
  have hrep : binD .Mult (.list [.int a]) (.int m) = some (.l (nL (List.replicate m a))) := by
    have h1 : in62 (m : Int) = true := in62_of (by omega) (by omega)
    have h2 : okN ([PyData.int (a : Int)].length * ((m : Nat) : Int).toNat) = true := okN_t (by simp; omega)
    rw [bd_rep, if_pos ⟨h1, h2⟩, rep_flat, nL, List.map_replicate]
  simp only [nL, List.map_replicate] at hrep e5
  simp [runF, Ir.f_both_times, Ir.b_both_times, Fn.io, S.st, e1, e2, e3, hrep, e5, -bd_rep]
end
end Ev

namespace Ev
open PySem Pv L2 Lv
theorem c__law_same {k : Nat} {rs : List R} : Ph Ir.prog (k + 1) "_law_same" rs = runF (Ph Ir.prog k) Ir.f__law_same rs := rfl
/-- tuples of ints, to a depth -/
def TD : Nat → D → Prop
  | _, .int _ => True
  | c + 1, .tuple ds => ds.length ≤ 16777216 ∧ ∀ d ∈ ds, TD c d
  | _, _ => False
theorem e_tupled {k : Nat} : ∀ (c : Nat) (d : D), TD c d → Ph Ir.prog (k + c + 1) "tupled" [.v d] = some (.v d, [.v d]) := by
  intro c
  induction c with
  | zero =>
    intro d h
    rw [c_tupled]
    cases d with
    | int i => simp [runF, Ir.f_tupled, Ir.b_tupled, Fn.io, S.st, isiD]
    | _ => exact h.elim
  | succ c ih =>
    intro d h
    rw [c_tupled]
    cases d with
    | int i => simp [runF, Ir.f_tupled, Ir.b_tupled, Fn.io, S.st, isiD]
    | tuple ds =>
      obtain ⟨hz, h⟩ : ds.length ≤ 16777216 ∧ ∀ d ∈ ds, TD c d := h
      have hc : compL (turnE (Ph Ir.prog (k + (c + 1))) (.call "tupled" (.cons (.var 1) .nil)) (.nm 1) .tyes) [1] ds [some (.v (.tuple ds)), none] = some (ds.map id, [some (.v (.tuple ds)), none]) := by
        apply compL_all
        intro d hd
        have e := ih d (h d hd)
        exact ⟨[some (.v (.tuple ds)), some (.v d)], by simp [turnE, show k + (c + 1) = k + c + 1 from rfl, e], rfl⟩
      rw [List.map_id] at hc
      have hA := comp_n (Φ := Ph Ir.prog (k + (c + 1))) (elt := .call "tupled" (.cons (.var 1) .nil)) (tg := .nm 1) (it := .it (.var 0)) (ifs := .tyes) (vs := [1]) (ρ := [some (.v (.tuple ds)), none]) (ρ1 := [some (.v (.tuple ds)), none]) (ds := ds) (by simp [seqD]) hz hc
      exact runF_of (ρ0 := [some (.v (.tuple ds)), none]) (ρ1 := [some (.v (.tuple ds)), none]) rfl rfl (ret_n (by simp only [ev_ife, tv_tt, ev_isi]; simp [isiD]; exact tup_n (by intro _; nofun) hA)) rfl rfl
    | _ => exact h.elim
/-- what _law_same is asked of -/
def SD : Nat → D → Prop
  | _, .int _ => True
  | _, .bool _ => True
  | _, .none => True
  | c + 1, .tuple ds => ds.length ≤ 16777216 ∧ ∀ d ∈ ds, SD c d
  | c + 1, .list ds => ds.length ≤ 16777216 ∧ ∀ d ∈ ds, SD c d
  | _, _ => False
def Rv (d : D) (r : R) : Prop := r = .v d ∨ ∃ xs, d = .list xs ∧ r = .l xs
theorem Rv.flat {d : D} {r : R} (h : Rv d r) (n : ∀ xs, d ≠ .list xs) : r = .v d := h.elim id fun ⟨xs, e, _⟩ => absurd e (n xs)
theorem zip_self {ds : List D} {x : D} (h : x ∈ zipD ds ds) : ∃ d ∈ ds, x = .tuple [d, d] := by
  obtain ⟨i, hi⟩ := List.getElem?_of_mem h
  obtain ⟨a, b, h1, h2, rfl⟩ := zipD_get hi
  rw [h1] at h2
  cases h2
  exact ⟨a, List.mem_of_getElem? h1, rfl⟩
theorem trues_of (xs : List D) : boolsOf (xs.map fun _ => PyData.bool true) = some (xs.map fun _ => true) := by
  rw [show (xs.map fun _ => PyData.bool true) = (xs.map fun _ => true).map PyData.bool by simp]
  exact boolsOf_of _
theorem e__law_same {k : Nat} : ∀ (c : Nat) (d : D) (r s : R), SD c d → Rv d r → Rv d s → ∃ o1 o2, Ph Ir.prog (k + c + 1) "_law_same" [r, s] = some (.v (.bool true), [o1, o2]) := by
  intro c
  induction c with
  | zero =>
    intro d r s h hr hs
    rw [c__law_same]
    cases d with
    | int i =>
      obtain rfl := hr.flat (fun _ => nofun)
      obtain rfl := hs.flat (fun _ => nofun)
      exact ⟨_, _, by simp [runF, Ir.f__law_same, Ir.b__law_same, Fn.io, S.st, isiD, isNonD]; exact ⟨rfl, rfl⟩⟩
    | bool i =>
      obtain rfl := hr.flat (fun _ => nofun)
      obtain rfl := hs.flat (fun _ => nofun)
      exact ⟨_, _, by simp [runF, Ir.f__law_same, Ir.b__law_same, Fn.io, S.st, isiD, isNonD]; exact ⟨rfl, rfl⟩⟩
    | none =>
      obtain rfl := hr.flat (fun _ => nofun)
      obtain rfl := hs.flat (fun _ => nofun)
      exact ⟨_, _, by simp [runF, Ir.f__law_same, Ir.b__law_same, Fn.io, S.st, isiD, isNonD]; exact ⟨rfl, rfl⟩⟩
    | _ => exact h.elim
  | succ c ih =>
    intro d r s h hr hs
    rw [c__law_same]
    have hcomp : ∀ (ds : List D) (ρ : Pv.Env) (x y : R), (ds.length ≤ 16777216 ∧ ∀ d ∈ ds, SD c d) → evI (Ph Ir.prog (k + (c + 1))) (.zip (.var 0) (.var 1)) ρ = some (zipD ds ds, [some x, some y, none, none]) →
        evE (Ph Ir.prog (k + (c + 1))) (.comp (.call "_law_same" (.cons (.var 2) (.cons (.var 3) .nil))) (.tp (.cons (.nm 2) (.cons (.nm 3) .nil))) (.zip (.var 0) (.var 1)) .tyes [2, 3]) ρ = some (.l ((zipD ds ds).map fun _ => .bool true), [some x, some y, none, none]) := by
      intro ds ρ x y ⟨hz, hh⟩ hi
      refine comp_n (ρ2 := [some x, some y, none, none]) hi (by rw [zipD_len]; omega) ?_
      apply compL_all
      intro z hzz
      obtain ⟨d, hd, rfl⟩ := zip_self hzz
      obtain ⟨o1, o2, e⟩ := ih d (.v d) (.v d) (hh d hd) (.inl rfl) (.inl rfl)
      exact ⟨[some x, some y, some (.v d), some (.v d)], by simp [turnE, show k + (c + 1) = k + c + 1 from rfl, e], rfl⟩
    cases d with
    | int i =>
      obtain rfl := hr.flat (fun _ => nofun)
      obtain rfl := hs.flat (fun _ => nofun)
      exact ⟨_, _, by simp [runF, Ir.f__law_same, Ir.b__law_same, Fn.io, S.st, isiD, isNonD]; exact ⟨rfl, rfl⟩⟩
    | bool i =>
      obtain rfl := hr.flat (fun _ => nofun)
      obtain rfl := hs.flat (fun _ => nofun)
      exact ⟨_, _, by simp [runF, Ir.f__law_same, Ir.b__law_same, Fn.io, S.st, isiD, isNonD]; exact ⟨rfl, rfl⟩⟩
    | none =>
      obtain rfl := hr.flat (fun _ => nofun)
      obtain rfl := hs.flat (fun _ => nofun)
      exact ⟨_, _, by simp [runF, Ir.f__law_same, Ir.b__law_same, Fn.io, S.st, isiD, isNonD]; exact ⟨rfl, rfl⟩⟩
    | tuple ds =>
      obtain rfl := hr.flat (fun _ => nofun)
      obtain rfl := hs.flat (fun _ => nofun)
      have hA := hcomp ds [some (.v (.tuple ds)), some (.v (.tuple ds)), none, none] (.v (.tuple ds)) (.v (.tuple ds)) h (by simp)
      have hB := all_n (by intro _; nofun) hA (trues_of _)
      exact ⟨.v (.tuple ds), .v (.tuple ds), by simp [runF, Ir.f__law_same, Ir.b__law_same, Fn.io, S.st, isiD, isNonD, hB, -ev_ball]⟩
    | list ds =>
      have hr2 : r = .v (.list ds) ∨ r = .l ds := hr.imp id fun ⟨xs, e, h⟩ => by cases e; exact h
      have hs2 : s = .v (.list ds) ∨ s = .l ds := hs.imp id fun ⟨xs, e, h⟩ => by cases e; exact h
      have hA : evE (Ph Ir.prog (k + (c + 1))) (.comp (.call "_law_same" (.cons (.var 2) (.cons (.var 3) .nil))) (.tp (.cons (.nm 2) (.cons (.nm 3) .nil))) (.zip (.var 0) (.var 1)) .tyes [2, 3]) [some r, some s, none, none] = some (.l ((zipD ds ds).map fun _ => .bool true), [some (.v (.list ds)), some (.v (.list ds)), none, none]) :=
        hcomp ds [some r, some s, none, none] _ _ h (by rcases hr2 with rfl | rfl <;> rcases hs2 with rfl | rfl <;> simp)
      have hB := all_n (by intro _; nofun) hA (trues_of _)
      rcases hr2 with rfl | rfl <;> rcases hs2 with rfl | rfl <;>
        exact ⟨.v (.list ds), .v (.list ds), by simp [runF, Ir.f__law_same, Ir.b__law_same, Fn.io, S.st, isiD, isNonD, hB, -ev_ball]⟩
    | _ => exact h.elim
end Ev

namespace Ev
open PySem Pv L2 Lv
theorem c_divided {k : Nat} {rs : List R} : Ph Ir.prog (k + 1) "divided" rs = runF (Ph Ir.prog k) Ir.f_divided rs := rfl
theorem c_comes_behind {k : Nat} {rs : List R} : Ph Ir.prog (k + 1) "comes_behind" rs = runF (Ph Ir.prog k) Ir.f_comes_behind rs := rfl
theorem c_fixed_by {k : Nat} {rs : List R} : Ph Ir.prog (k + 1) "fixed_by" rs = runF (Ph Ir.prog k) Ir.f_fixed_by rs := rfl
theorem c_sure_listed {k : Nat} {rs : List R} : Ph Ir.prog (k + 1) "sure_listed" rs = runF (Ph Ir.prog k) Ir.f_sure_listed rs := rfl
theorem c_periods {k : Nat} {rs : List R} : Ph Ir.prog (k + 1) "periods" rs = runF (Ph Ir.prog k) Ir.f_periods rs := rfl
section
variable {k n a b c : Nat}
theorem td_nums (l : List Nat) (hl : l.length ≤ 16777216) : TD 1 (.tuple (nL l)) := ⟨by simpa using hl, fun d hd => by
  obtain ⟨x, _, rfl⟩ := List.mem_map.mp hd
  trivial⟩
theorem e_sure_all_in (hn : n ≤ 12) (l : List Nat) (hl : ∀ x ∈ l, 1 ≤ x ∧ x ≤ 2 ^ n) (hz : l.length ≤ 16777216) : Ph Ir.prog (k + 3) "sure_all_in" [iv n, .v (.tuple (nL l))] = some (.v (.tuple (nL l)), [iv n, .v (.tuple (nL l))]) := by
  rw [c_sure_all_in]
  have b1 : (n : Int) ≤ 1000000 := by omega
  have e1 := e_tupled (k := k) 1 _ (td_nums l hz)
  have hc : compL (turnE (Ph Ir.prog (k + 2)) (.call "is_among" (.cons (.var 3) (.cons (.num 1) (.cons (.bin .LShift (.num 1) (.var 0)) .nil)))) (.nm 3) .tyes) [3] (nL l) [some (iv n), some (.v (.tuple (nL l))), some (.v (.tuple (nL l))), none] = some ((nL l).map fun _ => .bool true, [some (iv n), some (.v (.tuple (nL l))), some (.v (.tuple (nL l))), none]) := by
    apply compL_all
    intro d hd
    obtain ⟨x, hx, rfl⟩ := List.mem_map.mp hd
    obtain ⟨h1, h2⟩ := hl x hx
    have k1 : (1 : Int) ≤ x := by omega
    have k2 : (x : Int) ≤ 2 ^ n := by rw [pow_cast]; omega
    exact ⟨[some (iv n), some (.v (.tuple (nL l))), some (.v (.tuple (nL l))), some (iv x)], by simp [turnE, b1, e_is_among, k1, k2], rfl⟩
  have hA := comp_n (Φ := Ph Ir.prog (k + 2)) (elt := .call "is_among" (.cons (.var 3) (.cons (.num 1) (.cons (.bin .LShift (.num 1) (.var 0)) .nil)))) (tg := .nm 3) (it := .it (.var 2)) (ifs := .tyes) (vs := [3]) (ρ := [some (iv n), some (.v (.tuple (nL l))), some (.v (.tuple (nL l))), none]) (ρ1 := [some (iv n), some (.v (.tuple (nL l))), some (.v (.tuple (nL l))), none]) (ds := nL l) (by simp [seqD]) (by simpa using hz) hc
  have hB := all_n (by intro _; nofun) hA (trues_of _)
  refine runF_of (ρ0 := [some (iv n), some (.v (.tuple (nL l))), none, none]) (ρ1 := [some (iv n), some (.v (.tuple (nL l))), none, none]) rfl rfl (seq_n (asg_n (ρ1 := [some (iv n), some (.v (.tuple (nL l))), none, none]) (r := .v (.tuple (nL l))) (by simp [e1])) (seq_n (ρ1 := [some (iv n), some (.v (.tuple (nL l))), some (.v (.tuple (nL l))), none]) ?_ rfl)) rfl rfl
  have hB' : opd (.bi .all (.cons (.comp (.call "is_among" (.cons (.var 3) (.cons (.num 1) (.cons (.bin .LShift (.num 1) (.var 0)) .nil)))) (.nm 3) (.it (.var 2)) .tyes [3]) .nil)) (evE (Ph Ir.prog (k + 2)) (.bi .all (.cons (.comp (.call "is_among" (.cons (.var 3) (.cons (.num 1) (.cons (.bin .LShift (.num 1) (.var 0)) .nil)))) (.nm 3) (.it (.var 2)) .tyes [3]) .nil))) [some (iv n), some (.v (.tuple (nL l))), some (.v (.tuple (nL l))), none] = some (.d (.bool true), [some (iv n), some (.v (.tuple (nL l))), some (.v (.tuple (nL l))), none]) :=
    (opd_n (by intro _; nofun) hB rfl).trans (by simp)
  simp only [x0_if, tv_or, tv_not, tv_tt, ev_isi]
  simp [isiD, hB', -op_bi]
theorem e_all_both (hn : n ≤ 12) (l : List Nat) (hl : ∀ x ∈ l, 1 ≤ x ∧ x ≤ 2 ^ n) (hz : l.length ≤ 16777216) : Ph Ir.prog (k + 5) "all_both" [iv n, .v (.tuple (nL l))] = some (iv (fl (2 ^ n) l), [iv n, .v (.tuple (nL l))]) := by
  rw [c_all_both]
  have e1 := e_sure_level (k := k) hn
  have e2 := e_sure_all_in (k := k + 1) hn l hl hz
  obtain ⟨r', e3⟩ := e_folded (k := k + 1) hn l hl _ (.inl rfl)
  simp [runF, Ir.f_all_both, Ir.b_all_both, Fn.io, S.st, e1, e2, e3]
theorem e_spreads_at (hn : n ≤ 12) (ha : 1 ≤ a) (ha2 : a ≤ 2 ^ n) (hb : 1 ≤ b) (hb2 : b ≤ 2 ^ n) (hc : 1 ≤ c) (hc2 : c ≤ 2 ^ n) : Ph Ir.prog (k + 5) "spreads_at" [iv n, iv a, iv b, iv c] =
    some (.v (.tuple [.int (op (2 ^ n) a (op (2 ^ n) b c) : Nat), .int (op (2 ^ n) (op (2 ^ n) a b) (op (2 ^ n) a c) : Nat)]), [iv n, iv a, iv b, iv c]) := by
  rw [c_spreads_at]
  have F := fine_pow n
  have e1 := e_sure_level (k := k) hn
  have e2 := e_sure_in (k := k) hn ha ha2
  have e3 := e_sure_in (k := k) hn hb hb2
  have e4 := e_sure_in (k := k) hn hc hc2
  have e5 := e_rows_in (k := k + 3) hn
  have f1 := e_prod (k := k + 3) F (.inr rfl) hb hb2 hc hc2
  have f2 := e_prod (k := k + 3) F (.inr rfl) ha ha2 (op_pos hb hb2 hc) (op_le hb2 hc hc2)
  have f3 := e_prod (k := k + 3) F (.inr rfl) ha ha2 hb hb2
  have f4 := e_prod (k := k + 3) F (.inr rfl) ha ha2 hc hc2
  have f5 := e_prod (k := k + 3) F (.inr rfl) (op_pos ha ha2 hb) (op_le ha2 hb hb2) (op_pos ha ha2 hc) (op_le ha2 hc hc2)
  simp [runF, Ir.f_spreads_at, Ir.b_spreads_at, Fn.io, S.st, e1, e2, e3, e4, e5, f1, f2, f3, f4, f5]
theorem e_laws_of_both (hn : n ≤ 12) (ha : 1 ≤ a) (ha2 : a ≤ 2 ^ n) (hb : 1 ≤ b) (hb2 : b ≤ 2 ^ n) (hc : 1 ≤ c) (hc2 : c ≤ 2 ^ n) : Ph Ir.prog (k + 5) "laws_of_both" [iv n, iv a, iv b, iv c] =
    some (.v (.tuple [.tuple [.int (co (2 ^ n) (co (2 ^ n) a b) c : Nat), .int (co (2 ^ n) a (co (2 ^ n) b c) : Nat)], .tuple [.int (op (2 ^ n) (co (2 ^ n) a b) c : Nat), .int (op (2 ^ n) a (op (2 ^ n) b c) : Nat)],
      .tuple [.int (op (2 ^ n) a (co (2 ^ n) b c) : Nat), .int (co (2 ^ n) (op (2 ^ n) a b) (op (2 ^ n) a c) : Nat)], .tuple [.int (co (2 ^ n) a b : Nat), .int (co (2 ^ n) (op (2 ^ n) a b) a : Nat)]]), [iv n, iv a, iv b, iv c]) := by
  rw [c_laws_of_both]
  have F := fine_pow n
  have hN : 1 ≤ 2 ^ n := Nat.one_le_two_pow
  have e1 := e_sure_level (k := k) hn
  have e2 := e_sure_in (k := k) hn ha ha2
  have e3 := e_sure_in (k := k) hn hb hb2
  have e4 := e_sure_in (k := k) hn hc hc2
  have e5 := e_rows_in (k := k + 3) hn
  have f1 := e_prod (k := k + 3) F (.inr rfl) hb hb2 hc hc2
  have f2 := e_prod (k := k + 3) F (.inr rfl) ha ha2 (op_pos hb hb2 hc) (op_le hb2 hc hc2)
  have f3 := e_prod (k := k + 3) F (.inr rfl) ha ha2 hb hb2
  have f4 := e_prod (k := k + 3) F (.inr rfl) ha ha2 hc hc2
  have f5 := e_prod (k := k + 3) F (.inr rfl) (co_pos hN (a := a) (b := b)) (co_le hN) hc hc2
  have f6 := e_prod (k := k + 3) F (.inr rfl) ha ha2 (co_pos hN (a := b) (b := c)) (co_le hN)
  have g1 := e_both_in (k := k + 2) (b := b) hn (.inr rfl) ha ha2
  have g2 := e_both_in (k := k + 2) (b := c) hn (.inr rfl) hb hb2
  have g3 := e_both_in (k := k + 2) (b := c) hn (.inr rfl) (co_pos hN (a := a) (b := b)) (co_le hN)
  have g4 := e_both_in (k := k + 2) (b := co (2 ^ n) b c) hn (.inr rfl) ha ha2
  have g5 := e_both_in (k := k + 2) (b := op (2 ^ n) a c) hn (.inr rfl) (op_pos ha ha2 hb) (op_le ha2 hb hb2)
  have g6 := e_both_in (k := k + 2) (b := a) hn (.inr rfl) (op_pos ha ha2 hb) (op_le ha2 hb hb2)
  simp [runF, Ir.f_laws_of_both, Ir.b_laws_of_both, Fn.io, S.st, Tg.sl, e1, e2, e3, e4, e5, f1, f2, f3, f4, f5, f6, g1, g2, g3, g4, g5, g6]
end
end Ev

namespace Ev
open PySem Pv L2 Lv
def rowN (N a : Nat) : List Nat := (List.range (per N a)).map fun i => op N a (i + 1)
theorem rowD_eq {N a : Nat} : rowD N a = nL (rowN N a) := by simp [rowD, rowN, nL]
theorem eqv_int (a b : Int) : PyData.eqv (.int a) (.int b) = decide (a = b) := by
  show (a == b) = _
  exact Bool.beq_eq_decide_eq a b
theorem flat_nL (l : List Nat) : (nL l).all flatD = true := by
  rw [List.all_eq_true]
  intro d hd
  obtain ⟨x, _, rfl⟩ := List.mem_map.mp hd
  rfl
theorem in_nL (l : List Nat) (g : Nat) : inD (.int g) (.list (nL l)) = some (decide (g ∈ l)) := by
  show (if (flatD (.int g) && (nL l).all flatD) = true then some _ else _) = _
  rw [if_pos (by rw [flat_nL]; rfl)]
  congr 1
  rw [Bool.eq_iff_iff, List.any_eq_true, decide_eq_true_iff]
  constructor
  · rintro ⟨d, hd, e⟩
    obtain ⟨x, hx, rfl⟩ := List.mem_map.mp hd
    rw [eqv_int, decide_eq_true_iff] at e
    have : x = g := by omega
    rwa [← this]
  · intro h
    exact ⟨.int g, List.mem_map.mpr ⟨g, h, rfl⟩, by rw [eqv_int]; exact decide_eq_true rfl⟩
theorem in_nLT (l : List Nat) (g : Nat) : inD (.int g) (.tuple (nL l)) = some (decide (g ∈ l)) := by
  show (if (flatD (.int g) && (nL l).all flatD) = true then some _ else _) = _
  rw [if_pos (by rw [flat_nL]; rfl)]
  have := in_nL l g
  unfold inD at this
  dsimp only at this
  rw [if_pos (by rw [flat_nL]; rfl)] at this
  exact this
theorem ix_nL : ∀ (l : List Nat) (g : Nat), g ∈ l → ∃ m, ixOf (.int g) (nL l) = some m ∧ l[m]? = some g
  | [], g, h => by cases h
  | x :: l, g, h => by
    by_cases q : x = g
    · subst q
      exact ⟨0, by show (if PyData.eqv (.int (x : Nat)) (.int (x : Nat)) = true then _ else _) = _; rw [if_pos (by rw [eqv_int]; exact decide_eq_true rfl)], rfl⟩
    · obtain ⟨m, e1, e2⟩ := ix_nL l g ((List.mem_cons.mp h).resolve_left fun z => q z.symm)
      refine ⟨m + 1, ?_, e2⟩
      show (if PyData.eqv (.int (x : Nat)) (.int (g : Nat)) = true then _ else (ixOf _ (nL l)).map _) = _
      rw [if_neg (by rw [eqv_int, decide_eq_true_iff]; omega), e1]
      rfl
theorem mem_rowN {N a : Nat} {g : Nat} : g ∈ rowN N a ↔ ∃ j, j < per N a ∧ op N a (j + 1) = g := by
  unfold rowN
  rw [List.mem_map]
  constructor
  · rintro ⟨j, hj, e⟩
    exact ⟨j, List.mem_range.mp hj, e⟩
  · rintro ⟨j, hj, e⟩
    exact ⟨j, List.mem_range.mpr hj, e⟩
section
variable {k n a b c : Nat}
theorem e_divided (hn : n ≤ 12) (ha : 1 ≤ a) (ha2 : a ≤ 2 ^ n) (hb : 1 ≤ b) (hb2 : b ≤ 2 ^ n) (h : b ∈ rowN (2 ^ n) a) : ∃ m, m < per (2 ^ n) a ∧ op (2 ^ n) a (m + 1) = b ∧ Ph Ir.prog (k + 5) "divided" [iv n, iv a, iv b] = some (iv ((m + 1 : Nat)), [iv n, iv a, iv b]) := by
  rw [c_divided]
  have e1 := e_sure_level (k := k) hn
  have e2 := e_sure_in (k := k) hn ha ha2
  have e3 := e_sure_in (k := k) hn hb hb2
  have e4 := e_rows_in (k := k + 3) hn
  have h1 : atI (rowsD (2 ^ n)) (a : Int) = some (.list (nL (rowN (2 ^ n) a))) := by rw [at_nat rfl, rowsD_at ha ha2, rowD_eq]
  obtain ⟨m, m1, m2⟩ := ix_nL _ _ h
  have lm := (List.getElem?_eq_some_iff.mp m2).1
  have lm : m < per (2 ^ n) a := by simpa [rowN] using lm
  refine ⟨m, lm, ?_, ?_⟩
  · unfold rowN at m2
    rw [List.getElem?_map, List.getElem?_range lm] at m2
    exact Option.some.inj m2
  · have h2 := in_nL (rowN (2 ^ n) a) b
    have h3 : mtD .index (.list (nL (rowN (2 ^ n) a))) [.int b] = some (iv m) := by
      show (if (flatD (.int b) && (nL (rowN (2 ^ n) a)).all flatD) = true then (ixOf _ _).bind _ else none) = _
      rw [if_pos (by rw [flat_nL]; rfl), m1]
      rfl
    generalize nL (rowN (2 ^ n) a) = L at *
    simp [runF, Ir.f_divided, Ir.b_divided, Fn.io, S.st, e1, e2, e3, e4, h1, h2, h3, h, isLst]
theorem e_comes_behind (hn : n ≤ 12) (ha : 1 ≤ a) (ha2 : a ≤ 2 ^ n) (hb : 1 ≤ b) (hb2 : b ≤ 2 ^ n) (h : b ∈ rowN (2 ^ n) a) : Ph Ir.prog (k + 6) "comes_behind" [iv n, iv a, iv b] = some (.v (.bool true), [iv n, iv a, iv b]) := by
  rw [c_comes_behind]
  obtain ⟨m, _, _, e⟩ := e_divided (k := k) hn ha ha2 hb hb2 h
  simp [runF, Ir.f_comes_behind, Ir.b_comes_behind, Fn.io, S.st, e, isNonD]
def upN (N : Nat) : List Nat := (List.range N).map (· + 1)
theorem upN_len {N : Nat} : (upN N).length = N := by simp [upN]
theorem mem_upN {N x : Nat} : x ∈ upN N ↔ 1 ≤ x ∧ x ≤ N := by
  unfold upN
  rw [List.mem_map]
  constructor
  · rintro ⟨y, hy, rfl⟩
    have := List.mem_range.mp hy
    omega
  · intro h
    exact ⟨x - 1, List.mem_range.mpr (by omega), by omega⟩
theorem rng_up {N : Nat} : rngD 1 ((N : Int) + 1) = nL (upN N) := by
  unfold rngD upN nL
  rw [List.map_map, show ((N : Int) + 1 - 1).toNat = N by omega]
  apply List.map_congr_left
  intro i _
  show PyData.int (1 + (i : Nat)) = PyData.int ((i + 1 : Nat) : Int)
  rw [show (1 : Int) + (i : Nat) = ((i + 1 : Nat) : Int) by omega]
theorem comp_nat {g : D → Pv.Env → Option (Option D × Pv.Env)} {vs : List Nat} {ρ : Pv.Env} {p : Nat → Bool} {f : Nat → D} (l : List Nat) (h : ∀ x ∈ l, ∃ ρ', g (.int (x : Nat)) ρ = some (if p x then some (f x) else none, ρ') ∧ wipeE ρ' vs = ρ) : compL g vs (nL l) ρ = some ((l.filter p).map f, ρ) := by
  have z := compL_map (g := g) (vs := vs) (ρ := ρ) (h := fun d => match d with | .int i => if p i.toNat then some (f i.toNat) else none | _ => none) (nL l) (fun d hd => by
    obtain ⟨x, hx, rfl⟩ := List.mem_map.mp hd
    obtain ⟨ρ', e, e2⟩ := h x hx
    exact ⟨ρ', by rw [e]; simp, e2⟩)
  rw [z]
  congr 2
  clear z h
  induction l with
  | nil => rfl
  | cons x l ih =>
    show List.filterMap _ (.int (x : Nat) :: nL l) = _
    rw [List.filterMap_cons]
    cases q : p x <;> simp [q, ih]
theorem comp_natA {g : D → Pv.Env → Option (Option D × Pv.Env)} {vs : List Nat} {ρ : Pv.Env} {f : Nat → D} (l : List Nat) (h : ∀ x ∈ l, ∃ ρ', g (.int (x : Nat)) ρ = some (some (f x), ρ') ∧ wipeE ρ' vs = ρ) : compL g vs (nL l) ρ = some (l.map f, ρ) := by
  have z := comp_nat (p := fun _ => true) (f := f) l (fun x hx => by simpa using h x hx)
  rw [z]
  congr 3
  simp
def fixN (N a : Nat) : List Nat := (upN N).filter fun x => decide (op N a x = x)
theorem e_fixed_by (hn : n ≤ 12) (ha : 1 ≤ a) (ha2 : a ≤ 2 ^ n) : Ph Ir.prog (k + 5) "fixed_by" [iv n, iv a] = some (.v (.tuple (nL (fixN (2 ^ n) a))), [iv n, iv a]) := by
  rw [c_fixed_by]
  have e1 := e_sure_level (k := k) hn
  have e2 := e_sure_in (k := k) hn ha ha2
  have e4 := e_rows_in (k := k + 3) hn
  have b1 : (n : Int) ≤ 1000000 := by omega
  have hN := pow_le12 hn
  have hp := pow_cast n
  have F := fine_pow n
  unfold fixN
  generalize 2 ^ n = N at *
  have hc := comp_nat (g := turnE (Ph Ir.prog (k + 4)) (.var 5) (.nm 5) (.tcmp .Eq (.call "product_in" (.cons (.var 4) (.cons (.var 3) (.cons (.var 5) .nil)))) (.var 5))) (vs := [5]) (ρ := [some (iv n), some (iv a), some (iv n), some (iv a), some (.l (rowsD N)), none]) (p := fun x => decide (op N a x = x)) (f := fun x => .int (x : Nat)) (upN N) (fun x hx => by
    obtain ⟨x1, x2⟩ := mem_upN.mp hx
    have e := e_prod (k := k + 3) F (.inr rfl) ha ha2 x1 x2
    refine ⟨[some (iv n), some (iv a), some (iv n), some (iv a), some (.l (rowsD N)), some (iv x)], ?_, rfl⟩
    by_cases q : op N a x = x
    · simp [turnE, e, q]
    · have q2 : ¬ ((op N a x : Nat) : Int) = (x : Int) := by omega
      simp [turnE, e, q, q2])
  have hr := rng2_n (Φ := Ph Ir.prog (k + 4)) (a := .num 1) (b := .bin .Add (.bin .LShift (.num 1) (.var 2)) (.num 1)) (ρ := [some (iv n), some (iv a), some (iv n), some (iv a), some (.l (rowsD N)), none]) (ρ1 := [some (iv n), some (iv a), some (iv n), some (iv a), some (.l (rowsD N)), none]) (ρ2 := [some (iv n), some (iv a), some (iv n), some (iv a), some (.l (rowsD N)), none]) (i := 1) (j := (N : Int) + 1) (o := .d (.int 1)) (p := .d (.int ((N : Int) + 1))) (by simp) (by simp [b1, hp]) rfl rfl (by omega) (by omega) (by omega) (by omega)
  rw [rng_up] at hr
  have hA := comp_n (tg := .nm 5) (vs := [5]) hr (by simp [upN_len]; omega) hc
  refine runF_of (ρ0 := [some (iv n), some (iv a), none, none, none, none]) (ρ1 := [some (iv n), some (iv a), some (iv n), some (iv a), some (.l (rowsD N)), none]) rfl rfl (seq_n (asg_n (ρ1 := [some (iv n), some (iv a), none, none, none, none]) (r := iv n) (by simp [e1])) (seq_n (asg_n (ρ1 := [some (iv n), some (iv a), some (iv n), none, none, none]) (r := iv a) (by simp [e2])) (seq_n (asg_n (ρ1 := [some (iv n), some (iv a), some (iv n), some (iv a), none, none]) (r := .l (rowsD N)) (by simp [e4])) (ret_n ?_)))) rfl rfl
  exact tup_n (by intro _; nofun) hA
end
end Ev

namespace Ev
open PySem Pv L2 Lv
theorem c_whole_in {k : Nat} {rs : List R} : Ph Ir.prog (k + 1) "whole_in" rs = runF (Ph Ir.prog k) Ir.f_whole_in rs := rfl
theorem c_whole_table {k : Nat} {rs : List R} : Ph Ir.prog (k + 1) "whole_table" rs = runF (Ph Ir.prog k) Ir.f_whole_table rs := rfl
theorem c_both_table {k : Nat} {rs : List R} : Ph Ir.prog (k + 1) "both_table" rs = runF (Ph Ir.prog k) Ir.f_both_table rs := rfl
theorem c__law_table {k : Nat} {rs : List R} : Ph Ir.prog (k + 1) "_law_table" rs = runF (Ph Ir.prog k) Ir.f__law_table rs := rfl
section
variable {k n a b c : Nat}
/-- a loop over 1 .. N that appends one thing a turn -/
theorem app_loop {f : D → Pv.Env → Option (Fl × Pv.Env)} (Ev : List D → Option R → Pv.Env) (h : Nat → D) (B : Nat) (l : List Nat) : ∀ (acc : List D) (o : Option R), acc.length + l.length ≤ B → (∀ x ∈ l, ∀ acc o, acc.length ≤ B → f (.int (x : Nat)) (Ev acc o) = some (.next, Ev (acc ++ [h x]) (some (iv x)))) → ∃ o', forL f (nL l) (Ev acc o) = some (.next, Ev (acc ++ l.map h) o') := by
  induction l with
  | nil => exact fun acc o _ _ => ⟨o, by rw [List.map_nil, List.append_nil]; rfl⟩
  | cons x l ih =>
    intro acc o hb hh
    rw [List.length_cons] at hb
    obtain ⟨o', e⟩ := ih (acc ++ [h x]) (some (iv x)) (by rw [List.length_append, List.length_singleton]; omega) fun y hy => hh y (List.mem_cons_of_mem _ hy)
    refine ⟨o', ?_⟩
    show (f (.int (x : Nat)) (Ev acc o)).bind _ = _
    rw [hh x (List.mem_cons_self ..) _ _ (by omega)]
    show forL f (nL l) _ = _
    rw [e, List.append_assoc]
    rfl
def tbl (N : Nat) (f : Nat → Nat → Nat) : List D := (upN N).map fun a => .tuple (nL ((upN N).map fun b => f a b))
theorem app_n {Φ : Phi} {i : Nat} {e : E} {ρ ρ1 : Pv.Env} {xs : List D} {r : R} {d : D} (h0 : getS ρ i = some (.l xs)) (h : evE Φ e ρ = some (r, ρ1)) (h2 : frzO r = some d) (h3 : getS ρ1 i = some (.l xs)) (hl : xs.length + 1 ≤ 16777216) : ex Φ (.app i e) ρ = some (.next, setS ρ1 i (some (.l (xs ++ [d])))) := by
  rw [x0_app, h0]
  simp only [Option.bind_some, ow_l, if_true]
  rw [h]
  simp only [Option.bind_some]
  rw [h2]
  simp only [Option.bind_some]
  rw [h3]
  simp only [Option.bind_some]
  rw [if_pos (okN_t hl)]
theorem e_whole_in (hn : n ≤ 6) : Ph Ir.prog (k + 2) "whole_in" [iv n] = some (.v (.tuple (tbl (2 ^ n) (op (2 ^ n)))), [iv n]) := by
  rw [c_whole_in]
  have e4 := e_rows_in (k := k) (n := n) (by omega)
  have b1 : (n : Int) ≤ 1000000 := by omega
  have hN1 : 1 ≤ 2 ^ n := Nat.one_le_two_pow
  have hN := pow_le12 (n := n) (by omega)
  have hp := pow_cast n
  have F := fine_pow n
  generalize 2 ^ n = N at *
  let f : D → Pv.Env → Option (Fl × Pv.Env) := fun d ρ => (bindT (.nm 2) d ρ).bind fun ρ2 => ex (Ph Ir.prog (k + 1)) (.seq (.app 4 (.bi .tuple (.cons (.comp (.call "product_in" (.cons (.var 3) (.cons (.var 2) (.cons (.var 5) .nil)))) (.nm 5) (.rng2 (.num 1) (.bin .Add (.var 1) (.num 1))) .tyes [5]) .nil))) .skip) ρ2
  let Ev : List D → Option R → Pv.Env := fun acc o => [some (iv n), some (iv N), o, some (.l (rowsD N)), some (.l acc), none]
  have hl : ∀ x ∈ upN N, ∀ acc o, acc.length ≤ 10000 → f (.int (x : Nat)) (Ev acc o) = some (.next, Ev (acc ++ [.tuple (nL ((upN N).map fun b => op N x b))]) (some (iv x))) := by
    intro x hx acc o hacc
    obtain ⟨x1, x2⟩ := mem_upN.mp hx
    have hc := comp_natA (g := turnE (Ph Ir.prog (k + 1)) (.call "product_in" (.cons (.var 3) (.cons (.var 2) (.cons (.var 5) .nil)))) (.nm 5) .tyes) (vs := [5]) (ρ := Ev acc (some (iv x))) (f := fun b => .int (op N x b : Nat)) (upN N) (fun b hb => by
      obtain ⟨y1, y2⟩ := mem_upN.mp hb
      have e := e_prod (k := k) F (.inr rfl) x1 x2 y1 y2
      exact ⟨[some (iv n), some (iv N), some (iv x), some (.l (rowsD N)), some (.l acc), some (iv b)], by simp [turnE, Ev, e], rfl⟩)
    have hr := rng2_n (Φ := Ph Ir.prog (k + 1)) (a := .num 1) (b := .bin .Add (.var 1) (.num 1)) (ρ := Ev acc (some (iv x))) (ρ1 := Ev acc (some (iv x))) (ρ2 := Ev acc (some (iv x))) (i := 1) (j := (N : Int) + 1) (o := .d (.int 1)) (p := .d (.int ((N : Int) + 1))) (by simp) (by simp [Ev]) rfl rfl (by omega) (by omega) (by omega) (by omega)
    rw [rng_up] at hr
    have hA := comp_n (tg := .nm 5) (vs := [5]) hr (by simp [upN_len]; omega) hc
    have hT := tup_n (by intro _; nofun) hA
    show ex _ _ (Ev acc (some (iv x))) = _
    refine seq_n (app_n (xs := acc) rfl hT rfl rfl (by omega)) ?_
    simp [Ev]
  obtain ⟨o', ef⟩ := app_loop (f := f) Ev (fun x => .tuple (nL ((upN N).map fun b => op N x b))) 10000 (upN N) [] none (by rw [upN_len]; simp; omega) hl
  have hr := rng2_n (Φ := Ph Ir.prog (k + 1)) (a := .num 1) (b := .bin .Add (.var 1) (.num 1)) (ρ := Ev [] none) (ρ1 := Ev [] none) (ρ2 := Ev [] none) (i := 1) (j := (N : Int) + 1) (o := .d (.int 1)) (p := .d (.int ((N : Int) + 1))) (by simp) (by simp [Ev]) rfl rfl (by omega) (by omega) (by omega) (by omega)
  rw [rng_up] at hr
  exact runF_of (ρ0 := [some (iv n), none, none, none, none, none]) (ρ1 := [some (iv n), some (iv N), o', some (.l (rowsD N)), some (.l (tbl N (op N))), none]) rfl rfl (seq_n (ρ1 := [some (iv n), none, none, some (.l (rowsD N)), some (.l []), none]) (by simp [e4]) (seq_n (asg_n (ρ1 := [some (iv n), none, none, some (.l (rowsD N)), some (.l []), none]) (r := iv N) (by simp [b1, hp])) (seq_n (for_n hr ef) (ret_n (by simp [Ev, tbl])))))  rfl rfl
theorem e_whole_table (hn : n ≤ 6) : Ph Ir.prog (k + 5) "whole_table" [iv n] = some (.v (.tuple (tbl (2 ^ n) (op (2 ^ n)))), [iv n]) := by
  rw [c_whole_table]
  have e1 := e_sure_level (k := k) (n := n) (by omega)
  have e2 := e_whole_in (k := k + 2) hn
  have h : ¬ (6 : Int) < n := by omega
  simp [runF, Ir.f_whole_table, Ir.b_whole_table, Fn.io, S.st, e1, e2, h]
theorem e_both_table (hn : n ≤ 6) : Ph Ir.prog (k + 5) "both_table" [iv n] = some (.v (.tuple (tbl (2 ^ n) (co (2 ^ n)))), [iv n]) := by
  rw [c_both_table]
  have e1 := e_sure_level (k := k) (n := n) (by omega)
  have e4 := e_rows_in (k := k + 3) (n := n) (by omega)
  have b1 : (n : Int) ≤ 1000000 := by omega
  have b2 : ¬ (6 : Int) < n := by omega
  have hN := pow_le12 (n := n) (by omega)
  have hp := pow_cast n
  have e5 : ∀ x b, 1 ≤ x → x ≤ 2 ^ n → Ph Ir.prog (k + 4) "both_in" [iv n, .l (rowsD (2 ^ n)), iv x, iv b] = some (iv (co (2 ^ n) x b), [iv n, .l (rowsD (2 ^ n)), iv x, iv b]) := fun x b h1 h2 => e_both_in (k := k + 2) (b := b) (by omega) (.inr rfl) h1 h2
  generalize 2 ^ n = N at *
  let f : D → Pv.Env → Option (Fl × Pv.Env) := fun d ρ => (bindT (.nm 3) d ρ).bind fun ρ2 => ex (Ph Ir.prog (k + 4)) (.seq (.app 2 (.bi .tuple (.cons (.comp (.call "both_in" (.cons (.var 1) (.cons (.var 4) (.cons (.var 3) (.cons (.var 6) .nil))))) (.nm 6) (.rng2 (.num 1) (.bin .Add (.var 5) (.num 1))) .tyes [6]) .nil))) .skip) ρ2
  let Ev : List D → Option R → Pv.Env := fun acc o => [some (iv n), some (iv n), some (.l acc), o, some (.l (rowsD N)), some (iv N), none]
  have hl : ∀ x ∈ upN N, ∀ acc o, acc.length ≤ 10000 → f (.int (x : Nat)) (Ev acc o) = some (.next, Ev (acc ++ [.tuple (nL ((upN N).map fun b => co N x b))]) (some (iv x))) := by
    intro x hx acc o hacc
    obtain ⟨x1, x2⟩ := mem_upN.mp hx
    have hc := comp_natA (g := turnE (Ph Ir.prog (k + 4)) (.call "both_in" (.cons (.var 1) (.cons (.var 4) (.cons (.var 3) (.cons (.var 6) .nil))))) (.nm 6) .tyes) (vs := [6]) (ρ := Ev acc (some (iv x))) (f := fun b => .int (co N x b : Nat)) (upN N) (fun b hb => by
      exact ⟨[some (iv n), some (iv n), some (.l acc), some (iv x), some (.l (rowsD N)), some (iv N), some (iv b)], by simp [turnE, Ev, e5 x b x1 x2], rfl⟩)
    have hr := rng2_n (Φ := Ph Ir.prog (k + 4)) (a := .num 1) (b := .bin .Add (.var 5) (.num 1)) (ρ := Ev acc (some (iv x))) (ρ1 := Ev acc (some (iv x))) (ρ2 := Ev acc (some (iv x))) (i := 1) (j := (N : Int) + 1) (o := .d (.int 1)) (p := .d (.int ((N : Int) + 1))) (by simp) (by simp [Ev]) rfl rfl (by omega) (by omega) (by omega) (by omega)
    rw [rng_up] at hr
    have hA := comp_n (tg := .nm 6) (vs := [6]) hr (by simp [upN_len]; omega) hc
    have hT := tup_n (by intro _; nofun) hA
    show ex _ _ (Ev acc (some (iv x))) = _
    refine seq_n (app_n (xs := acc) rfl hT rfl rfl (by omega)) ?_
    simp [Ev]
  obtain ⟨o', ef⟩ := app_loop (f := f) Ev (fun x => .tuple (nL ((upN N).map fun b => co N x b))) 10000 (upN N) [] none (by rw [upN_len]; simp; omega) hl
  have hr := rng2_n (Φ := Ph Ir.prog (k + 4)) (a := .num 1) (b := .bin .Add (.var 5) (.num 1)) (ρ := Ev [] none) (ρ1 := Ev [] none) (ρ2 := Ev [] none) (i := 1) (j := (N : Int) + 1) (o := .d (.int 1)) (p := .d (.int ((N : Int) + 1))) (by simp) (by simp [Ev]) rfl rfl (by omega) (by omega) (by omega) (by omega)
  rw [rng_up] at hr
  exact runF_of (ρ0 := [some (iv n), none, none, none, none, none, none]) (ρ1 := [some (iv n), some (iv n), some (.l (tbl N (co N))), o', some (.l (rowsD N)), some (iv N), none]) rfl rfl (seq_n (asg_n (ρ1 := [some (iv n), none, none, none, none, none, none]) (r := iv n) (by simp [e1])) (seq_n (ρ1 := [some (iv n), some (iv n), none, none, none, none, none]) (by simp [b2]) (seq_n (ρ1 := [some (iv n), some (iv n), none, none, some (.l (rowsD N)), some (iv N), none]) (by simp [e4, b1, hp]) (seq_n (ρ1 := [some (iv n), some (iv n), some (.l []), none, some (.l (rowsD N)), some (iv N), none]) (by simp) (seq_n (for_n hr ef) (ret_n (by simp [Ev, tbl]))))))) rfl rfl
end
end Ev

namespace Ev
open PySem Pv L2 Lv
def trow (N a : Nat) : List D := (List.range (N + 1)).map fun b => .int ((if b = 0 then 0 else op N a b : Nat) : Int)
theorem trow_len {N a : Nat} : (trow N a).length = N + 1 := by simp [trow]
theorem trow_at {N a b : Nat} (h1 : 1 ≤ b) (h : b ≤ N) : (trow N a)[b]? = some (.int (op N a b : Nat)) := by
  unfold trow
  rw [List.getElem?_map, List.getElem?_range (by omega)]
  show some (PyData.int ((if b = 0 then 0 else op N a b : Nat) : Int)) = _
  rw [if_neg (by omega)]
def tst (N i : Nat) : List D := (List.range (N + 1)).map fun a => if N - i ≤ a then .list (trow N a) else .none
theorem tst_len {N i : Nat} : (tst N i).length = N + 1 := by simp [tst]
theorem tst_at {N i a : Nat} (h : a ≤ N) (h2 : N - i ≤ a) : (tst N i)[a]? = some (.list (trow N a)) := by
  unfold tst
  rw [List.getElem?_map, List.getElem?_range (by omega)]
  show some (if N - i ≤ a then PyData.list (trow N a) else .none) = _
  rw [if_pos h2]
theorem tst_set {N i : Nat} (h : i + 1 ≤ N) : (tst N i).set (N - (i + 1)) (.list (trow N (N - (i + 1)))) = tst N (i + 1) := by
  apply List.ext_getElem?
  intro m
  by_cases hm : m ≤ N
  · by_cases q : m = N - (i + 1)
    · rw [q, List.getElem?_set_self (by rw [tst_len]; omega), tst_at (by omega) (Nat.le_refl _)]
    · rw [List.getElem?_set_ne (Ne.symm q)]
      unfold tst
      rw [List.getElem?_map, List.getElem?_map, List.getElem?_range (by omega)]
      show some (if N - i ≤ m then PyData.list (trow N m) else .none) = some (if N - (i + 1) ≤ m then PyData.list (trow N m) else .none)
      by_cases w : N - i ≤ m
      · rw [if_pos w, if_pos (by omega)]
      · rw [if_neg w, if_neg (by omega)]
  · rw [List.getElem?_eq_none (by rw [List.length_set, tst_len]; omega), List.getElem?_eq_none (by rw [tst_len]; omega)]
def tabD (N : Nat) : List D := tst N (N - 1)
theorem tabD_at {N a : Nat} (ha : 1 ≤ a) (h : a ≤ N) : (tabD N)[a]? = some (.list (trow N a)) := tst_at h (by omega)
def tEnv (n N i a j : Nat) (o : Option R) : Pv.Env := [some (iv n), some (iv N), some (.l (tst N i)), some (iv a), some (.l ((trow N a).take (j + 2))), o]
theorem e__law_table {k n : Nat} (hn : n ≤ 12) : Ph Ir.prog (k + 1) "_law_table" [iv n] = some (.l (tabD (2 ^ n)), [iv n]) := by
  rw [c__law_table]
  have hN1 : 1 ≤ 2 ^ n := Nat.one_le_two_pow
  have hN2 : 2 ^ n ≤ 4096 := pow_le12 hn
  have hp := pow_cast n
  have b1 : (n : Int) ≤ 1000000 := by omega
  generalize 2 ^ n = N at *
  let f : D → Pv.Env → Option (Fl × Pv.Env) := fun d ρ => (bindT (.nm 3) d ρ).bind fun ρ2 => ex (Ph Ir.prog k) (.seq (.asg 4 (.lst (.cons (.num 0) (.cons (.bin .Add (.var 3) (.num 1)) .nil)))) (.seq (.for_ (.nm 5) (.rng2 (.num 1) (.var 1)) (.seq (.app 4 (.idx (.idx (.var 2) (.idx (.var 4) (.var 5))) (.bin .Add (.var 3) (.num 1)))) .skip)) (.seq (.setx 2 (.var 3) (.var 4)) .skip))) ρ2
  have hturn : ∀ i a : Nat, a = N - (i + 1) → 1 ≤ a → i + 1 ≤ N → ∀ o3 o4 o5 : Option R, ∃ o4' o5', f (.int a) [some (iv n), some (iv N), some (.l (tst N i)), o3, o4, o5] = some (.next, [some (iv n), some (iv N), some (.l (tst N (i + 1))), some (iv a), o4', o5']) := by
    intro i a ea ha hi o3 o4 o5
    have hlt : a < N := by omega
    have tk : ∀ j, j ≤ N → (trow N a).take (j + 1) = (trow N a).take j ++ [.int ((if j = 0 then 0 else op N a j : Nat) : Int)] := fun j hj => by
      rw [List.take_add_one]
      unfold trow
      rw [List.getElem?_map, List.getElem?_range (by omega)]
      rfl
    let g : D → Pv.Env → Option (Fl × Pv.Env) := fun d ρ => (bindT (.nm 5) d ρ).bind fun ρ2 => ex (Ph Ir.prog k) (.seq (.app 4 (.idx (.idx (.var 2) (.idx (.var 4) (.var 5))) (.bin .Add (.var 3) (.num 1)))) .skip) ρ2
    obtain ⟨ρ', eg, o5', hρ⟩ := forL_turns (f := g) (fun j ρ => ∃ o, ρ = tEnv n N i a j o) (rngD 1 N) 0 (tEnv n N i a 0 o5) ⟨_, rfl⟩ (fun j d ρ hj ⟨o, hρ⟩ => by
      subst hρ
      have lt := (List.getElem?_eq_some_iff.mp hj).1
      rw [rngD_len] at lt
      obtain rfl := rngD_get hj
      rw [Nat.zero_add]
      have y1 := op_gt hlt (b := j + 1) (by omega)
      have y2 := op_le' hlt (b := j + 1) (by omega)
      have r0 : atI ((trow N a).take (j + 2)) ((1 : Int) + (j : Nat)) = some (.int (op N a (j + 1) : Nat)) := by
        rw [at_nat (n := j + 1) (by omega), List.getElem?_take, if_pos (by omega), trow_at (by omega) (by omega)]
      have r1 : atI (tst N i) ((op N a (j + 1) : Nat) : Int) = some (.list (trow N (op N a (j + 1)))) := by rw [at_nat rfl, tst_at (by omega) (by omega)]
      have r2 : atI (trow N (op N a (j + 1))) ((a : Int) + 1) = some (.int (op N a (j + 2) : Nat)) := by
        rw [at_nat (n := a + 1) (by omega), trow_at (by omega) (by omega), op_succ hlt (b := j + 1) (by omega)]
      have ok : okN (min (j + 2) (N + 1) + 1) = true := okN_t (by omega)
      have tk2 : (trow N a).take (j + 1 + 2) = (trow N a).take (j + 2) ++ [.int (op N a (j + 2) : Nat)] := by
        rw [tk (j + 2) (by omega), if_neg (by omega)]
      refine ⟨tEnv n N i a (j + 1) (some (.v (.int (1 + (j : Nat))))), .inl ?_, _, rfl⟩
      simp only [tEnv, tk2]
      simp [g, r0, r1, r2, trow_len, ok])
    subst hρ
    rw [rngD_len, Nat.zero_add, show ((N : Int) - 1).toNat = N - 1 by omega] at eg
    have full : (trow N a).take (N - 1 + 2) = trow N a := List.take_of_length_le (by rw [trow_len]; omega)
    refine ⟨some (.v (.list (trow N a))), o5', ?_⟩
    show ex _ _ [some (iv n), some (iv N), some (.l (tst N i)), some (iv a), o4, o5] = _
    have t1 : (trow N a).take (0 + 2) = [.int 0, .int ((a : Int) + 1)] := by
      rw [tk 1 (by omega), tk 0 (by omega), List.take_zero, if_pos rfl, if_neg (by omega), op_one hlt]
      rfl
    have hr := rng2_n (Φ := Ph Ir.prog k) (a := .num 1) (b := .var 1) (ρ := tEnv n N i a 0 o5) (ρ1 := tEnv n N i a 0 o5) (ρ2 := tEnv n N i a 0 o5) (i := 1) (j := (N : Int)) (o := .d (.int 1)) (p := .sl 1) (by simp) (by simp [tEnv]) rfl rfl (by omega) (by omega) (by omega) (by omega)
    refine seq_n (ρ1 := tEnv n N i a 0 o5) (asg_n (ρ1 := [some (iv n), some (iv N), some (.l (tst N i)), some (iv a), o4, o5]) (r := .l ((trow N a).take (0 + 2))) (by simp only [t1]; simp)) (seq_n (for_n hr eg) (seq_n ?_ rfl))
    have e2 : ixN (tst N i).length (a : Int) = some a := ix_nat rfl (by rw [tst_len]; omega)
    have e3 : (tst N i).set a (.list (trow N a)) = tst N (i + 1) := by
      rw [ea]
      exact tst_set hi
    simp [tEnv, full, e2, e3]
  obtain ⟨ρ', ef, o3', o4', o5', hρ⟩ := forL_turns (f := f) (fun i ρ => ∃ o3 o4 o5, ρ = [some (iv n), some (iv N), some (.l (tst N i)), o3, o4, o5]) (rngC ((N : Int) - 1) (-1) (N - 1)) 0
    [some (iv n), some (iv N), some (.l (tst N 0)), none, none, none] ⟨_, _, _, rfl⟩ (fun j d ρ hj ⟨o3, o4, o5, hρ⟩ => by
      subst hρ
      have lt := (List.getElem?_eq_some_iff.mp hj).1
      rw [rngC_len] at lt
      rw [rngC_at lt] at hj
      cases hj
      obtain ⟨o4', o5', e⟩ := hturn j (N - (j + 1)) rfl (by omega) (by omega) o3 o4 o5
      rw [show (((N - (j + 1) : Nat)) : Int) = (N : Int) - 1 - (j : Nat) by omega] at e
      rw [Nat.zero_add]
      exact ⟨_, .inl e, _, _, _, rfl⟩)
  subst hρ
  rw [rngC_len, Nat.zero_add] at ef
  have z := rng3_n (Φ := Ph Ir.prog k) (a := .bin .Sub (.var 1) (.num 1)) (b := .num 0) (c := .neg (.num 1)) (ρ := [some (iv n), some (iv N), some (.l (tst N 0)), none, none, none]) (i := (N : Int) - 1) (j := 0) (ρ1 := [some (iv n), some (iv N), some (.l (tst N 0)), none, none, none]) (ρ2 := [some (iv n), some (iv N), some (.l (tst N 0)), none, none, none]) (ρ3 := [some (iv n), some (iv N), some (.l (tst N 0)), none, none, none]) (o := .d (.int ((N : Int) - 1))) (p := .d (.int 0)) (u := .d (.int (-1))) (by simp) (by simp) (by simp) rfl rfl rfl (by omega) (by omega) (by omega) (by omega)
  rw [show ((N : Int) - 1 - 0).toNat = N - 1 by omega] at z
  have hrep : binD .Mult (.list [.none]) (.int ((N : Int) + 1)) = some (.l (List.replicate (N + 1) .none)) := by
    have h1 : in62 ((N : Int) + 1) = true := in62_of (by omega) (by omega)
    have h2 : okN ([PyData.none].length * ((N : Int) + 1).toNat) = true := okN_t (by simp; omega)
    rw [bd_rep, if_pos ⟨h1, h2⟩, show (N : Int) + 1 = ((N + 1 : Nat) : Int) by omega, rep_flat]
  have hL := lrg_n (rng1_n (Φ := Ph Ir.prog k) (a := .bin .Add (.var 1) (.num 1)) (ρ := [some (iv n), some (iv N), some (.l (List.replicate (N + 1) .none)), none, none, none]) (ρ1 := [some (iv n), some (iv N), some (.l (List.replicate (N + 1) .none)), none, none, none]) (j := (N : Int) + 1) (o := .d (.int ((N : Int) + 1))) (by simp) rfl (by omega) (by omega)) (by rw [rngD_len]; omega)
  have h0 : (List.replicate (N + 1) PyData.none).set N (.list (rngD 0 ((N : Int) + 1))) = tst N 0 := by
    have top : rngD 0 ((N : Int) + 1) = trow N N := by
      unfold rngD trow
      rw [show ((N : Int) + 1 - 0).toNat = N + 1 by omega]
      apply List.map_congr_left
      intro i _
      rw [op_N, show (0 : Int) + (i : Nat) = ((if i = 0 then 0 else i : Nat) : Int) by split <;> omega]
    apply List.ext_getElem?
    intro m
    by_cases q : m = N
    · rw [q, List.getElem?_set_self (by simp), tst_at (Nat.le_refl _) (by omega), top]
    · rw [List.getElem?_set_ne (Ne.symm q)]
      by_cases hm : m < N
      · rw [List.getElem?_replicate, if_pos (by omega)]
        unfold tst
        rw [List.getElem?_map, List.getElem?_range (by omega)]
        show _ = some (if N - 0 ≤ m then PyData.list (trow N m) else .none)
        rw [if_neg (by omega)]
      · rw [List.getElem?_eq_none (by simp; omega), List.getElem?_eq_none (by rw [tst_len]; omega)]
  refine runF_of (ρ0 := [some (iv n), none, none, none, none, none]) (ρ1 := [some (iv n), some (iv N), none, o3', o4', o5']) rfl rfl (seq_n (asg_n (ρ1 := [some (iv n), none, none, none, none, none]) (r := iv N) (by simp [b1, hp])) (seq_n (asg_n (ρ1 := [some (iv n), some (iv N), none, none, none, none]) (r := .l (List.replicate (N + 1) .none)) (by
    have : binD .Mult (.list [.none]) (.int ((N : Int) + 1)) = _ := hrep
    simp [hrep, -bd_rep])) (seq_n (ρ1 := [some (iv n), some (iv N), some (.l (tst N 0)), none, none, none]) ?_ (seq_n (for_n z ef) rfl)))) rfl rfl
  have e2 : ixN (N + 1) (N : Int) = some N := ix_nat rfl (by omega)
  show ex _ _ [some (iv n), some (iv N), some (.l (List.replicate (N + 1) .none)), none, none, none] = _
  rw [x0_setx, hL]
  simp [e2, h0]
end Ev

namespace Ev
open PySem Pv L2 Lv
theorem c_is_bush_in {k : Nat} {rs : List R} : Ph Ir.prog (k + 1) "is_bush_in" rs = runF (Ph Ir.prog k) Ir.f_is_bush_in rs := rfl
theorem c_is_long {k : Nat} {rs : List R} : Ph Ir.prog (k + 1) "is_long" rs = runF (Ph Ir.prog k) Ir.f_is_long rs := rfl
theorem c_sure_bush {k : Nat} {rs : List R} : Ph Ir.prog (k + 1) "sure_bush" rs = runF (Ph Ir.prog k) Ir.f_sure_bush rs := rfl
theorem c_worth_by {k : Nat} {rs : List R} : Ph Ir.prog (k + 1) "worth_by" rs = runF (Ph Ir.prog k) Ir.f_worth_by rs := rfl
theorem c_worth {k : Nat} {rs : List R} : Ph Ir.prog (k + 1) "worth" rs = runF (Ph Ir.prog k) Ir.f_worth rs := rfl
theorem c__law_net {k : Nat} {rs : List R} : Ph Ir.prog (k + 1) "_law_net" rs = runF (Ph Ir.prog k) Ir.f__law_net rs := rfl
/-! bushes -/
inductive Bt where
  | o | n (l r : Bt)
def Bt.d : Bt → D
  | .o => .tuple []
  | .n l r => .tuple [l.d, r.d]
def Bt.dep : Bt → Nat
  | .o => 0
  | .n l r => max l.dep r.dep + 1
def Bt.lv : Bt → Nat
  | .o => 1
  | .n l r => l.lv + r.lv
theorem Bt.dep_lt : ∀ t : Bt, t.dep < t.lv
  | .o => by show 0 < 1; omega
  | .n l r => by
    have := l.dep_lt
    have := r.dep_lt
    show max l.dep r.dep + 1 < l.lv + r.lv
    omega
def Bt.w (N : Nat) : Bt → Nat
  | .o => 1
  | .n l r => op N (l.w N) (r.w N)
theorem Bt.w_rng {N : Nat} (hN : 1 ≤ N) : ∀ t : Bt, 1 ≤ t.w N ∧ t.w N ≤ N
  | .o => ⟨Nat.le_refl _, hN⟩
  | .n l r => by
    obtain ⟨a, b⟩ := l.w_rng hN
    obtain ⟨c, d⟩ := r.w_rng hN
    exact ⟨op_pos a b c, op_le b c d⟩
theorem Bt.td : ∀ (t : Bt) (c : Nat), t.dep < c → TD c t.d
  | .o, c + 1, _ => ⟨by simp, fun d hd => by cases hd⟩
  | .n l r, c + 1, h => by
    have h : max l.dep r.dep + 1 < c + 1 := h
    refine ⟨by simp, fun d hd => ?_⟩
    rcases List.mem_cons.mp hd with rfl | hd
    · exact l.td c (by omega)
    · rcases List.mem_cons.mp hd with rfl | hd
      · exact r.td c (by omega)
      · cases hd
theorem Bt.lay : ∀ t : Bt, t.d.canLay0 = true ∧ t.d.depth ≤ t.dep + 1
  | .o => ⟨rfl, Nat.le_refl _⟩
  | .n l r => by
    obtain ⟨a, b⟩ := l.lay
    obtain ⟨c, d⟩ := r.lay
    refine ⟨?_, ?_⟩
    · show (l.d.canLay0 && (r.d.canLay0 && true)) = true
      rw [a, c]
      rfl
    · show max l.d.depth (max r.d.depth 0) + 1 ≤ max l.dep r.dep + 1 + 1
      omega
theorem Bt.sh (t : Bt) (h : t.dep ≤ 60) : SeqAt.shaped t.d = true := by
  obtain ⟨a, b⟩ := t.lay
  show (t.d.canLay0 && decide (t.d.depth ≤ 64)) = true
  rw [a, Bool.true_and]
  exact decide_eq_true (by omega)
def Bt.isO : Bt → Bool
  | .o => true
  | .n _ _ => false
theorem Bt.eq0 (t : Bt) (h : t.dep ≤ 60) : eqD t.d (.tuple []) = some t.isO := by
  have h1 := t.sh h
  have h2 := Bt.sh .o (by decide)
  have e : eqD t.d (.tuple []) = if (SeqAt.shaped t.d && SeqAt.shaped (.tuple [])) = true then some (PyData.eqv t.d (.tuple [])) else none := by
    cases t <;> rfl
  rw [e, h1, show SeqAt.shaped (.tuple []) = true from h2, if_pos (show (true && true) = true from rfl)]
  cases t <;> rfl
section
variable {k n a b c : Nat}
theorem e_is_bush_in : ∀ (c : Nat) (t : Bt), t.dep < c → t.dep ≤ 60 → Ph Ir.prog (k + c + 1) "is_bush_in" [.v t.d] = some (.v (.bool true), [.v t.d]) := by
  intro c
  induction c with
  | zero => intro t h; omega
  | succ c ih =>
    intro t h h2
    rw [c_is_bush_in]
    have e0 := t.eq0 h2
    cases t with
    | o =>
      have e0 : eqD (.tuple []) (.tuple []) = some true := e0
      simp [runF, Ir.f_is_bush_in, Ir.b_is_bush_in, Fn.io, S.st, Bt.d, isiD, e0]
    | n l r =>
      have h : max l.dep r.dep + 1 < c + 1 := h
      have h2 : max l.dep r.dep + 1 ≤ 60 := h2
      have e0 : eqD (.tuple [l.d, r.d]) (.tuple []) = some false := e0
      have e1 := ih l (by omega) (by omega)
      have e2 := ih r (by omega) (by omega)
      have e3 : Ph Ir.prog (k + c + 1) "is_long" [.v (.tuple [l.d, r.d]), .v (.int 2)] = some (.v (.bool true), [.v (.tuple [l.d, r.d]), .v (.int 2)]) := by
        rw [c_is_long]
        simp [runF, Ir.f_is_long, Ir.b_is_long, Fn.io, S.st, isiD]
      have a0 : atI [l.d, r.d] 0 = some l.d := rfl
      have a1 : atI [l.d, r.d] 1 = some r.d := rfl
      simp [runF, Ir.f_is_bush_in, Ir.b_is_bush_in, Fn.io, S.st, Bt.d, isiD, e0, show k + (c + 1) = k + c + 1 from rfl, e1, e2, e3, a0, a1]
theorem e_sure_bush (t : Bt) (h : t.dep < 20) : Ph Ir.prog (k + 22) "sure_bush" [.v t.d] = some (.v t.d, [.v t.d]) := by
  rw [c_sure_bush]
  have e1 := e_tupled (k := k) 20 t.d (t.td 20 h)
  have e2 := e_is_bush_in (k := k) 20 t h (by omega)
  simp [runF, Ir.f_sure_bush, Ir.b_sure_bush, Fn.io, S.st, e1, e2]
theorem e_worth_by {N : Nat} {r : R} (hN : 1 ≤ N) (F : Fine N) (hr : RowsR N r) : ∀ (c : Nat) (t : Bt), t.dep < c → t.dep ≤ 60 → Ph Ir.prog (k + c + 1) "worth_by" [r, .v t.d] = some (iv (t.w N), [r, .v t.d]) := by
  intro c
  induction c with
  | zero => intro t h; omega
  | succ c ih =>
    intro t h h2
    rw [c_worth_by]
    have e0 := t.eq0 h2
    cases t with
    | o =>
      have e0 : eqD (.tuple []) (.tuple []) = some true := e0
      rcases hr with rfl | rfl <;> simp [runF, Ir.f_worth_by, Ir.b_worth_by, Fn.io, S.st, Bt.d, e0, Bt.w]
    | n l s =>
      have h : max l.dep s.dep + 1 < c + 1 := h
      have h2 : max l.dep s.dep + 1 ≤ 60 := h2
      have e0 : eqD (.tuple [l.d, s.d]) (.tuple []) = some false := e0
      have e1 := ih l (by omega) (by omega)
      have e2 := ih s (by omega) (by omega)
      obtain ⟨w1, w2⟩ := l.w_rng hN
      obtain ⟨w3, w4⟩ := s.w_rng hN
      have e3 := e_prod (k := k + c) F hr w1 w2 w3 w4
      have a0 : atI [l.d, s.d] 0 = some l.d := rfl
      have a1 : atI [l.d, s.d] 1 = some s.d := rfl
      rcases hr with rfl | rfl <;> simp [runF, Ir.f_worth_by, Ir.b_worth_by, Fn.io, S.st, Bt.d, e0, Bt.w, show k + (c + 1) = k + c + 1 from rfl, e1, e2, e3, a0, a1]
theorem e_worth (hn : n ≤ 12) (t : Bt) (h : t.dep < 20) : Ph Ir.prog (k + 23) "worth" [iv n, .v t.d] = some (iv (t.w (2 ^ n)), [iv n, .v t.d]) := by
  rw [c_worth]
  have e1 := e_sure_level (k := k + 18) hn
  have e2 := e_rows_in (k := k + 21) hn
  have e3 := e_sure_bush (k := k) t h
  have e4 := e_worth_by (k := k + 1) Nat.one_le_two_pow (fine_pow n) (.inr rfl) 20 t h (by omega)
  simp [runF, Ir.f_worth, Ir.b_worth, Fn.io, S.st, e1, e2, e3, e4]
/-- the draws: c at most were taken -/
def Tn (c : Nat) (r : R) : Prop := ∃ x y z : Int, r = .l (tinD x y z) ∧ TinI c x y z
theorem Tn.take {c : Nat} {r : R} (t : Tn c r) (hc : c < 1000000) (m : Nat) (h1 : 1 ≤ m) (h2 : m ≤ 1000000) (k : Nat) : ∃ (v : Nat) (r' : R), Tn (c + 1) r' ∧ v < m ∧ Ph Ir.prog (k + 1) "_law_take" [r, iv m] = some (iv v, [r', iv m]) := by
  obtain ⟨x, y, z, rfl, t⟩ := t
  obtain ⟨v, x', z', t', v1, v2, e⟩ := e__law_take (k := k) hc t (b := m) (by omega) (by omega)
  obtain ⟨w, rfl⟩ : ∃ w : Nat, v = w := ⟨v.toNat, by omega⟩
  exact ⟨w, _, ⟨x', y, z', rfl, t'⟩, by omega, e⟩
theorem e_periods (hn : n ≤ 10) : ∃ ds : List D, ds.length = 2 ^ n ∧ Ph Ir.prog (k + 6) "periods" [iv n] = some (.v (.tuple ds), [iv n]) := by
  rw [c_periods]
  have e1 := e_sure_level (k := k) (n := n) (by omega)
  have b : ¬ (10 : Int) < n := by omega
  have e2 : Ph Ir.prog (k + 5) "sure_listed" [iv n] = some (iv n, [iv n]) := by
    rw [c_sure_listed]
    simp [runF, Ir.f_sure_listed, Ir.b_sure_listed, Fn.io, S.st, e1, b]
  have e3 := e_rows_in (k := k + 4) (n := n) (by omega)
  have hN := pow_le12 (n := n) (by omega)
  generalize 2 ^ n = N at *
  have hcut : cutA (rowsD N) (some 1) none = (rowsD N).drop 1 := cut_drop (by omega)
  have hc : compL (turnE (Ph Ir.prog (k + 5)) (.bi .len (.cons (.var 1) .nil)) (.nm 1) .tyes) [1] ((rowsD N).drop 1) [some (iv n), none] = some (((rowsD N).drop 1).map fun d => match d with | .list xs => .int xs.length | _ => .none, [some (iv n), none]) := by
    apply compL_all
    intro d hd
    have hd : d ∈ rowsD N := List.mem_of_mem_drop hd
    obtain ⟨a, _, rfl⟩ := List.mem_map.mp hd
    exact ⟨[some (iv n), some (.v (.list _))], by simp [turnE]; rfl, rfl⟩
  have hA := comp_n (Φ := Ph Ir.prog (k + 5)) (it := .it (.slc (.call "rows_in" (.cons (.call "sure_listed" (.cons (.var 0) .nil)) .nil)) (.it (.num 1)) .nob)) (tg := .nm 1) (vs := [1]) (ρ := [some (iv n), none]) (ρ1 := [some (iv n), none]) (ds := (rowsD N).drop 1) (by simp [e2, e3, hcut, seqD]) (by rw [List.length_drop, rowsD_len]; omega) hc
  refine ⟨_, ?_, runF_of (ρ0 := [some (iv n), none]) (ρ1 := [some (iv n), none]) rfl rfl (ret_n (tup_n (by intro _; nofun) hA)) rfl rfl⟩
  rw [List.length_map, List.length_drop, rowsD_len]
  omega
end
end Ev

namespace Ev
open PySem Pv L2 Lv
theorem Tn.own {c : Nat} {r : R} (t : Tn c r) : r.own = true := by
  obtain ⟨x, y, z, rfl, _⟩ := t
  rfl
def lvs (ts : List Bt) : Nat := (ts.map Bt.lv).sum
theorem split2 {ts : List Bt} {i : Nat} (h : i + 1 < ts.length) : ∃ a b, ts[i]? = some a ∧ ts[i + 1]? = some b ∧ ts = ts.take i ++ [a, b] ++ ts.drop (i + 2) := by
  refine ⟨ts[i], ts[i + 1], List.getElem?_eq_getElem _, List.getElem?_eq_getElem _, ?_⟩
  have e1 := List.take_append_drop i ts
  rw [List.drop_eq_getElem_cons (by omega), List.drop_eq_getElem_cons (by omega)] at e1
  rw [List.append_assoc]
  exact e1.symm
theorem e__law_net {k c m : Nat} {r : R} (t : Tn c r) (hc : c + m < 1000000) (h1 : 1 ≤ m) (h2 : m ≤ 1000) : ∃ (b : Bt) (r' : R), Tn (c + m) r' ∧ b.lv = m ∧ Ph Ir.prog (k + 2) "_law_net" [r, iv m] = some (.v b.d, [r', iv m]) := by
  rw [c__law_net]
  let f : D → Pv.Env → Option (Fl × Pv.Env) := fun d ρ => (bindT (.nm 3) d ρ).bind fun ρ2 => ex (Ph Ir.prog (k + 1)) (.seq (.asg 4 (.call "_law_take" (.cons (.var 0) (.cons (.bin .Sub (.bi .len (.cons (.var 2) .nil)) (.num 1)) .nil)))) (.seq (.asg 2 (.bin .Add (.bin .Add (.slc (.var 2) .nob (.it (.var 4))) (.lst (.cons (.tup (.cons (.idx (.var 2) (.var 4)) (.cons (.idx (.var 2) (.bin .Add (.var 4) (.num 1))) .nil))) .nil))) (.slc (.var 2) (.it (.bin .Add (.var 4) (.num 2))) .nob))) .skip)) ρ2
  obtain ⟨ρ', ef, ts, r', o3, o4, hl, hv, tn, hρ⟩ := forL_turns (f := f) (fun j ρ => ∃ (ts : List Bt) (r' : R) (o3 o4 : Option R), ts.length = m - j ∧ lvs ts = m ∧ Tn (c + j) r' ∧ ρ = [some r', some (iv m), some (.l (ts.map Bt.d)), o3, o4]) (rngD 0 ((m : Int) - 1)) 0
    [some r, some (iv m), some (.l ((List.replicate m Bt.o).map Bt.d)), none, none] ⟨List.replicate m .o, r, none, none, by simp, by simp [lvs, Bt.lv], t, rfl⟩ (fun j d ρ hj ⟨ts, r', o3, o4, hl, hv, tn, hρ⟩ => by
      subst hρ
      have lt := (List.getElem?_eq_some_iff.mp hj).1
      rw [rngD_len] at lt
      rw [Nat.zero_add] at hl tn ⊢
      obtain ⟨v, r2, tn2, v1, et⟩ := tn.take (by omega) (ts.length - 1) (by omega) (by omega) k
      obtain ⟨a, b, ha, hb, hs⟩ := split2 (ts := ts) (i := v) (by omega)
      have ho := tn.own
      have hcast : iv (ts.length - 1) = .v (.int ((ts.length : Int) - 1)) := by
        show R.v (.int _) = _
        rw [show (((ts.length - 1 : Nat)) : Int) = (ts.length : Int) - 1 by omega]
      rw [hcast] at et
      have a0 : atI (ts.map Bt.d) (v : Int) = some a.d := by rw [at_nat rfl, List.getElem?_map, ha]; rfl
      have a1 : atI (ts.map Bt.d) ((v : Int) + 1) = some b.d := by rw [at_nat (n := v + 1) (by omega), List.getElem?_map, hb]; rfl
      have c0 : cutA (ts.map Bt.d) none (some (v : Int)) = (ts.take v).map Bt.d := by rw [cut_take (by omega), List.map_take]; rfl
      have c1 : cutA (ts.map Bt.d) (some ((v : Int) + 2)) none = (ts.drop (v + 2)).map Bt.d := by rw [cut_drop (by omega), List.map_drop, show ((v : Int) + 2).toNat = v + 2 by omega]
      have k1 : okN (min v ts.length + 1) = true := okN_t (by omega)
      have k2 : okN (min v ts.length + 1 + (ts.length - (v + 2))) = true := okN_t (by omega)
      refine ⟨[some r2, some (iv m), some (.l ((ts.take v ++ [Bt.n a b] ++ ts.drop (v + 2)).map Bt.d)), some (.v d), some (iv v)], .inl (by simp [f, ho, et, a0, a1, c0, c1, k1, k2, Bt.d]), ts.take v ++ [Bt.n a b] ++ ts.drop (v + 2), r2, _, _, ?_, ?_, tn2, rfl⟩
      · simp only [List.length_append, List.length_take, List.length_drop, List.length_singleton]
        omega
      · rw [← hv]
        conv => rhs; rw [hs]
        simp only [lvs, List.map_append, List.sum_append, List.map_cons, List.map_nil, List.sum_cons, List.sum_nil, Bt.lv]
        omega)
  subst hρ
  rw [rngD_len, show ((m : Int) - 1 - 0).toNat = m - 1 by omega, Nat.zero_add] at hl tn
  obtain ⟨b, rfl⟩ : ∃ b, ts = [b] := List.length_eq_one_iff.mp (by omega)
  have hb : b.lv = m := by simpa [lvs] using hv
  have hrep : binD .Mult (.list [.tuple []]) (.int (m : Nat)) = some (.l ((List.replicate m Bt.o).map Bt.d)) := by
    have h3 : in62 (m : Int) = true := in62_of (by omega) (by omega)
    have h4 : okN ([PyData.tuple []].length * ((m : Nat) : Int).toNat) = true := okN_t (by simp; omega)
    rw [bd_rep, if_pos ⟨h3, h4⟩, rep_flat, List.map_replicate]
    rfl
  have ho := t.own
  have hr := rng1_n (Φ := Ph Ir.prog (k + 1)) (a := .bin .Sub (.var 1) (.num 1)) (ρ := [some r, some (iv m), some (.l ((List.replicate m Bt.o).map Bt.d)), none, none]) (ρ1 := [some r, some (iv m), some (.l ((List.replicate m Bt.o).map Bt.d)), none, none]) (j := (m : Int) - 1) (o := .d (.int ((m : Int) - 1))) (by simp) rfl (by omega) (by omega)
  obtain ⟨x, y, z, rfl, ti⟩ := t
  obtain ⟨x', y', z', rfl, ti'⟩ := id tn
  refine ⟨b, _, ⟨x', y', z', rfl, ⟨ti'.1, ti'.2.1, ti'.2.2.1, ti'.2.2.2.1, by have := ti'.2.2.2.2; omega⟩⟩, hb, runF_of (ρ0 := [some (.l (tinD x y z)), some (iv m), none, none, none]) (ρ1 := [some (.l (tinD x' y' z')), some (iv m), some (.l [b.d]), o3, o4]) rfl rfl (seq_n (asg_n (ρ1 := [some (.l (tinD x y z)), some (iv m), none, none, none]) (r := .l ((List.replicate m Bt.o).map Bt.d)) (by
    have := hrep
    generalize (List.replicate m Bt.o).map Bt.d = L at *
    simp [hrep, -bd_rep])) (seq_n (for_n hr ef) (ret_n (by simp; rfl)))) rfl rfl⟩
end Ev

namespace Ev
open PySem Pv L2 Lv
theorem c__law_more_right {k : Nat} {rs : List R} : Ph Ir.prog (k + 1) "_law_more_right" rs = runF (Ph Ir.prog k) Ir.f__law_more_right rs := rfl
/-- the slots of _law_right -/
abbrev V (r : R) (x1 x2 x3 x4 x5 x6 x7 x8 x9 x10 x11 x12 x13 x14 x15 x16 x17 x18 x19 : Option R) : Pv.Env := [some r, x1, x2, x3, x4, x5, x6, x7, x8, x9, x10, x11, x12, x13, x14, x15, x16, x17, x18, x19]
abbrev takeE : E := .bin .Add (.num 1) (.call "_law_take" (.cons (.var 0) (.cons (.var 2) .nil)))
theorem draws {k N : Nat} (hN : 1 ≤ N) (hN2 : N ≤ 4096) {x1 x3 x4 x5 x6 x7 x8 x9 x10 x11 x12 x14 x15 x16 x17 x18 x19 : Option R} : ∀ (ds : List D) (c : Nat) (r : R), Tn c r → c + ds.length < 1000000 →
    ∃ (l : List Nat) (r' : R), l.length = ds.length ∧ (∀ x ∈ l, 1 ≤ x ∧ x ≤ N) ∧ Tn (c + ds.length) r' ∧ compL (turnE (Ph Ir.prog (k + 1)) takeE (.nm 13) .tyes) [13] ds (V r x1 (some (iv N)) x3 x4 x5 x6 x7 x8 x9 x10 x11 x12 none x14 x15 x16 x17 x18 x19) = some (nL l, V r' x1 (some (iv N)) x3 x4 x5 x6 x7 x8 x9 x10 x11 x12 none x14 x15 x16 x17 x18 x19) := by
  intro ds
  induction ds with
  | nil => exact fun c r t _ => ⟨[], r, rfl, (fun x hx => by cases hx), t, rfl⟩
  | cons d ds ih =>
    intro c r t hc
    rw [List.length_cons] at hc
    obtain ⟨v, r1, t1, v1, e1⟩ := t.take (by omega) N hN (by omega) k
    obtain ⟨l, r', h1, h2, h3, h4⟩ := ih (c + 1) r1 t1 (by omega)
    have ho := t.own
    refine ⟨(v + 1) :: l, r', by simp [h1], fun x hx => ?_, by rw [List.length_cons, show c + (ds.length + 1) = c + 1 + ds.length by omega]; exact h3, ?_⟩
    · rcases List.mem_cons.mp hx with rfl | hx
      · omega
      · exact h2 x hx
    · show (turnE (Ph Ir.prog (k + 1)) takeE (.nm 13) .tyes d _).bind _ = _
      have e2 : turnE (Ph Ir.prog (k + 1)) takeE (.nm 13) .tyes d (V r x1 (some (iv N)) x3 x4 x5 x6 x7 x8 x9 x10 x11 x12 none x14 x15 x16 x17 x18 x19) = some (some (.int ((v + 1 : Nat) : Int)), V r1 x1 (some (iv N)) x3 x4 x5 x6 x7 x8 x9 x10 x11 x12 (some (.v d)) x14 x15 x16 x17 x18 x19) := by
        simp [turnE, takeE, ho, e1]
        omega
      rw [e2]
      show (compL _ _ ds (V r1 x1 (some (iv N)) x3 x4 x5 x6 x7 x8 x9 x10 x11 x12 none x14 x15 x16 x17 x18 x19)).bind _ = _
      rw [h4]
      rfl
/-- what is the same is the same -/
theorem same_ok {k : Nat} (d : D) (r s : R) (h : SD 4 d) (hr : Rv d r) (hs : Rv d s) : ∃ o1 o2, Ph Ir.prog (k + 5) "_law_same" [r, s] = some (.v (.bool true), [o1, o2]) := e__law_same 4 d r s h hr hs
theorem sd_nL (l : List Nat) (c : Nat) (h : l.length ≤ 16777216) : SD (c + 1) (.list (nL l)) := ⟨by simpa using h, fun d hd => by
  obtain ⟨x, _, rfl⟩ := List.mem_map.mp hd
  cases c <;> trivial⟩
theorem eqv_nL : ∀ (l m : List Nat), PyData.eqvAll (nL l) (nL m) = decide (l = m)
  | [], [] => rfl
  | [], _ :: _ => rfl
  | _ :: _, [] => rfl
  | x :: l, y :: m => by
    show (PyData.eqv (.int (x : Nat)) (.int (y : Nat)) && PyData.eqvAll (nL l) (nL m)) = _
    rw [eqv_int, eqv_nL l m, Bool.eq_iff_iff, Bool.and_eq_true_iff, decide_eq_true_iff, decide_eq_true_iff, decide_eq_true_iff]
    constructor
    · rintro ⟨h1, rfl⟩
      rw [show x = y by omega]
    · intro h
      cases h
      exact ⟨rfl, rfl⟩
theorem sh_nL (l : List Nat) : SeqAt.shaped (.list (nL l)) = true := by
  have h1 : ∀ l : List Nat, PyData.canLayAll0 (nL l) = true ∧ PyData.depthAll (nL l) = 0 := fun l => by
    induction l with
    | nil => exact ⟨rfl, rfl⟩
    | cons x l ih =>
      refine ⟨?_, ?_⟩
      · show (true && PyData.canLayAll0 (nL l)) = true
        rw [ih.1]
        rfl
      · show max 0 (PyData.depthAll (nL l)) = 0
        rw [ih.2]
        rfl
  show (PyData.canLayAll0 (nL l) && decide (PyData.depthAll (nL l) + 1 ≤ 64)) = true
  rw [(h1 l).1, (h1 l).2]
  rfl
theorem eq_nL (l m : List Nat) : eqD (.list (nL l)) (.list (nL m)) = some (decide (l = m)) := by
  have e : eqD (.list (nL l)) (.list (nL m)) = if (SeqAt.shaped (.list (nL l)) && SeqAt.shaped (.list (nL m))) = true then some (PyData.eqv (.list (nL l)) (.list (nL m))) else none := rfl
  rw [e, sh_nL, sh_nL, if_pos (show (true && true) = true from rfl)]
  show some (PyData.eqvAll (nL l) (nL m)) = _
  rw [eqv_nL]
/-! the fold's laws -/
theorem fl_app {N : Nat} (l : List Nat) (x : Nat) : fl N (l ++ [x]) = co N (fl N l) x := by
  unfold fl
  rw [List.foldl_append]
  rfl
theorem fl_from {N : Nat} (hN : 1 ≤ N) (F : Fine N) : ∀ (l : List Nat) (y : Nat), 1 ≤ y → y ≤ N → (∀ x ∈ l, 1 ≤ x ∧ x ≤ N) → l.foldl (co N) y = co N y (fl N l)
  | [], y, h1, h2, _ => (co_r hN h1 h2).symm
  | x :: l, y, h1, h2, hl => by
    obtain ⟨x1, x2⟩ := hl x (List.mem_cons_self ..)
    have hl' := fun z hz => hl z (List.mem_cons_of_mem x hz)
    obtain ⟨f1, f2⟩ : 1 ≤ fl N l ∧ fl N l ≤ N := fl_rng hN l N hN (Nat.le_refl _)
    show l.foldl (co N) (co N y x) = co N y (l.foldl (co N) (co N N x))
    rw [fl_from hN F l (co N y x) (co_pos hN) (co_le hN) hl', co_N hN x1 x2, fl_from hN F l x x1 x2 hl', co_assoc hN F h1 h2 x1 x2 f1 f2]
theorem fl_cons {N : Nat} (hN : 1 ≤ N) (F : Fine N) (x : Nat) (l : List Nat) (h1 : 1 ≤ x) (h2 : x ≤ N) (hl : ∀ x ∈ l, 1 ≤ x ∧ x ≤ N) : fl N (x :: l) = co N x (fl N l) := by
  show l.foldl (co N) (co N N x) = _
  rw [co_N hN h1 h2]
  exact fl_from hN F l x h1 h2 hl
theorem op_fl {N : Nat} (hN : 1 ≤ N) (F : Fine N) : ∀ (l : List Nat) (c : Nat), 1 ≤ c → c ≤ N → (∀ x ∈ l, 1 ≤ x ∧ x ≤ N) → op N (fl N l) c = l.foldr (op N) c
  | [], c, _, _, _ => op_N
  | x :: l, c, h1, h2, hl => by
    obtain ⟨x1, x2⟩ := hl x (List.mem_cons_self ..)
    have hl' := fun z hz => hl z (List.mem_cons_of_mem x hz)
    obtain ⟨f1, f2⟩ : 1 ≤ fl N l ∧ fl N l ≤ N := fl_rng hN l N hN (Nat.le_refl _)
    rw [fl_cons hN F x l x1 x2 hl', co_op hN F x1 x2 f1 f2 c h1 h2, op_fl hN F l c h1 h2 hl']
    rfl
theorem fl_rep {N : Nat} (m a : Nat) : fl N (List.replicate (m + 1) a) = co N (fl N (List.replicate m a)) a := by
  rw [List.replicate_succ', fl_app]
theorem foldr_rep {N : Nat} (a c : Nat) : ∀ m, (List.replicate (m + 1) a).foldr (op N) c = op N a ((List.replicate m a).foldr (op N) c) := fun m => rfl
/-- a row tells whose it is -/
theorem row_own {N x y : Nat} (hN : 1 ≤ N) (hx : 1 ≤ x) (hx2 : x ≤ N) (hy : 1 ≤ y) (hy2 : y ≤ N) (h : op N x 1 = op N y 1) : x = y := by
  rw [← nx_op hN hx hx2, ← nx_op hN hy hy2] at h
  exact nx_inj hN hx hx2 hy hy2 h
end Ev

namespace Ev
open PySem Pv L2 Lv
section
variable {k n N a b c ab : Nat} {r : R} {x1 x2 x3 x4 x5 x6 x7 x8 x9 x10 x11 x12 x13 x14 x15 x16 x17 x18 x19 : Option R}
/-- 1 .. last in a comprehension of _law_right -/
theorem rngV (hN : N ≤ 4096) : evI (Ph Ir.prog (k + 30)) (.rng2 (.num 1) (.bin .Add (.var 2) (.num 1))) (V r x1 (some (iv N)) x3 x4 x5 x6 x7 x8 x9 x10 x11 x12 x13 x14 x15 x16 x17 x18 x19) = some (nL (upN N), V r x1 (some (iv N)) x3 x4 x5 x6 x7 x8 x9 x10 x11 x12 x13 x14 x15 x16 x17 x18 x19) := by
  have hr := rng2_n (Φ := Ph Ir.prog (k + 30)) (a := .num 1) (b := .bin .Add (.var 2) (.num 1)) (ρ := V r x1 (some (iv N)) x3 x4 x5 x6 x7 x8 x9 x10 x11 x12 x13 x14 x15 x16 x17 x18 x19) (ρ1 := V r x1 (some (iv N)) x3 x4 x5 x6 x7 x8 x9 x10 x11 x12 x13 x14 x15 x16 x17 x18 x19) (ρ2 := V r x1 (some (iv N)) x3 x4 x5 x6 x7 x8 x9 x10 x11 x12 x13 x14 x15 x16 x17 x18 x19) (i := 1) (j := (N : Int) + 1) (o := .d (.int 1)) (p := .d (.int ((N : Int) + 1))) (by simp) (by simp) rfl rfl (by omega) (by omega) (by omega) (by omega)
  rw [rng_up] at hr
  exact hr
/-- a comprehension over 1 .. last, of k at slot 19 -/
theorem compV {e t : E} (hN : N ≤ 4096) (p : Nat → Bool) (f : Nat → D) (h : ∀ x, 1 ≤ x → x ≤ N → turnE (Ph Ir.prog (k + 30)) e (.nm 19) t (.int (x : Nat)) (V r x1 (some (iv N)) x3 x4 x5 x6 x7 x8 x9 x10 x11 x12 x13 x14 x15 x16 x17 x18 none) = some (if p x then some (f x) else none, V r x1 (some (iv N)) x3 x4 x5 x6 x7 x8 x9 x10 x11 x12 x13 x14 x15 x16 x17 x18 (some (iv x)))) :
    evE (Ph Ir.prog (k + 30)) (.comp e (.nm 19) (.rng2 (.num 1) (.bin .Add (.var 2) (.num 1))) t [19]) (V r x1 (some (iv N)) x3 x4 x5 x6 x7 x8 x9 x10 x11 x12 x13 x14 x15 x16 x17 x18 none) = some (.l (((upN N).filter p).map f), V r x1 (some (iv N)) x3 x4 x5 x6 x7 x8 x9 x10 x11 x12 x13 x14 x15 x16 x17 x18 none) := by
  refine comp_n (ρ2 := V r x1 (some (iv N)) x3 x4 x5 x6 x7 x8 x9 x10 x11 x12 x13 x14 x15 x16 x17 x18 none) (rngV hN) (by simp [upN_len]; omega) ?_
  exact comp_nat (upN N) fun x hx => ⟨_, h x (mem_upN.mp hx).1 (mem_upN.mp hx).2, rfl⟩
theorem all_true {α : Type} (l : List α) : l.filter (fun _ => true) = l := by simp
theorem s_due (hN : N ≤ 4096) (ha : 1 ≤ a) (ha2 : a ≤ N) (hb : 1 ≤ b) (hb2 : b ≤ N) : evE (Ph Ir.prog (k + 30)) (.comp (.idx (.idx (.var 3) (.var 14)) (.idx (.idx (.var 3) (.var 15)) (.var 19))) (.nm 19) (.rng2 (.num 1) (.bin .Add (.var 2) (.num 1))) .tyes [19]) (V r x1 (some (iv N)) (some (.l (tabD N))) x4 x5 x6 x7 x8 x9 x10 x11 x12 x13 (some (iv a)) (some (iv b)) x16 x17 x18 none) =
    some (.l (nL ((upN N).map fun x => op N a (op N b x))), V r x1 (some (iv N)) (some (.l (tabD N))) x4 x5 x6 x7 x8 x9 x10 x11 x12 x13 (some (iv a)) (some (iv b)) x16 x17 x18 none) := by
  have h1 : atI (tabD N) (a : Int) = some (.list (trow N a)) := by rw [at_nat rfl, tabD_at ha ha2]
  have h2 : atI (tabD N) (b : Int) = some (.list (trow N b)) := by rw [at_nat rfl, tabD_at hb hb2]
  have z := compV (k := k) (r := r) (x1 := x1) (x3 := some (.l (tabD N))) (x4 := x4) (x5 := x5) (x6 := x6) (x7 := x7) (x8 := x8) (x9 := x9) (x10 := x10) (x11 := x11) (x12 := x12) (x13 := x13) (x14 := some (iv a)) (x15 := some (iv b)) (x16 := x16) (x17 := x17) (x18 := x18) (e := .idx (.idx (.var 3) (.var 14)) (.idx (.idx (.var 3) (.var 15)) (.var 19))) (t := .tyes) hN (fun _ => true) (fun x => .int (op N a (op N b x) : Nat)) (fun x y1 y2 => by
    have h3 : atI (trow N b) (x : Int) = some (.int (op N b x : Nat)) := by rw [at_nat rfl, trow_at y1 y2]
    have h4 : atI (trow N a) ((op N b x : Nat) : Int) = some (.int (op N a (op N b x) : Nat)) := by rw [at_nat rfl, trow_at (op_pos hb hb2 y1) (op_le hb2 y1 y2)]
    simp [turnE, h1, h2, h3, h4])
  rw [z, all_true, nL, List.map_map]
  rfl
theorem drop1 {x : Nat} : (trow N x).drop 1 = nL ((upN N).map (op N x)) := by
  unfold trow upN nL
  rw [List.range_succ_eq_map, List.map_cons, List.drop_one, List.tail_cons, List.map_map, List.map_map, List.map_map]
  apply List.map_congr_left
  intro i _
  show PyData.int ((if i + 1 = 0 then 0 else op N x (i + 1) : Nat) : Int) = PyData.int ((op N x (i + 1) : Nat) : Int)
  rw [if_neg (by omega)]
theorem filter_one {p : Nat → Bool} {y : Nat} (hy : 1 ≤ y) (hy2 : y ≤ N) (h : ∀ x, 1 ≤ x → x ≤ N → p x = decide (x = y)) : (upN N).filter p = [y] := by
  have e : (upN N).filter p = (upN N).filter fun x => decide (x = y) := by
    apply List.filter_congr
    intro x hx
    exact h x (mem_upN.mp hx).1 (mem_upN.mp hx).2
  rw [e]
  unfold upN
  have : ∀ m, y ≤ m + 1 → ((List.range m).map (· + 1)).filter (fun x => decide (x = y)) = if y ≤ m then [y] else [] := by
    intro m
    induction m with
    | zero =>
      intro _
      rw [if_neg (by omega)]
      rfl
    | succ m ih =>
      intro hm
      rw [List.range_succ, List.map_append, List.filter_append]
      by_cases q : y ≤ m
      · rw [ih (by omega), if_pos q, if_pos (by omega)]
        rw [show (List.map (fun x => x + 1) [m]).filter (fun x => decide (x = y)) = [] by simp; omega]
        rfl
      · have e0 : ((List.range m).map (· + 1)).filter (fun x => decide (x = y)) = [] := by
          rw [List.filter_eq_nil_iff]
          intro x hx
          obtain ⟨i, hi, rfl⟩ := List.mem_map.mp hx
          have := List.mem_range.mp hi
          simp
          omega
        rw [e0]
        by_cases e1 : y = m + 1
        · subst e1
          rw [if_pos (Nat.le_refl _)]
          simp
        · rw [if_neg (by omega), show (List.map (fun x => x + 1) [m]).filter (fun x => decide (x = y)) = [] by simp; omega]
          rfl
  rw [this N (by omega), if_pos hy2]
theorem s_alikes (hN : N ≤ 4096) (F : Fine N) (ha : 1 ≤ a) (ha2 : a ≤ N) (hb : 1 ≤ b) (hb2 : b ≤ N) : evE (Ph Ir.prog (k + 30)) (.comp (.var 19) (.nm 19) (.rng2 (.num 1) (.bin .Add (.var 2) (.num 1))) (.tcmp .Eq (.slc (.idx (.var 3) (.var 19)) (.it (.num 1)) .nob) (.var 5)) [19]) (V r x1 (some (iv N)) (some (.l (tabD N))) x4 (some (.l (nL ((upN N).map fun x => op N a (op N b x))))) x6 x7 x8 x9 x10 x11 x12 x13 x14 x15 x16 x17 x18 none) =
    some (.l (nL [co N a b]), V r x1 (some (iv N)) (some (.l (tabD N))) x4 (some (.l (nL ((upN N).map fun x => op N a (op N b x))))) x6 x7 x8 x9 x10 x11 x12 x13 x14 x15 x16 x17 x18 none) := by
  have hN1 : 1 ≤ N := by omega
  have z := compV (k := k) (r := r) (x1 := x1) (x3 := some (.l (tabD N))) (x4 := x4) (x5 := some (.l (nL ((upN N).map fun x => op N a (op N b x))))) (x6 := x6) (x7 := x7) (x8 := x8) (x9 := x9) (x10 := x10) (x11 := x11) (x12 := x12) (x13 := x13) (x14 := x14) (x15 := x15) (x16 := x16) (x17 := x17) (x18 := x18) (e := .var 19) (t := .tcmp .Eq (.slc (.idx (.var 3) (.var 19)) (.it (.num 1)) .nob) (.var 5)) hN (fun x => decide ((upN N).map (op N x) = (upN N).map fun x => op N a (op N b x))) (fun x => .int (x : Nat)) (fun x y1 y2 => by
    have h1 : atI (tabD N) (x : Int) = some (.list (trow N x)) := by rw [at_nat rfl, tabD_at y1 y2]
    have h2 : cutA (trow N x) (some 1) none = nL ((upN N).map (op N x)) := by rw [cut_drop (by omega)]; exact drop1
    have h3 := eq_nL ((upN N).map (op N x)) ((upN N).map fun x => op N a (op N b x))
    show _ = some (if decide ((upN N).map (op N x) = (upN N).map fun x => op N a (op N b x)) = true then some (PyData.int (x : Nat)) else none, _)
    generalize decide ((upN N).map (op N x) = (upN N).map fun x => op N a (op N b x)) = bl at *
    generalize nL ((upN N).map fun x => op N a (op N b x)) = L at *
    generalize nL ((upN N).map (op N x)) = L1 at *
    cases bl <;> simp [turnE, h1, h2, h3])
  rw [z, filter_one (co_pos hN1 (a := a) (b := b)) (co_le hN1)]
  · intro x y1 y2
    rw [Bool.eq_iff_iff, decide_eq_true_iff, decide_eq_true_iff]
    constructor
    · intro h
      have e : op N x 1 = op N a (op N b 1) := by
        have m1 : 1 ∈ upN N := mem_upN.mpr ⟨Nat.le_refl _, hN1⟩
        exact List.map_inj_left.mp h 1 m1
      apply row_own hN1 y1 y2 (co_pos hN1) (co_le hN1)
      rw [e, co_op hN1 F ha ha2 hb hb2 1 (Nat.le_refl _) hN1]
    · intro h
      rw [h]
      apply List.map_congr_left
      intro y hy
      exact co_op hN1 F ha ha2 hb hb2 y (mem_upN.mp hy).1 (mem_upN.mp hy).2
end
end Ev

namespace Ev
open PySem Pv L2 Lv
section
variable {k n N a b c ab : Nat} {r : R} {x1 x2 x3 x4 x5 x6 x7 x8 x9 x10 x11 x12 x13 x14 x15 x16 x17 x18 x19 : Option R}
def bL (N ab : Nat) : List D := (upN N).map fun x => .bool (decide (x = ab))
theorem s_times (hn : n ≤ 12) (h : 1 ≤ ab) (h2 : ab ≤ 2 ^ n) : evE (Ph Ir.prog (k + 30)) (.comp (.call "times" (.cons (.var 1) (.cons (.var 4) (.cons (.var 19) .nil)))) (.nm 19) (.rng2 (.num 1) (.bin .Add (.var 2) (.num 1))) .tyes [19]) (V r (some (iv n)) (some (iv (2 ^ n))) x3 (some (iv ab)) x5 x6 x7 x8 x9 x10 x11 x12 x13 x14 x15 x16 x17 x18 none) =
    some (.l (nL ((upN (2 ^ n)).map (op (2 ^ n) ab))), V r (some (iv n)) (some (iv (2 ^ n))) x3 (some (iv ab)) x5 x6 x7 x8 x9 x10 x11 x12 x13 x14 x15 x16 x17 x18 none) := by
  have z := compV (k := k) (r := r) (x1 := some (iv n)) (x3 := x3) (x4 := some (iv ab)) (x5 := x5) (x6 := x6) (x7 := x7) (x8 := x8) (x9 := x9) (x10 := x10) (x11 := x11) (x12 := x12) (x13 := x13) (x14 := x14) (x15 := x15) (x16 := x16) (x17 := x17) (x18 := x18) (e := .call "times" (.cons (.var 1) (.cons (.var 4) (.cons (.var 19) .nil)))) (t := .tyes) (pow_le12 hn) (fun _ => true) (fun x => .int (op (2 ^ n) ab x : Nat)) (fun x y1 y2 => by
    have e := e_times (k := k + 25) hn h h2 y1 y2
    simp [turnE, e])
  rw [z, all_true, nL, List.map_map]
  rfl
theorem s_isb (hn : n ≤ 12) (ha : 1 ≤ a) (ha2 : a ≤ 2 ^ n) (hb : 1 ≤ b) (hb2 : b ≤ 2 ^ n) : evE (Ph Ir.prog (k + 30)) (.comp (.call "is_both" (.cons (.var 1) (.cons (.var 14) (.cons (.var 15) (.cons (.var 19) .nil))))) (.nm 19) (.rng2 (.num 1) (.bin .Add (.var 2) (.num 1))) .tyes [19]) (V r (some (iv n)) (some (iv (2 ^ n))) x3 x4 x5 x6 x7 x8 x9 x10 x11 x12 x13 (some (iv a)) (some (iv b)) x16 x17 x18 none) =
    some (.l (bL (2 ^ n) (co (2 ^ n) a b)), V r (some (iv n)) (some (iv (2 ^ n))) x3 x4 x5 x6 x7 x8 x9 x10 x11 x12 x13 (some (iv a)) (some (iv b)) x16 x17 x18 none) := by
  have z := compV (k := k) (r := r) (x1 := some (iv n)) (x3 := x3) (x4 := x4) (x5 := x5) (x6 := x6) (x7 := x7) (x8 := x8) (x9 := x9) (x10 := x10) (x11 := x11) (x12 := x12) (x13 := x13) (x14 := some (iv a)) (x15 := some (iv b)) (x16 := x16) (x17 := x17) (x18 := x18) (e := .call "is_both" (.cons (.var 1) (.cons (.var 14) (.cons (.var 15) (.cons (.var 19) .nil))))) (t := .tyes) (pow_le12 hn) (fun _ => true) (fun x => .bool (decide (x = co (2 ^ n) a b))) (fun x y1 y2 => by
    have e := e_is_both (k := k + 24) hn ha ha2 hb hb2 x
    simp [turnE, e])
  rw [z, all_true]
  rfl
theorem s_keq (hN : N ≤ 4096) : evE (Ph Ir.prog (k + 30)) (.comp (.cmp .Eq (.var 19) (.var 4)) (.nm 19) (.rng2 (.num 1) (.bin .Add (.var 2) (.num 1))) .tyes [19]) (V r x1 (some (iv N)) x3 (some (iv ab)) x5 x6 x7 x8 x9 x10 x11 x12 x13 x14 x15 x16 x17 x18 none) =
    some (.l (bL N ab), V r x1 (some (iv N)) x3 (some (iv ab)) x5 x6 x7 x8 x9 x10 x11 x12 x13 x14 x15 x16 x17 x18 none) := by
  have z := compV (k := k) (r := r) (x1 := x1) (x3 := x3) (x4 := some (iv ab)) (x5 := x5) (x6 := x6) (x7 := x7) (x8 := x8) (x9 := x9) (x10 := x10) (x11 := x11) (x12 := x12) (x13 := x13) (x14 := x14) (x15 := x15) (x16 := x16) (x17 := x17) (x18 := x18) (e := .cmp .Eq (.var 19) (.var 4)) (t := .tyes) hN (fun _ => true) (fun x => .bool (decide (x = ab))) (fun x y1 y2 => by
    have e : decide ((x : Int) = (ab : Int)) = decide (x = ab) := by rw [Bool.eq_iff_iff, decide_eq_true_iff, decide_eq_true_iff]; omega
    simp [turnE, e])
  rw [z, all_true]
  rfl
/-- the first things compared -/
def due1 (n a b : Nat) : List D := [.list (nL [co (2 ^ n) a b]), .list (nL ((upN (2 ^ n)).map (op (2 ^ n) (co (2 ^ n) a b)))), .list (bL (2 ^ n) (co (2 ^ n) a b)), .bool false]
theorem sd_bL (N ab c : Nat) (h : N ≤ 4096) : SD (c + 1) (.list (bL N ab)) := ⟨by simp [bL, upN_len]; omega, fun d hd => by
  obtain ⟨x, _, rfl⟩ := List.mem_map.mp hd
  cases c <;> trivial⟩
theorem sd_due1 (hn : n ≤ 12) : SD 4 (.list (due1 n a b)) := by
  have hN := pow_le12 hn
  refine ⟨by simp [due1], fun d hd => ?_⟩
  unfold due1 at hd
  rcases List.mem_cons.mp hd with rfl | hd
  · exact sd_nL _ 2 (by simp)
  rcases List.mem_cons.mp hd with rfl | hd
  · exact sd_nL _ 2 (by simp [upN_len]; omega)
  rcases List.mem_cons.mp hd with rfl | hd
  · exact sd_bL _ _ 2 hN
  rcases List.mem_cons.mp hd with rfl | hd
  · trivial
  · cases hd
theorem s_got1 (hn : n ≤ 12) (ha : 1 ≤ a) (ha2 : a ≤ 2 ^ n) (hb : 1 ≤ b) (hb2 : b ≤ 2 ^ n) :
    ex (Ph Ir.prog (k + 30)) (.asg 7 (.lst (.cons (.var 6) (.cons (.comp (.call "times" (.cons (.var 1) (.cons (.var 4) (.cons (.var 19) .nil)))) (.nm 19) (.rng2 (.num 1) (.bin .Add (.var 2) (.num 1))) .tyes [19]) (.cons (.comp (.call "is_both" (.cons (.var 1) (.cons (.var 14) (.cons (.var 15) (.cons (.var 19) .nil))))) (.nm 19) (.rng2 (.num 1) (.bin .Add (.var 2) (.num 1))) .tyes [19]) (.cons (.call "is_both" (.cons (.var 1) (.cons (.var 14) (.cons (.var 15) (.cons .non .nil))))) .nil))))))
      (V r (some (iv n)) (some (iv (2 ^ n))) x3 (some (iv (co (2 ^ n) a b))) x5 (some (.l (nL [co (2 ^ n) a b]))) x7 x8 x9 x10 x11 x12 x13 (some (iv a)) (some (iv b)) x16 x17 x18 none) =
    some (.next, V r (some (iv n)) (some (iv (2 ^ n))) x3 (some (iv (co (2 ^ n) a b))) x5 (some (.v (.list (nL [co (2 ^ n) a b])))) (some (.l (due1 n a b))) x8 x9 x10 x11 x12 x13 (some (iv a)) (some (iv b)) x16 x17 x18 none) := by
  have hN1 : 1 ≤ 2 ^ n := Nat.one_le_two_pow
  have C1 := s_times (k := k) (r := r) (x3 := x3) (x5 := x5) (x6 := some (.v (.list (nL [co (2 ^ n) a b])))) (x7 := x7) (x8 := x8) (x9 := x9) (x10 := x10) (x11 := x11) (x12 := x12) (x13 := x13) (x14 := some (iv a)) (x15 := some (iv b)) (x16 := x16) (x17 := x17) (x18 := x18) hn (co_pos hN1 (a := a) (b := b)) (co_le hN1)
  have C2 := s_isb (k := k) (r := r) (x3 := x3) (x4 := some (iv (co (2 ^ n) a b))) (x5 := x5) (x6 := some (.v (.list (nL [co (2 ^ n) a b])))) (x7 := x7) (x8 := x8) (x9 := x9) (x10 := x10) (x11 := x11) (x12 := x12) (x13 := x13) (x16 := x16) (x17 := x17) (x18 := x18) hn ha ha2 hb hb2
  have C3 := e_is_bothN (k := k + 24) hn ha ha2 hb hb2
  unfold due1
  generalize bL (2 ^ n) (co (2 ^ n) a b) = B at *
  generalize nL ((upN (2 ^ n)).map (op (2 ^ n) (co (2 ^ n) a b))) = L at *
  generalize nL [co (2 ^ n) a b] = L0 at *
  simp [C1, C2, C3, -ev_comp]
end
end Ev

namespace Ev
open PySem Pv L2 Lv
theorem same_stmt {k : Nat} {e1 e2 : E} {ρ ρ1 : Pv.Env} {r s : R} {t1 t2 : Option Nat} {d : D} (h : evL (Ph Ir.prog (k + 30)) (.cons e1 (.cons e2 .nil)) ρ = some ([(r, t1), (s, t2)], ρ1)) (hd : SD 4 d) (hr : Rv d r) (hs : Rv d s) :
    ∃ o1 o2, ex (Ph Ir.prog (k + 30)) (.if_ (.tnot (.tt (.call "_law_same" (.cons e1 (.cons e2 .nil))))) (.seq (.ret (.bl false)) .skip) .skip) ρ = some (.next, wb ρ1 [(r, t1), (s, t2)] [o1, o2]) := by
  obtain ⟨o1, o2, e⟩ := same_ok (k := k + 25) d r s hd hr hs
  refine ⟨o1, o2, ?_⟩
  have hc := call_n (f := "_law_same") h e rfl
  have ho := opd_n (by intro _; nofun) hc rfl
  simp only [x0_if, tv_not, tv_tt, ho, Option.bind_some, ds_d, td_b, Bool.not_true, x0_skip]
section
variable {k n N a b c ab m : Nat} {r : R} {x1 x2 x3 x4 x5 x6 x7 x8 x9 x10 x11 x12 x13 x14 x15 x16 x17 x18 x19 : Option R}
theorem s_if1 (hn : n ≤ 12) (ha : 1 ≤ a) (ha2 : a ≤ 2 ^ n) (hb : 1 ≤ b) (hb2 : b ≤ 2 ^ n) : ∃ o, ex (Ph Ir.prog (k + 30)) (.if_ (.tnot (.tt (.call "_law_same" (.cons (.var 7) (.cons (.lst (.cons (.lst (.cons (.var 4) .nil)) (.cons (.var 5) (.cons (.comp (.cmp .Eq (.var 19) (.var 4)) (.nm 19) (.rng2 (.num 1) (.bin .Add (.var 2) (.num 1))) .tyes [19]) (.cons (.bl false) .nil))))) .nil))))) (.seq (.ret (.bl false)) .skip) .skip)
      (V r x1 (some (iv (2 ^ n))) x3 (some (iv (co (2 ^ n) a b))) (some (.l (nL ((upN (2 ^ n)).map fun x => op (2 ^ n) a (op (2 ^ n) b x))))) x6 (some (.l (due1 n a b))) x8 x9 x10 x11 x12 x13 x14 x15 x16 x17 x18 none) =
    some (.next, V r x1 (some (iv (2 ^ n))) x3 (some (iv (co (2 ^ n) a b))) (some (.v (.list (nL ((upN (2 ^ n)).map fun x => op (2 ^ n) a (op (2 ^ n) b x)))))) x6 (some o) x8 x9 x10 x11 x12 x13 x14 x15 x16 x17 x18 none) := by
  have hN := pow_le12 hn
  have hN1 : 1 ≤ 2 ^ n := Nat.one_le_two_pow
  have F := fine_pow n
  have eL : (upN (2 ^ n)).map (fun x => op (2 ^ n) a (op (2 ^ n) b x)) = (upN (2 ^ n)).map (op (2 ^ n) (co (2 ^ n) a b)) := by
    apply List.map_congr_left
    intro x hx
    exact (co_op hN1 F ha ha2 hb hb2 x (mem_upN.mp hx).1 (mem_upN.mp hx).2).symm
  rw [eL]
  have C := s_keq (k := k) (r := r) (x1 := x1) (x3 := x3) (ab := co (2 ^ n) a b) (x5 := some (.v (.list (nL ((upN (2 ^ n)).map (op (2 ^ n) (co (2 ^ n) a b))))))) (x6 := x6) (x7 := some (.l (due1 n a b))) (x8 := x8) (x9 := x9) (x10 := x10) (x11 := x11) (x12 := x12) (x13 := x13) (x14 := x14) (x15 := x15) (x16 := x16) (x17 := x17) (x18 := x18) hN
  have h : evL (Ph Ir.prog (k + 30)) (.cons (.var 7) (.cons (.lst (.cons (.lst (.cons (.var 4) .nil)) (.cons (.var 5) (.cons (.comp (.cmp .Eq (.var 19) (.var 4)) (.nm 19) (.rng2 (.num 1) (.bin .Add (.var 2) (.num 1))) .tyes [19]) (.cons (.bl false) .nil))))) .nil)) (V r x1 (some (iv (2 ^ n))) x3 (some (iv (co (2 ^ n) a b))) (some (.l (nL ((upN (2 ^ n)).map (op (2 ^ n) (co (2 ^ n) a b)))))) x6 (some (.l (due1 n a b))) x8 x9 x10 x11 x12 x13 x14 x15 x16 x17 x18 none) =
      some ([(.l (due1 n a b), some 7), (.l (due1 n a b), none)], V r x1 (some (iv (2 ^ n))) x3 (some (iv (co (2 ^ n) a b))) (some (.v (.list (nL ((upN (2 ^ n)).map (op (2 ^ n) (co (2 ^ n) a b))))))) x6 none x8 x9 x10 x11 x12 x13 x14 x15 x16 x17 x18 none) := by
    have e0 : due1 n a b = [.list [.int (co (2 ^ n) a b : Nat)], .list (nL ((upN (2 ^ n)).map (op (2 ^ n) (co (2 ^ n) a b)))), .list (bL (2 ^ n) (co (2 ^ n) a b)), .bool false] := rfl
    generalize due1 n a b = DD at *
    generalize bL (2 ^ n) (co (2 ^ n) a b) = B at *
    generalize nL ((upN (2 ^ n)).map (op (2 ^ n) (co (2 ^ n) a b))) = L at *
    have e9 : okN DD.length = true := by rw [e0]; rfl
    simp [C, -ev_comp, ← e0, e9]
  obtain ⟨o1, o2, e⟩ := same_stmt (k := k) h (sd_due1 hn) (.inr ⟨_, rfl, rfl⟩) (.inr ⟨_, rfl, rfl⟩)
  exact ⟨o1, e⟩
/-- a number drawn, in _law_right -/
theorem s_row (hN : 1 ≤ N) (hN2 : N ≤ 4096) {c0 : Nat} (t : Tn c0 r) (hc : c0 < 900000) : ∃ (l : List Nat) (r' : R), l.length ≤ 5 ∧ (∀ x ∈ l, 1 ≤ x ∧ x ≤ N) ∧ Tn (c0 + 6) r' ∧
    ex (Ph Ir.prog (k + 30)) (.asg 8 (.bi .tuple (.cons (.comp takeE (.nm 13) (.rng1 (.call "_law_take" (.cons (.var 0) (.cons (.num 6) .nil)))) .tyes [13]) .nil))) (V r x1 (some (iv N)) x3 x4 x5 x6 x7 x8 x9 x10 x11 x12 none x14 x15 x16 x17 x18 x19) =
      some (.next, V r' x1 (some (iv N)) x3 x4 x5 x6 x7 (some (.v (.tuple (nL l)))) x9 x10 x11 x12 none x14 x15 x16 x17 x18 x19) := by
  obtain ⟨v, r1, t1, v1, e1⟩ := t.take (by omega) 6 (by omega) (by omega) (k + 29)
  have ho := t.own
  have hI := rng1_n (Φ := Ph Ir.prog (k + 30)) (a := .call "_law_take" (.cons (.var 0) (.cons (.num 6) .nil))) (ρ := V r x1 (some (iv N)) x3 x4 x5 x6 x7 x8 x9 x10 x11 x12 none x14 x15 x16 x17 x18 x19) (ρ1 := V r1 x1 (some (iv N)) x3 x4 x5 x6 x7 x8 x9 x10 x11 x12 none x14 x15 x16 x17 x18 x19) (j := (v : Nat)) (o := .d (.int (v : Nat))) (by
    have e1 : Ph Ir.prog (k + 30) "_law_take" [r, .v (.int 6)] = some (iv v, [r1, .v (.int 6)]) := e1
    simp [ho, e1]) rfl (by omega) (by omega)
  obtain ⟨l, r', h1, h2, h3, h4⟩ := draws (k := k + 29) hN hN2 (x1 := x1) (x3 := x3) (x4 := x4) (x5 := x5) (x6 := x6) (x7 := x7) (x8 := x8) (x9 := x9) (x10 := x10) (x11 := x11) (x12 := x12) (x14 := x14) (x15 := x15) (x16 := x16) (x17 := x17) (x18 := x18) (x19 := x19) (rngD 0 (v : Nat)) (c0 + 1) r1 t1 (by rw [rngD_len]; omega)
  rw [rngD_len] at h1 h3
  have hA := comp_n (tg := .nm 13) (vs := [13]) hI (by rw [rngD_len]; omega) h4
  refine ⟨l, r', by omega, h2, ?_, asg_n (tup_n (by intro _; nofun) hA)⟩
  obtain ⟨x, y, z, rfl, ti⟩ := h3
  exact ⟨x, y, z, rfl, ti.1, ti.2.1, ti.2.2.1, ti.2.2.2.1, by have := ti.2.2.2.2; omega⟩
/-- the goal, from behind -/
theorem s_goal (ht : ∀ x, 1 ≤ x → x ≤ N → ∀ y, 1 ≤ y → y ≤ N → 1 ≤ op N x y ∧ op N x y ≤ N) (hc : 1 ≤ c) (hc2 : c ≤ N) (l : List Nat) (hl : ∀ x ∈ l, 1 ≤ x ∧ x ≤ N) : ∃ o, ex (Ph Ir.prog (k + 30)) (.for_ (.nm 10) (.it (.rev (.var 8))) (.seq (.asg 9 (.idx (.idx (.var 3) (.var 10)) (.var 9))) .skip)) (V r x1 x2 (some (.l (tabD N))) x4 x5 x6 x7 (some (.v (.tuple (nL l)))) (some (iv c)) x10 x11 x12 x13 x14 x15 x16 x17 x18 x19) =
    some (.next, V r x1 x2 (some (.l (tabD N))) x4 x5 x6 x7 (some (.v (.tuple (nL l)))) (some (iv (l.foldr (op N) c))) o x11 x12 x13 x14 x15 x16 x17 x18 x19) := by
  let f : D → Pv.Env → Option (Fl × Pv.Env) := fun d ρ => (bindT (.nm 10) d ρ).bind fun ρ2 => ex (Ph Ir.prog (k + 30)) (.seq (.asg 9 (.idx (.idx (.var 3) (.var 10)) (.var 9))) .skip) ρ2
  have loop : ∀ (l' : List Nat), (∀ x ∈ l', 1 ≤ x ∧ x ≤ N) → ∀ (g : Nat) (o : Option R), 1 ≤ g → g ≤ N → ∃ o', forL f (nL l') (V r x1 x2 (some (.l (tabD N))) x4 x5 x6 x7 (some (.v (.tuple (nL l)))) (some (iv g)) o x11 x12 x13 x14 x15 x16 x17 x18 x19) =
      some (.next, V r x1 x2 (some (.l (tabD N))) x4 x5 x6 x7 (some (.v (.tuple (nL l)))) (some (iv (l'.foldl (fun g x => op N x g) g))) o' x11 x12 x13 x14 x15 x16 x17 x18 x19) := by
    intro l'
    induction l' with
    | nil => exact fun _ g o _ _ => ⟨o, rfl⟩
    | cons x l' ih =>
      intro hl' g o g1 g2
      obtain ⟨y1, y2⟩ := hl' x (List.mem_cons_self ..)
      obtain ⟨z1, z2⟩ := ht x y1 y2 g g1 g2
      obtain ⟨o', e⟩ := ih (fun z hz => hl' z (List.mem_cons_of_mem _ hz)) (op N x g) (some (iv x)) z1 z2
      refine ⟨o', ?_⟩
      have h1 : atI (tabD N) (x : Int) = some (.list (trow N x)) := by rw [at_nat rfl, tabD_at y1 y2]
      have h2 : atI (trow N x) (g : Int) = some (.int (op N x g : Nat)) := by rw [at_nat rfl, trow_at g1 g2]
      show (f (.int (x : Nat)) _).bind _ = _
      have e2 : f (.int (x : Nat)) (V r x1 x2 (some (.l (tabD N))) x4 x5 x6 x7 (some (.v (.tuple (nL l)))) (some (iv g)) o x11 x12 x13 x14 x15 x16 x17 x18 x19) = some (.next, V r x1 x2 (some (.l (tabD N))) x4 x5 x6 x7 (some (.v (.tuple (nL l)))) (some (iv (op N x g))) (some (iv x)) x11 x12 x13 x14 x15 x16 x17 x18 x19) := by
        simp [f, h1, h2]
      rw [e2]
      exact e
  obtain ⟨o', e⟩ := loop l.reverse (fun x hx => hl x (List.mem_reverse.mp hx)) c x10 hc hc2
  rw [List.foldl_reverse] at e
  refine ⟨o', for_n (ds := nL l.reverse) ?_ e⟩
  simp [seqD, nL]
end
end Ev

namespace Ev
open PySem Pv L2 Lv
section
variable {k n N a b c ab m : Nat} {r : R} {x1 x2 x3 x4 x5 x6 x7 x8 x9 x10 x11 x12 x13 x14 x15 x16 x17 x18 x19 : Option R} {l : List Nat}
def due2 (n a b c : Nat) (l : List Nat) : List Nat := [l.foldr (op (2 ^ n)) c, co (2 ^ n) (fl (2 ^ n) l) a, co (2 ^ n) a (fl (2 ^ n) l), a, a, co (2 ^ n) (co (2 ^ n) a b) c]
theorem allb (hn : n ≤ 12) (l : List Nat) (hl : ∀ x ∈ l, 1 ≤ x ∧ x ≤ 2 ^ n) (hz : l.length ≤ 100) (L : List D) (hL : L = nL l) (y : Nat) (hy : y = fl (2 ^ n) l) : Ph Ir.prog (k + 30) "all_both" [iv n, .v (.tuple L)] = some (iv y, [iv n, .v (.tuple L)]) := by
  subst hL hy
  exact e_all_both (k := k + 25) hn l hl (by omega)
theorem s_whole (hn : n ≤ 12) (hl : ∀ x ∈ l, 1 ≤ x ∧ x ≤ 2 ^ n) (hz : l.length ≤ 5) : ex (Ph Ir.prog (k + 30)) (.asg 11 (.call "all_both" (.cons (.var 1) (.cons (.var 8) .nil)))) (V r (some (iv n)) x2 x3 x4 x5 x6 x7 (some (.v (.tuple (nL l)))) x9 x10 x11 x12 x13 x14 x15 x16 x17 x18 x19) =
    some (.next, V r (some (iv n)) x2 x3 x4 x5 x6 x7 (some (.v (.tuple (nL l)))) x9 x10 (some (iv (fl (2 ^ n) l))) x12 x13 x14 x15 x16 x17 x18 x19) := by
  have e := allb (k := k) hn l hl (by omega) _ rfl _ rfl
  generalize nL l = L at *
  simp [e]
theorem s_got2 (hn : n ≤ 12) (ha : 1 ≤ a) (ha2 : a ≤ 2 ^ n) (hb : 1 ≤ b) (hb2 : b ≤ 2 ^ n) (hc : 1 ≤ c) (hc2 : c ≤ 2 ^ n) (hl : ∀ x ∈ l, 1 ≤ x ∧ x ≤ 2 ^ n) (hz : l.length ≤ 5) :
    ex (Ph Ir.prog (k + 30)) (.asg 7 (.lst (.cons (.call "times" (.cons (.var 1) (.cons (.var 11) (.cons (.var 16) .nil)))) (.cons (.call "all_both" (.cons (.var 1) (.cons (.bin .Add (.var 8) (.tup (.cons (.var 14) .nil))) .nil))) (.cons (.call "all_both" (.cons (.var 1) (.cons (.bin .Add (.tup (.cons (.var 14) .nil)) (.var 8)) .nil))) (.cons (.call "both" (.cons (.var 1) (.cons (.var 2) (.cons (.var 14) .nil)))) (.cons (.call "both" (.cons (.var 1) (.cons (.var 14) (.cons (.var 2) .nil)))) .nil)))))))
      (V r (some (iv n)) (some (iv (2 ^ n))) x3 x4 x5 x6 x7 (some (.v (.tuple (nL l)))) x9 x10 (some (iv (fl (2 ^ n) l))) x12 x13 (some (iv a)) x15 (some (iv c)) x17 x18 x19) =
    some (.next, V r (some (iv n)) (some (iv (2 ^ n))) x3 x4 x5 x6 (some (.l (nL ((due2 n a b c l).take 5)))) (some (.v (.tuple (nL l)))) x9 x10 (some (iv (fl (2 ^ n) l))) x12 x13 (some (iv a)) x15 (some (iv c)) x17 x18 x19) := by
  have hN1 : 1 ≤ 2 ^ n := Nat.one_le_two_pow
  have F := fine_pow n
  obtain ⟨f1, f2⟩ : 1 ≤ fl (2 ^ n) l ∧ fl (2 ^ n) l ≤ 2 ^ n := fl_rng hN1 l _ hN1 (Nat.le_refl _)
  have e1 := e_times (k := k + 25) hn f1 f2 hc hc2
  rw [op_fl hN1 F l c hc hc2 hl] at e1
  have e2 := allb (k := k) hn (l ++ [a]) (fun x hx => by
    rcases List.mem_append.mp hx with hx | hx
    · exact hl x hx
    · rw [List.mem_singleton.mp hx]; exact ⟨ha, ha2⟩) (by simp; omega) (nL l ++ [.int (a : Nat)]) (by simp [nL]) _ (fl_app l a).symm
  have e3 := allb (k := k) hn (a :: l) (fun x hx => by
    rcases List.mem_cons.mp hx with rfl | hx
    · exact ⟨ha, ha2⟩
    · exact hl x hx) (by simp; omega) (.int (a : Nat) :: nL l) rfl _ (fl_cons hN1 F a l ha ha2 hl).symm
  have e4 := e_both (k := k + 25) hn hN1 (Nat.le_refl _) ha ha2
  have e5 := e_both (k := k + 25) hn ha ha2 hN1 (Nat.le_refl _)
  rw [co_N hN1 ha ha2] at e4
  rw [co_r hN1 ha ha2] at e5
  have k1 : okN ((nL l).length + 1) = true := okN_t (by simp; omega)
  have k2 : okN (1 + (nL l).length) = true := okN_t (by simp; omega)
  have hd : nL ((due2 n a b c l).take 5) = [.int (l.foldr (op (2 ^ n)) c : Nat), .int (co (2 ^ n) (fl (2 ^ n) l) a : Nat), .int (co (2 ^ n) a (fl (2 ^ n) l) : Nat), .int (a : Nat), .int (a : Nat)] := rfl
  rw [hd]
  generalize nL l = L at *
  simp [e1, e2, e3, e4, e5, k1, k2, Nat.add_comm]
theorem s_got2b (hn : n ≤ 12) (ha : 1 ≤ a) (ha2 : a ≤ 2 ^ n) (hb : 1 ≤ b) (hb2 : b ≤ 2 ^ n) (hc : 1 ≤ c) (hc2 : c ≤ 2 ^ n) :
    ex (Ph Ir.prog (k + 30)) (.asg 7 (.bin .Add (.var 7) (.lst (.cons (.call "all_both" (.cons (.var 1) (.cons (.tup (.cons (.var 4) (.cons (.var 16) .nil))) .nil))) .nil))))
      (V r (some (iv n)) x2 x3 (some (iv (co (2 ^ n) a b))) x5 x6 (some (.l (nL ((due2 n a b c l).take 5)))) x8 x9 x10 x11 x12 x13 x14 x15 (some (iv c)) x17 x18 x19) =
    some (.next, V r (some (iv n)) x2 x3 (some (iv (co (2 ^ n) a b))) x5 x6 (some (.l (nL (due2 n a b c l)))) x8 x9 x10 x11 x12 x13 x14 x15 (some (iv c)) x17 x18 x19) := by
  have hN1 : 1 ≤ 2 ^ n := Nat.one_le_two_pow
  have h : fl (2 ^ n) [co (2 ^ n) a b, c] = co (2 ^ n) (co (2 ^ n) a b) c := by
    show co _ (co _ (2 ^ n) (co (2 ^ n) a b)) c = _
    rw [co_N hN1 (co_pos hN1) (co_le hN1)]
  have e := allb (k := k) hn [co (2 ^ n) a b, c] (fun x hx => by
    rcases List.mem_cons.mp hx with rfl | hx
    · exact ⟨co_pos hN1, co_le hN1⟩
    · rw [List.mem_singleton.mp hx]; exact ⟨hc, hc2⟩) (by simp) [.int (co (2 ^ n) a b : Nat), .int (c : Nat)] rfl _ h.symm
  have hd : nL (due2 n a b c l) = nL ((due2 n a b c l).take 5) ++ [.int (co (2 ^ n) (co (2 ^ n) a b) c : Nat)] := rfl
  have k1 : okN ((nL ((due2 n a b c l).take 5)).length + 1) = true := rfl
  rw [hd]
  generalize nL ((due2 n a b c l).take 5) = L at *
  simp [e, k1]
theorem s_if2 (hn : n ≤ 12) (ha : 1 ≤ a) (ha2 : a ≤ 2 ^ n) (hb : 1 ≤ b) (hb2 : b ≤ 2 ^ n) (hc : 1 ≤ c) (hc2 : c ≤ 2 ^ n) (hl : ∀ x ∈ l, 1 ≤ x ∧ x ≤ 2 ^ n) : ∃ o, ex (Ph Ir.prog (k + 30)) (.if_ (.tnot (.tt (.call "_law_same" (.cons (.var 7) (.cons (.lst (.cons (.var 9) (.cons (.call "both" (.cons (.var 1) (.cons (.var 11) (.cons (.var 14) .nil)))) (.cons (.call "both" (.cons (.var 1) (.cons (.var 14) (.cons (.var 11) .nil)))) (.cons (.var 14) (.cons (.var 14) (.cons (.call "all_both" (.cons (.var 1) (.cons (.tup (.cons (.var 14) (.cons (.var 15) (.cons (.var 16) .nil)))) .nil))) .nil))))))) .nil))))) (.seq (.ret (.bl false)) .skip) .skip)
      (V r (some (iv n)) x2 x3 x4 x5 x6 (some (.l (nL (due2 n a b c l)))) x8 (some (iv (l.foldr (op (2 ^ n)) c))) x10 (some (iv (fl (2 ^ n) l))) x12 x13 (some (iv a)) (some (iv b)) (some (iv c)) x17 x18 x19) =
    some (.next, V r (some (iv n)) x2 x3 x4 x5 x6 (some o) x8 (some (iv (l.foldr (op (2 ^ n)) c))) x10 (some (iv (fl (2 ^ n) l))) x12 x13 (some (iv a)) (some (iv b)) (some (iv c)) x17 x18 x19) := by
  have hN1 : 1 ≤ 2 ^ n := Nat.one_le_two_pow
  obtain ⟨f1, f2⟩ : 1 ≤ fl (2 ^ n) l ∧ fl (2 ^ n) l ≤ 2 ^ n := fl_rng hN1 l _ hN1 (Nat.le_refl _)
  have e4 := e_both (k := k + 25) hn f1 f2 ha ha2
  have e5 := e_both (k := k + 25) hn ha ha2 f1 f2
  have h3 : fl (2 ^ n) [a, b, c] = co (2 ^ n) (co (2 ^ n) a b) c := by
    show co _ (co _ (co _ (2 ^ n) a) b) c = _
    rw [co_N hN1 ha ha2]
  have e6 := allb (k := k) hn [a, b, c] (fun x hx => by
    rcases List.mem_cons.mp hx with rfl | hx
    · exact ⟨ha, ha2⟩
    · rcases List.mem_cons.mp hx with rfl | hx
      · exact ⟨hb, hb2⟩
      · rw [List.mem_singleton.mp hx]; exact ⟨hc, hc2⟩) (by simp) [.int (a : Nat), .int (b : Nat), .int (c : Nat)] rfl _ h3.symm
  have h : evL (Ph Ir.prog (k + 30)) (.cons (.var 7) (.cons (.lst (.cons (.var 9) (.cons (.call "both" (.cons (.var 1) (.cons (.var 11) (.cons (.var 14) .nil)))) (.cons (.call "both" (.cons (.var 1) (.cons (.var 14) (.cons (.var 11) .nil)))) (.cons (.var 14) (.cons (.var 14) (.cons (.call "all_both" (.cons (.var 1) (.cons (.tup (.cons (.var 14) (.cons (.var 15) (.cons (.var 16) .nil)))) .nil))) .nil))))))) .nil)) (V r (some (iv n)) x2 x3 x4 x5 x6 (some (.l (nL (due2 n a b c l)))) x8 (some (iv (l.foldr (op (2 ^ n)) c))) x10 (some (iv (fl (2 ^ n) l))) x12 x13 (some (iv a)) (some (iv b)) (some (iv c)) x17 x18 x19) =
      some ([(.l (nL (due2 n a b c l)), some 7), (.l (nL (due2 n a b c l)), none)], V r (some (iv n)) x2 x3 x4 x5 x6 none x8 (some (iv (l.foldr (op (2 ^ n)) c))) x10 (some (iv (fl (2 ^ n) l))) x12 x13 (some (iv a)) (some (iv b)) (some (iv c)) x17 x18 x19) := by
    have e0 : nL (due2 n a b c l) = [.int (l.foldr (op (2 ^ n)) c : Nat), .int (co (2 ^ n) (fl (2 ^ n) l) a : Nat), .int (co (2 ^ n) a (fl (2 ^ n) l) : Nat), .int (a : Nat), .int (a : Nat), .int (co (2 ^ n) (co (2 ^ n) a b) c : Nat)] := rfl
    generalize nL (due2 n a b c l) = DD at *
    have e9 : okN DD.length = true := by rw [e0]; rfl
    simp [e4, e5, e6, ← e0, e9]
  obtain ⟨o1, o2, e⟩ := same_stmt (k := k) h (sd_nL _ 3 (by simp [due2])) (.inr ⟨_, rfl, rfl⟩) (.inr ⟨_, rfl, rfl⟩)
  exact ⟨o1, e⟩
/-- many times -/
theorem s_loop (hn : n ≤ 12) (ha : 1 ≤ a) (ha2 : a ≤ 2 ^ n) (hb : 1 ≤ b) (hb2 : b ≤ 2 ^ n) (hm : m ≤ 100) : ∃ o, ex (Ph Ir.prog (k + 30)) (.for_ (.nm 13) (.rng1 (.var 12)) (.seq (.par 17 18 (.call "both" (.cons (.var 1) (.cons (.var 17) (.cons (.var 14) .nil)))) (.idx (.idx (.var 3) (.var 14)) (.var 18))) .skip))
      (V r (some (iv n)) x2 (some (.l (tabD (2 ^ n)))) x4 x5 x6 x7 x8 x9 x10 x11 (some (iv m)) x13 (some (iv a)) x15 x16 (some (iv (2 ^ n))) (some (iv b)) x19) =
    some (.next, V r (some (iv n)) x2 (some (.l (tabD (2 ^ n)))) x4 x5 x6 x7 x8 x9 x10 x11 (some (iv m)) o (some (iv a)) x15 x16 (some (iv (fl (2 ^ n) (List.replicate m a)))) (some (iv ((List.replicate m a).foldr (op (2 ^ n)) b))) x19) := by
  have hN1 : 1 ≤ 2 ^ n := Nat.one_le_two_pow
  let f : D → Pv.Env → Option (Fl × Pv.Env) := fun d ρ => (bindT (.nm 13) d ρ).bind fun ρ2 => ex (Ph Ir.prog (k + 30)) (.seq (.par 17 18 (.call "both" (.cons (.var 1) (.cons (.var 17) (.cons (.var 14) .nil)))) (.idx (.idx (.var 3) (.var 14)) (.var 18))) .skip) ρ2
  have h1 : atI (tabD (2 ^ n)) (a : Int) = some (.list (trow (2 ^ n) a)) := by rw [at_nat rfl, tabD_at ha ha2]
  obtain ⟨ρ', ef, o, g1, g2, hρ⟩ := forL_turns (f := f) (fun j ρ => ∃ o, (1 ≤ (List.replicate j a).foldr (op (2 ^ n)) b) ∧ ((List.replicate j a).foldr (op (2 ^ n)) b ≤ 2 ^ n) ∧ ρ = V r (some (iv n)) x2 (some (.l (tabD (2 ^ n)))) x4 x5 x6 x7 x8 x9 x10 x11 (some (iv m)) o (some (iv a)) x15 x16 (some (iv (fl (2 ^ n) (List.replicate j a)))) (some (iv ((List.replicate j a).foldr (op (2 ^ n)) b))) x19) (rngD 0 m) 0
    (V r (some (iv n)) x2 (some (.l (tabD (2 ^ n)))) x4 x5 x6 x7 x8 x9 x10 x11 (some (iv m)) x13 (some (iv a)) x15 x16 (some (iv (2 ^ n))) (some (iv b)) x19) ⟨x13, hb, hb2, rfl⟩ (fun j d ρ hj ⟨o, g1, g2, hρ⟩ => by
      subst hρ
      rw [Nat.zero_add] at g1 g2 ⊢
      obtain ⟨f1, f2⟩ : 1 ≤ fl (2 ^ n) (List.replicate j a) ∧ fl (2 ^ n) (List.replicate j a) ≤ 2 ^ n := fl_rng hN1 _ _ hN1 (Nat.le_refl _)
      have e := e_both (k := k + 25) hn f1 f2 ha ha2
      have h2 : atI (trow (2 ^ n) a) (((List.replicate j a).foldr (op (2 ^ n)) b : Nat) : Int) = some (.int (op (2 ^ n) a ((List.replicate j a).foldr (op (2 ^ n)) b) : Nat)) := by rw [at_nat rfl, trow_at g1 g2]
      refine ⟨V r (some (iv n)) x2 (some (.l (tabD (2 ^ n)))) x4 x5 x6 x7 x8 x9 x10 x11 (some (iv m)) (some (.v d)) (some (iv a)) x15 x16 (some (iv (fl (2 ^ n) (List.replicate (j + 1) a)))) (some (iv ((List.replicate (j + 1) a).foldr (op (2 ^ n)) b))) x19, .inl ?_, _, op_pos ha ha2 g1, op_le ha2 g1 g2, rfl⟩
      rw [fl_rep, foldr_rep]
      generalize fl (2 ^ n) (List.replicate j a) = u at *
      generalize (List.replicate j a).foldr (op (2 ^ n)) b = w at *
      simp [f, e, h1, h2])
  subst hρ
  rw [rngD_len, Nat.zero_add, show ((m : Int) - 0).toNat = m by omega] at ef
  exact ⟨o, for_n (rng1_n (ρ1 := V r (some (iv n)) x2 (some (.l (tabD (2 ^ n)))) x4 x5 x6 x7 x8 x9 x10 x11 (some (iv m)) x13 (some (iv a)) x15 x16 (some (iv (2 ^ n))) (some (iv b)) x19) (o := .sl 12) (by simp) rfl (by omega) (by omega)) ef⟩
end
end Ev

namespace Ev
open PySem Pv L2 Lv
section
variable {k n N a b c ab m : Nat} {r : R} {x1 x2 x3 x4 x5 x6 x7 x8 x9 x10 x11 x12 x13 x14 x15 x16 x17 x18 x19 : Option R} {l : List Nat}
def due3 (n a b m : Nat) : List Nat := [fl (2 ^ n) (List.replicate m a), (List.replicate m a).foldr (op (2 ^ n)) b, fl (2 ^ n) (List.replicate (m + 1) a), 2 ^ n, 2 ^ n]
theorem fl_top {N : Nat} (hN : 1 ≤ N) : ∀ m, fl N (List.replicate m N) = N
  | 0 => rfl
  | m + 1 => by rw [fl_rep, fl_top hN m, co_N hN hN (Nat.le_refl _)]
theorem s_got3 (hn : n ≤ 12) (ha : 1 ≤ a) (ha2 : a ≤ 2 ^ n) (hb : 1 ≤ b) (hb2 : b ≤ 2 ^ n) (hm : m ≤ 100) :
    ex (Ph Ir.prog (k + 30)) (.asg 7 (.lst (.cons (.call "both_times" (.cons (.var 1) (.cons (.var 14) (.cons (.var 12) .nil)))) (.cons (.call "times" (.cons (.var 1) (.cons (.call "both_times" (.cons (.var 1) (.cons (.var 14) (.cons (.var 12) .nil)))) (.cons (.var 15) .nil)))) (.cons (.call "both" (.cons (.var 1) (.cons (.call "both_times" (.cons (.var 1) (.cons (.var 14) (.cons (.var 12) .nil)))) (.cons (.var 14) .nil)))) .nil)))))
      (V r (some (iv n)) x2 x3 x4 x5 x6 x7 x8 x9 x10 x11 (some (iv m)) x13 (some (iv a)) (some (iv b)) x16 x17 x18 x19) =
    some (.next, V r (some (iv n)) x2 x3 x4 x5 x6 (some (.l (nL ((due3 n a b m).take 3)))) x8 x9 x10 x11 (some (iv m)) x13 (some (iv a)) (some (iv b)) x16 x17 x18 x19) := by
  have hN1 : 1 ≤ 2 ^ n := Nat.one_le_two_pow
  have F := fine_pow n
  have hl : ∀ x ∈ List.replicate m a, 1 ≤ x ∧ x ≤ 2 ^ n := fun x hx => by rw [List.eq_of_mem_replicate hx]; exact ⟨ha, ha2⟩
  obtain ⟨f1, f2⟩ : 1 ≤ fl (2 ^ n) (List.replicate m a) ∧ fl (2 ^ n) (List.replicate m a) ≤ 2 ^ n := fl_rng hN1 _ _ hN1 (Nat.le_refl _)
  have e1 := e_both_times (k := k + 25) (m := m) hn ha ha2 (by omega)
  have e2 := e_times (k := k + 25) hn f1 f2 hb hb2
  rw [op_fl hN1 F _ b hb hb2 hl] at e2
  have e3 := e_both (k := k + 25) hn f1 f2 ha ha2
  rw [← fl_rep] at e3
  have hd : nL ((due3 n a b m).take 3) = [.int (fl (2 ^ n) (List.replicate m a) : Nat), .int ((List.replicate m a).foldr (op (2 ^ n)) b : Nat), .int (fl (2 ^ n) (List.replicate (m + 1) a) : Nat)] := rfl
  rw [hd]
  generalize fl (2 ^ n) (List.replicate (m + 1) a) = w at *
  generalize fl (2 ^ n) (List.replicate m a) = u at *
  generalize (List.replicate m a).foldr (op (2 ^ n)) b = v at *
  simp [e1, e2, e3]
theorem s_got3b (hn : n ≤ 12) (ha : 1 ≤ a) (ha2 : a ≤ 2 ^ n) (hm : m ≤ 100) :
    ex (Ph Ir.prog (k + 30)) (.asg 7 (.bin .Add (.var 7) (.lst (.cons (.call "both_times" (.cons (.var 1) (.cons (.var 14) (.cons (.num 0) .nil)))) (.cons (.call "both_times" (.cons (.var 1) (.cons (.var 2) (.cons (.var 12) .nil)))) .nil)))))
      (V r (some (iv n)) (some (iv (2 ^ n))) x3 x4 x5 x6 (some (.l (nL ((due3 n a b m).take 3)))) x8 x9 x10 x11 (some (iv m)) x13 (some (iv a)) x15 x16 x17 x18 x19) =
    some (.next, V r (some (iv n)) (some (iv (2 ^ n))) x3 x4 x5 x6 (some (.l (nL (due3 n a b m)))) x8 x9 x10 x11 (some (iv m)) x13 (some (iv a)) x15 x16 x17 x18 x19) := by
  have hN1 : 1 ≤ 2 ^ n := Nat.one_le_two_pow
  have e1 : Ph Ir.prog (k + 30) "both_times" [iv n, iv a, .v (.int 0)] = some (iv (2 ^ n), [iv n, iv a, .v (.int 0)]) := e_both_times (k := k + 25) (m := 0) hn ha ha2 (by omega)
  have e2 := e_both_times (k := k + 25) (m := m) hn hN1 (Nat.le_refl _) (by omega)
  rw [fl_top hN1] at e2
  have hd : nL (due3 n a b m) = nL ((due3 n a b m).take 3) ++ [.int ((2 ^ n : Nat) : Int), .int ((2 ^ n : Nat) : Int)] := rfl
  have k1 : okN ((nL ((due3 n a b m).take 3)).length + 2) = true := rfl
  rw [hd]
  generalize nL ((due3 n a b m).take 3) = L at *
  generalize 2 ^ n = N at *
  simp [e1, e2, k1]
theorem s_if3 (hn : n ≤ 12) (ha : 1 ≤ a) (ha2 : a ≤ 2 ^ n) (hm : m ≤ 100) : ∃ o, ex (Ph Ir.prog (k + 30)) (.if_ (.tnot (.tt (.call "_law_same" (.cons (.var 7) (.cons (.lst (.cons (.var 17) (.cons (.var 18) (.cons (.call "both_times" (.cons (.var 1) (.cons (.var 14) (.cons (.bin .Add (.var 12) (.num 1)) .nil)))) (.cons (.var 2) (.cons (.var 2) .nil)))))) .nil))))) (.seq (.ret (.bl false)) .skip) .skip)
      (V r (some (iv n)) (some (iv (2 ^ n))) x3 x4 x5 x6 (some (.l (nL (due3 n a b m)))) x8 x9 x10 x11 (some (iv m)) x13 (some (iv a)) x15 x16 (some (iv (fl (2 ^ n) (List.replicate m a)))) (some (iv ((List.replicate m a).foldr (op (2 ^ n)) b))) x19) =
    some (.next, V r (some (iv n)) (some (iv (2 ^ n))) x3 x4 x5 x6 (some o) x8 x9 x10 x11 (some (iv m)) x13 (some (iv a)) x15 x16 (some (iv (fl (2 ^ n) (List.replicate m a)))) (some (iv ((List.replicate m a).foldr (op (2 ^ n)) b))) x19) := by
  have hN1 : 1 ≤ 2 ^ n := Nat.one_le_two_pow
  have e1 : Ph Ir.prog (k + 30) "both_times" [iv n, iv a, .v (.int ((m : Int) + 1))] = some (iv (fl (2 ^ n) (List.replicate (m + 1) a)), [iv n, iv a, .v (.int ((m : Int) + 1))]) := e_both_times (k := k + 25) (m := m + 1) hn ha ha2 (by omega)
  have h : evL (Ph Ir.prog (k + 30)) (.cons (.var 7) (.cons (.lst (.cons (.var 17) (.cons (.var 18) (.cons (.call "both_times" (.cons (.var 1) (.cons (.var 14) (.cons (.bin .Add (.var 12) (.num 1)) .nil)))) (.cons (.var 2) (.cons (.var 2) .nil)))))) .nil))
      (V r (some (iv n)) (some (iv (2 ^ n))) x3 x4 x5 x6 (some (.l (nL (due3 n a b m)))) x8 x9 x10 x11 (some (iv m)) x13 (some (iv a)) x15 x16 (some (iv (fl (2 ^ n) (List.replicate m a)))) (some (iv ((List.replicate m a).foldr (op (2 ^ n)) b))) x19) =
      some ([(.l (nL (due3 n a b m)), some 7), (.l (nL (due3 n a b m)), none)], V r (some (iv n)) (some (iv (2 ^ n))) x3 x4 x5 x6 none x8 x9 x10 x11 (some (iv m)) x13 (some (iv a)) x15 x16 (some (iv (fl (2 ^ n) (List.replicate m a)))) (some (iv ((List.replicate m a).foldr (op (2 ^ n)) b))) x19) := by
    have e0 : nL (due3 n a b m) = [.int (fl (2 ^ n) (List.replicate m a) : Nat), .int ((List.replicate m a).foldr (op (2 ^ n)) b : Nat), .int (fl (2 ^ n) (List.replicate (m + 1) a) : Nat), .int ((2 ^ n : Nat) : Int), .int ((2 ^ n : Nat) : Int)] := rfl
    generalize nL (due3 n a b m) = DD at *
    generalize fl (2 ^ n) (List.replicate (m + 1) a) = w at *
    generalize fl (2 ^ n) (List.replicate m a) = u at *
    generalize (List.replicate m a).foldr (op (2 ^ n)) b = v at *
    generalize 2 ^ n = N at *
    have e9 : okN DD.length = true := by rw [e0]; rfl
    simp [e1, ← e0, e9]
  obtain ⟨o1, o2, e⟩ := same_stmt (k := k) h (sd_nL _ 3 (by simp [due3])) (.inr ⟨_, rfl, rfl⟩) (.inr ⟨_, rfl, rfl⟩)
  exact ⟨o1, e⟩
end
/-- what _law_more_right is to answer -/
def MoreOk (k : Nat) : Prop := ∀ (r : R) (c0 n a b c : Nat), Tn c0 r → c0 ≤ 100 → n ≤ 6 → 1 ≤ a → a ≤ 2 ^ n → 1 ≤ b → b ≤ 2 ^ n → 1 ≤ c → c ≤ 2 ^ n →
  ∃ o0 o6, Ph Ir.prog (k + 30) "_law_more_right" [r, iv (co (2 ^ n) a b), iv (2 ^ n), iv n, iv a, iv b, .l (tabD (2 ^ n)), iv c] = some (.v (.bool true), [o0, iv (co (2 ^ n) a b), iv (2 ^ n), iv n, iv a, iv b, o6, iv c])
theorem c__law_right' {k : Nat} {rs : List R} : Ph Ir.prog (k + 1) "_law_right" rs = runF (Ph Ir.prog k) Ir.f__law_right rs := rfl
theorem law_right {k : Nat} (MR : MoreOk k) (x y : Int) (h1 : 0 ≤ x) (h2 : 0 ≤ y) (h3 : y < 4611686018427387904) : ∃ o, Ph Ir.prog (k + 31) "_law_right" [.l [.int x, .int y, .int 0]] = some (.v (.bool true), [o]) := by
  have t0 : Tn 0 (.l (tinD x y 0)) := ⟨x, y, 0, rfl, h1, h2, h3, Int.le_refl _, Int.le_refl _⟩
  show ∃ o, Ph Ir.prog (k + 31) "_law_right" [.l (tinD x y 0)] = _
  generalize (R.l (tinD x y 0)) = r0 at *
  rw [c__law_right']
  obtain ⟨n, r1, t1, hn, e1⟩ := t0.take (by omega) 7 (by omega) (by omega) (k + 29)
  have hn6 : n ≤ 6 := by omega
  have hN1 : 1 ≤ 2 ^ n := Nat.one_le_two_pow
  have hN2 := pow_le12 (n := n) (by omega)
  have F := fine_pow n
  have b1 : (n : Int) ≤ 1000000 := by omega
  have hp := pow_cast n
  have eT := e__law_table (k := k + 29) (n := n) (by omega)
  -- the three
  obtain ⟨l3, r2, l1, l2, t2, hd3⟩ := draws (k := k + 29) hN1 hN2 (x1 := some (iv n)) (x3 := some (.l (tabD (2 ^ n)))) (x4 := none) (x5 := none) (x6 := none) (x7 := none) (x8 := none) (x9 := none) (x10 := none) (x11 := none) (x12 := none) (x14 := none) (x15 := none) (x16 := none) (x17 := none) (x18 := none) (x19 := none) (rngD 0 3) 1 r1 t1 (by rw [rngD_len]; omega)
  rw [rngD_len] at l1 t2
  obtain ⟨a, b, c, rfl⟩ : ∃ a b c, l3 = [a, b, c] := by
    match l3, l1 with
    | [a, b, c], _ => exact ⟨a, b, c, rfl⟩
  obtain ⟨ha, ha2⟩ := l2 a (by simp)
  obtain ⟨hb, hb2⟩ := l2 b (by simp)
  obtain ⟨hc, hc2⟩ := l2 c (by simp)
  have ho0 := t0.own
  have q1 : ex (Ph Ir.prog (k + 30)) (.asg 1 (.call "_law_take" (.cons (.var 0) (.cons (.num 7) .nil)))) (V r0 none none none none none none none none none none none none none none none none none none none) = some (.next, V r1 (some (iv n)) none none none none none none none none none none none none none none none none none none) := by
    have e1 : Ph Ir.prog (k + 30) "_law_take" [r0, .v (.int 7)] = some (iv n, [r1, .v (.int 7)]) := e1
    simp [ho0, e1]
  have q2 : ex (Ph Ir.prog (k + 30)) (.asg 2 (.bin .LShift (.num 1) (.var 1))) (V r1 (some (iv n)) none none none none none none none none none none none none none none none none none none) = some (.next, V r1 (some (iv n)) (some (iv (2 ^ n))) none none none none none none none none none none none none none none none none none) := by
    simp [b1]
  have q3 : ex (Ph Ir.prog (k + 30)) (.asg 3 (.call "_law_table" (.cons (.var 1) .nil))) (V r1 (some (iv n)) (some (iv (2 ^ n))) none none none none none none none none none none none none none none none none none) = some (.next, V r1 (some (iv n)) (some (iv (2 ^ n))) (some (.l (tabD (2 ^ n)))) none none none none none none none none none none none none none none none none) := by
    simp [eT]
  have q4 : ex (Ph Ir.prog (k + 30)) (.asgT (.tp (.cons (.nm 14) (.cons (.nm 15) (.cons (.nm 16) .nil)))) (.comp takeE (.nm 13) (.rng1 (.num 3)) .tyes [13])) (V r1 (some (iv n)) (some (iv (2 ^ n))) (some (.l (tabD (2 ^ n)))) none none none none none none none none none none none none none none none none) = some (.next, V r2 (some (iv n)) (some (iv (2 ^ n))) (some (.l (tabD (2 ^ n)))) none none none none none none none none none none (some (iv a)) (some (iv b)) (some (iv c)) none none none) := by
    have hI := rng1_n (Φ := Ph Ir.prog (k + 30)) (a := .num 3) (ρ := V r1 (some (iv n)) (some (iv (2 ^ n))) (some (.l (tabD (2 ^ n)))) none none none none none none none none none none none none none none none none) (ρ1 := V r1 (some (iv n)) (some (iv (2 ^ n))) (some (.l (tabD (2 ^ n)))) none none none none none none none none none none none none none none none none) (j := 3) (o := .d (.int 3)) (by simp) rfl (by omega) (by omega)
    have hA := comp_n (tg := .nm 13) (vs := [13]) hI (by rw [rngD_len]; omega) hd3
    rw [x0_asgT, hA]
    simp
  have eB := e_both (k := k + 25) (n := n) (by omega) ha ha2 hb hb2
  have q5 : ex (Ph Ir.prog (k + 30)) (.asg 4 (.call "both" (.cons (.var 1) (.cons (.var 14) (.cons (.var 15) .nil))))) (V r2 (some (iv n)) (some (iv (2 ^ n))) (some (.l (tabD (2 ^ n)))) none none none none none none none none none none (some (iv a)) (some (iv b)) (some (iv c)) none none none) = some (.next, V r2 (some (iv n)) (some (iv (2 ^ n))) (some (.l (tabD (2 ^ n)))) (some (iv (co (2 ^ n) a b))) none none none none none none none none none (some (iv a)) (some (iv b)) (some (iv c)) none none none) := by
    simp [eB]
  obtain ⟨o1, q9⟩ := s_if1 (k := k) (r := r2) (x1 := some (iv n)) (x3 := some (.l (tabD (2 ^ n)))) (x6 := some (.v (.list (nL [co (2 ^ n) a b])))) (x8 := none) (x9 := none) (x10 := none) (x11 := none) (x12 := none) (x13 := none) (x14 := some (iv a)) (x15 := some (iv b)) (x16 := some (iv c)) (x17 := none) (x18 := none) (n := n) (by omega) ha ha2 hb hb2
  obtain ⟨l, r3, hl5, hl, t3, q10⟩ := s_row (k := k) (x1 := some (iv n)) (x3 := some (.l (tabD (2 ^ n)))) (x4 := some (iv (co (2 ^ n) a b))) (x5 := some (.v (.list (nL ((upN (2 ^ n)).map fun x => op (2 ^ n) a (op (2 ^ n) b x)))))) (x6 := some (.v (.list (nL [co (2 ^ n) a b])))) (x7 := some o1) (x8 := none) (x9 := none) (x10 := none) (x11 := none) (x12 := none) (x14 := some (iv a)) (x15 := some (iv b)) (x16 := some (iv c)) (x17 := none) (x18 := none) (x19 := none) hN1 hN2 t2 (by omega)
  have q11 : ex (Ph Ir.prog (k + 30)) (.asg 9 (.var 16)) (V r3 (some (iv n)) (some (iv (2 ^ n))) (some (.l (tabD (2 ^ n)))) (some (iv (co (2 ^ n) a b))) (some (.v (.list (nL ((upN (2 ^ n)).map fun x => op (2 ^ n) a (op (2 ^ n) b x)))))) (some (.v (.list (nL [co (2 ^ n) a b])))) (some o1) (some (.v (.tuple (nL l)))) none none none none none (some (iv a)) (some (iv b)) (some (iv c)) none none none) =
      some (.next, V r3 (some (iv n)) (some (iv (2 ^ n))) (some (.l (tabD (2 ^ n)))) (some (iv (co (2 ^ n) a b))) (some (.v (.list (nL ((upN (2 ^ n)).map fun x => op (2 ^ n) a (op (2 ^ n) b x)))))) (some (.v (.list (nL [co (2 ^ n) a b])))) (some o1) (some (.v (.tuple (nL l)))) (some (iv c)) none none none none (some (iv a)) (some (iv b)) (some (iv c)) none none none) := by
    simp
  obtain ⟨o2, q12⟩ := s_goal (k := k) (r := r3) (x1 := some (iv n)) (x2 := some (iv (2 ^ n))) (x4 := some (iv (co (2 ^ n) a b))) (x5 := some (.v (.list (nL ((upN (2 ^ n)).map fun x => op (2 ^ n) a (op (2 ^ n) b x)))))) (x6 := some (.v (.list (nL [co (2 ^ n) a b])))) (x7 := some o1) (x10 := none) (x11 := none) (x12 := none) (x13 := none) (x14 := some (iv a)) (x15 := some (iv b)) (x16 := some (iv c)) (x17 := none) (x18 := none) (x19 := none) (N := 2 ^ n) (fun x y1 y2 y z1 z2 => ⟨op_pos y1 y2 z1, op_le y2 z1 z2⟩) hc hc2 l hl
  have hn12 : n ≤ 12 := by omega
  obtain ⟨o3, q16⟩ := s_if2 (k := k) (r := r3) (x2 := some (iv (2 ^ n))) (x3 := some (.l (tabD (2 ^ n)))) (x4 := some (iv (co (2 ^ n) a b))) (x5 := some (.v (.list (nL ((upN (2 ^ n)).map fun x => op (2 ^ n) a (op (2 ^ n) b x)))))) (x6 := some (.v (.list (nL [co (2 ^ n) a b])))) (x8 := some (.v (.tuple (nL l)))) (x10 := o2) (x12 := none) (x13 := none) (x17 := none) (x18 := none) (x19 := none) hn12 ha ha2 hb hb2 hc hc2 hl
  obtain ⟨m, r4, t4, hm, e17⟩ := t3.take (by omega) 30 (by omega) (by omega) (k + 29)
  have ho3 := t3.own
  have q17 : ex (Ph Ir.prog (k + 30)) (.asg 12 (.call "_law_take" (.cons (.var 0) (.cons (.num 30) .nil)))) (V r3 (some (iv n)) (some (iv (2 ^ n))) (some (.l (tabD (2 ^ n)))) (some (iv (co (2 ^ n) a b))) (some (.v (.list (nL ((upN (2 ^ n)).map fun x => op (2 ^ n) a (op (2 ^ n) b x)))))) (some (.v (.list (nL [co (2 ^ n) a b])))) (some o3) (some (.v (.tuple (nL l)))) (some (iv (l.foldr (op (2 ^ n)) c))) o2 (some (iv (fl (2 ^ n) l))) none none (some (iv a)) (some (iv b)) (some (iv c)) none none none) =
      some (.next, V r4 (some (iv n)) (some (iv (2 ^ n))) (some (.l (tabD (2 ^ n)))) (some (iv (co (2 ^ n) a b))) (some (.v (.list (nL ((upN (2 ^ n)).map fun x => op (2 ^ n) a (op (2 ^ n) b x)))))) (some (.v (.list (nL [co (2 ^ n) a b])))) (some o3) (some (.v (.tuple (nL l)))) (some (iv (l.foldr (op (2 ^ n)) c))) o2 (some (iv (fl (2 ^ n) l))) (some (iv m)) none (some (iv a)) (some (iv b)) (some (iv c)) none none none) := by
    have e17 : Ph Ir.prog (k + 30) "_law_take" [r3, .v (.int 30)] = some (iv m, [r4, .v (.int 30)]) := e17
    simp [ho3, e17]
  have q18 : ex (Ph Ir.prog (k + 30)) (.par 17 18 (.var 2) (.var 15)) (V r4 (some (iv n)) (some (iv (2 ^ n))) (some (.l (tabD (2 ^ n)))) (some (iv (co (2 ^ n) a b))) (some (.v (.list (nL ((upN (2 ^ n)).map fun x => op (2 ^ n) a (op (2 ^ n) b x)))))) (some (.v (.list (nL [co (2 ^ n) a b])))) (some o3) (some (.v (.tuple (nL l)))) (some (iv (l.foldr (op (2 ^ n)) c))) o2 (some (iv (fl (2 ^ n) l))) (some (iv m)) none (some (iv a)) (some (iv b)) (some (iv c)) none none none) =
      some (.next, V r4 (some (iv n)) (some (iv (2 ^ n))) (some (.l (tabD (2 ^ n)))) (some (iv (co (2 ^ n) a b))) (some (.v (.list (nL ((upN (2 ^ n)).map fun x => op (2 ^ n) a (op (2 ^ n) b x)))))) (some (.v (.list (nL [co (2 ^ n) a b])))) (some o3) (some (.v (.tuple (nL l)))) (some (iv (l.foldr (op (2 ^ n)) c))) o2 (some (iv (fl (2 ^ n) l))) (some (iv m)) none (some (iv a)) (some (iv b)) (some (iv c)) (some (iv (2 ^ n))) (some (iv b)) none) := by
    simp
  obtain ⟨o4, q19⟩ := s_loop (k := k) (r := r4) (x2 := some (iv (2 ^ n))) (x4 := some (iv (co (2 ^ n) a b))) (x5 := some (.v (.list (nL ((upN (2 ^ n)).map fun x => op (2 ^ n) a (op (2 ^ n) b x)))))) (x6 := some (.v (.list (nL [co (2 ^ n) a b])))) (x7 := some o3) (x8 := some (.v (.tuple (nL l)))) (x9 := some (iv (l.foldr (op (2 ^ n)) c))) (x10 := o2) (x11 := some (iv (fl (2 ^ n) l))) (x13 := none) (x15 := some (iv b)) (x16 := some (iv c)) (x19 := none) (m := m) hn12 ha ha2 hb hb2 (by omega)
  obtain ⟨o5, q22⟩ := s_if3 (k := k) (r := r4) (x3 := some (.l (tabD (2 ^ n)))) (x4 := some (iv (co (2 ^ n) a b))) (x5 := some (.v (.list (nL ((upN (2 ^ n)).map fun x => op (2 ^ n) a (op (2 ^ n) b x)))))) (x6 := some (.v (.list (nL [co (2 ^ n) a b])))) (x8 := some (.v (.tuple (nL l)))) (x9 := some (iv (l.foldr (op (2 ^ n)) c))) (x10 := o2) (x11 := some (iv (fl (2 ^ n) l))) (x13 := o4) (x15 := some (iv b)) (x16 := some (iv c)) (x19 := none) (b := b) (m := m) hn12 ha ha2 (by omega)
  obtain ⟨o0, o6, e23⟩ := MR r4 (1 + ((3 : Int) - 0).toNat + 6 + 1) n a b c t4 (by omega) hn6 ha ha2 hb hb2 hc hc2
  have ho4 := t4.own
  refine ⟨o0, runF_of (ρ0 := V r0 none none none none none none none none none none none none none none none none none none none) rfl rfl (seq_n q1 (seq_n q2 (seq_n q3 (seq_n q4 (seq_n q5 (seq_n (asg_n (s_due hN2 ha ha2 hb hb2)) (seq_n (asg_n (s_alikes hN2 F ha ha2 hb hb2)) (seq_n (s_got1 hn12 ha ha2 hb hb2) (seq_n q9 (seq_n q10 (seq_n q11 (seq_n q12 (seq_n (s_whole hn12 hl hl5) (seq_n (s_got2 hn12 ha ha2 hb hb2 hc hc2 hl hl5) (seq_n (s_got2b hn12 ha ha2 hb hb2 hc hc2) (seq_n q16 (seq_n q17 (seq_n q18 (seq_n q19 (seq_n (s_got3 hn12 ha ha2 hb hb2 (by omega)) (seq_n (s_got3b hn12 ha ha2 (by omega)) (seq_n q22
    (ret_n (r := .v (.bool true)) (ρ1 := V o0 (some (iv n)) (some (iv (2 ^ n))) (some o6) (some (iv (co (2 ^ n) a b))) (some (.v (.list (nL ((upN (2 ^ n)).map fun x => op (2 ^ n) a (op (2 ^ n) b x)))))) (some (.v (.list (nL [co (2 ^ n) a b])))) (some o5) (some (.v (.tuple (nL l)))) (some (iv (l.foldr (op (2 ^ n)) c))) o2 (some (iv (fl (2 ^ n) l))) (some (iv m)) o4 (some (iv a)) (some (iv b)) (some (iv c)) (some (iv (fl (2 ^ n) (List.replicate m a)))) (some (iv ((List.replicate m a).foldr (op (2 ^ n)) b))) none) ?_))))))))))))))))))))))) rfl rfl⟩
  simp [ho4, e23]
end Ev

namespace Ev
open PySem Pv L2 Lv
section
variable {N a b c : Nat} (hN : 1 ≤ N) (F : Fine N) (ha : 1 ≤ a) (ha2 : a ≤ N)
include F ha ha2
theorem row_step {j : Nat} (h1 : 1 ≤ j) (h2 : j < per N a) : op N a j < op N a (j + 1) := by
  obtain ⟨P, _, pl⟩ := perP F ha ha2
  by_cases q : a = N
  · rw [q, op_N, op_N]
    omega
  · rw [op_succ (by omega) h1]
    exact op_gt (P.lt j h1 h2) (by omega)
theorem row_mono {i : Nat} (h1 : 1 ≤ i) : ∀ d, i + d ≤ per N a → op N a i ≤ op N a (i + d)
  | 0, _ => Nat.le_refl _
  | d + 1, h => by
    have z := row_mono h1 d (by omega)
    have := row_step F ha ha2 (j := i + d) (by omega) (by omega)
    rw [← Nat.add_assoc]
    omega
theorem img {x : Nat} (h1 : 1 ≤ x) (h2 : x ≤ N) : ∃ i, 1 ≤ i ∧ i ≤ per N a ∧ op N a i = op N a x := by
  obtain ⟨P, _, pl⟩ := perP F ha ha2
  refine ⟨(x - 1) % per N a + 1, by omega, Nat.mod_lt _ P.pos, ?_⟩
  rw [op_mod F ha ha2 (by omega), show x - 1 + 1 = x by omega]
theorem img_mem {x : Nat} (h1 : 1 ≤ x) (h2 : x ≤ N) : op N a x ∈ rowN N a := by
  obtain ⟨i, i1, i2, e⟩ := img F ha ha2 h1 h2
  rw [mem_rowN]
  exact ⟨i - 1, by omega, by rw [show i - 1 + 1 = i by omega]; exact e⟩
include hN
variable (hb : 1 ≤ b) (hb2 : b ≤ N)
include hb hb2
theorem per_b : per N (co N a b) ≤ per N b := by
  obtain ⟨P, _, pl⟩ := perP F (co_pos hN (a := a) (b := b)) (co_le hN)
  obtain ⟨Q, _, ql⟩ := perP F hb hb2
  rcases Nat.lt_or_ge (per N b) (per N (co N a b)) with h | h
  · have z := P.lt (per N b) Q.pos h
    rw [co_op hN F ha ha2 hb hb2 _ Q.pos ql, Q.at_, F.top ha ha2] at z
    omega
  · exact h
theorem per_a : per N (co N a b) ≤ per N a := by
  obtain ⟨P, _, pl⟩ := perP F (co_pos hN (a := a) (b := b)) (co_le hN)
  have pp := P.pos
  have im : ∀ j, 1 ≤ j → j ≤ N → ∃ i, 1 ≤ i ∧ i ≤ per N a ∧ op N a i = op N (co N a b) j := fun j h1 h2 => by
    rw [co_op hN F ha ha2 hb hb2 j h1 h2]
    exact img F ha ha2 (op_pos hb hb2 h1) (op_le hb2 h1 h2)
  have key : ∀ j, 1 ≤ j → j ≤ per N (co N a b) → ∃ i, j ≤ i ∧ i ≤ per N a ∧ op N a i = op N (co N a b) j := by
    intro j
    induction j with
    | zero => intro h; omega
    | succ j ih =>
      intro h1 h2
      obtain ⟨i', i1, i2, e'⟩ := im (j + 1) (by omega) (by omega)
      by_cases q : j = 0
      · exact ⟨i', by omega, i2, e'⟩
      · obtain ⟨i, k1, k2, e⟩ := ih (by omega) (by omega)
        have st := row_step F (co_pos hN (a := a) (b := b)) (co_le hN) (j := j) (by omega) (by omega)
        rw [← e, ← e'] at st
        refine ⟨i', ?_, i2, e'⟩
        rcases Nat.lt_or_ge i i' with z | z
        · omega
        · have := row_mono F ha ha2 i1 (i - i') (by omega)
          rw [show i' + (i - i') = i by omega] at this
          omega
  obtain ⟨i, k1, k2, _⟩ := key _ pp (Nat.le_refl _)
  omega
theorem row_sub {x : Nat} (h : x ∈ rowN N (co N a b)) : x ∈ rowN N a := by
  obtain ⟨P, _, pl⟩ := perP F (co_pos hN (a := a) (b := b)) (co_le hN)
  obtain ⟨j, hj, rfl⟩ := mem_rowN.mp h
  rw [co_op hN F ha ha2 hb hb2 (j + 1) (by omega) (by omega)]
  exact img_mem F ha ha2 (op_pos hb hb2 (by omega)) (op_le hb2 (by omega) (by omega))
theorem fix_sub {x : Nat} (h1 : x ∈ fixN N a) (h2 : x ∈ fixN N b) : x ∈ fixN N (co N a b) := by
  unfold fixN at *
  rw [List.mem_filter] at *
  obtain ⟨m, e1⟩ := h1
  obtain ⟨_, e2⟩ := h2
  obtain ⟨x1, x2⟩ := mem_upN.mp m
  refine ⟨m, ?_⟩
  rw [decide_eq_true_iff] at *
  rw [co_op hN F ha ha2 hb hb2 x x1 x2, e2, e1]
end
/-! the slots of _law_more_right -/
abbrev W (r : R) (N n ab a b c : Nat) (T : R) (x8 x9 x10 x11 x12 x13 x14 x15 x16 x17 x18 x19 x20 x21 x22 x23 x24 x25 : Option R) : Pv.Env :=
  [some r, some (iv ab), some (iv N), some (iv n), some (iv a), some (iv b), some T, some (iv c), x8, x9, x10, x11, x12, x13, x14, x15, x16, x17, x18, x19, x20, x21, x22, x23, x24, x25]
section
variable {k n N a b c low : Nat} {r T : R} {x8 x9 x10 x11 x12 x13 x14 x15 x16 x17 x18 x19 x20 x21 x22 x23 x24 x25 : Option R}
abbrev p2 (x y : Nat) : D := .tuple [.int (x : Nat), .int (y : Nat)]
def sides (N a b c : Nat) : List D := [p2 (co N (co N a b) c) (co N a (co N b c)), p2 (op N (co N a b) c) (op N a (op N b c)), p2 (op N a (co N b c)) (co N (op N a b) (op N a c)), p2 (co N a b) (co N (op N a b) a)]
theorem m_sides (hn : n ≤ 12) (ha : 1 ≤ a) (ha2 : a ≤ 2 ^ n) (hb : 1 ≤ b) (hb2 : b ≤ 2 ^ n) (hc : 1 ≤ c) (hc2 : c ≤ 2 ^ n) : ex (Ph Ir.prog (k + 30)) (.asg 8 (.call "laws_of_both" (.cons (.var 3) (.cons (.var 4) (.cons (.var 5) (.cons (.var 7) .nil)))))) (W r N n (co (2 ^ n) a b) a b c T x8 x9 x10 x11 x12 x13 x14 x15 x16 x17 x18 x19 x20 x21 x22 x23 x24 x25) =
    some (.next, W r N n (co (2 ^ n) a b) a b c T (some (.v (.tuple (sides (2 ^ n) a b c)))) x9 x10 x11 x12 x13 x14 x15 x16 x17 x18 x19 x20 x21 x22 x23 x24 x25) := by
  have e : Ph Ir.prog (k + 30) "laws_of_both" [iv n, iv a, iv b, iv c] = some (.v (.tuple (sides (2 ^ n) a b c)), [iv n, iv a, iv b, iv c]) := e_laws_of_both (k := k + 25) hn ha ha2 hb hb2 hc hc2
  generalize sides (2 ^ n) a b c = S at *
  simp [e]
def due4 (n a b low : Nat) : List D := [.list (List.replicate 4 (.bool true)), p2 (co (2 ^ n) a b) (co (2 ^ n) (op (2 ^ n) a b) a), .int (co (2 ^ low) (pr (2 ^ low) a) (pr (2 ^ low) b) : Nat), .bool true]
theorem m_got (hn : n ≤ 6) (hlow : low ≤ n) (ha : 1 ≤ a) (ha2 : a ≤ 2 ^ n) (hb : 1 ≤ b) (hb2 : b ≤ 2 ^ n) (hc : 1 ≤ c) (hc2 : c ≤ 2 ^ n) :
    ex (Ph Ir.prog (k + 30)) (.asg 10 (.lst (.cons (.comp (.cmp .Eq (.var 16) (.var 20)) (.tp (.cons (.nm 16) (.cons (.nm 20) .nil))) (.it (.var 8)) .tyes [16, 20]) (.cons (.idx (.var 8) (.num 3)) (.cons (.call "lowered" (.cons (.var 9) (.cons (.var 1) .nil))) (.cons (.cmp .Eq (.idx (.call "spreads_at" (.cons (.var 3) (.cons (.var 4) (.cons (.var 5) (.cons (.var 7) .nil))))) (.num 0)) (.call "times" (.cons (.var 3) (.cons (.call "both" (.cons (.var 3) (.cons (.var 4) (.cons (.var 5) .nil)))) (.cons (.var 7) .nil))))) .nil))))))
      (W r (2 ^ n) n (co (2 ^ n) a b) a b c T (some (.v (.tuple (sides (2 ^ n) a b c)))) (some (iv low)) x10 x11 x12 x13 x14 x15 none x17 x18 x19 none x21 x22 x23 x24 x25) =
    some (.next, W r (2 ^ n) n (co (2 ^ n) a b) a b c T (some (.v (.tuple (sides (2 ^ n) a b c)))) (some (iv low)) (some (.l (due4 n a b low))) x11 x12 x13 x14 x15 none x17 x18 x19 none x21 x22 x23 x24 x25) := by
  have hN1 : 1 ≤ 2 ^ n := Nat.one_le_two_pow
  have F := fine_pow n
  have hN2 := pow_le12 (n := n) (by omega)
  have i1 := co_assoc hN1 F ha ha2 hb hb2 hc hc2
  have i2 := co_op hN1 F ha ha2 hb hb2 c hc hc2
  have i3 := op_co hN1 F (2 ^ n) a b c (by omega) ha ha2 hb hb2 hc hc2
  have i4 := co_comm hN1 F ha ha2 hb hb2
  have e1 := e_lowered (k := k + 25) (m := low) (by omega) (co_pos hN1 (a := a) (b := b)) (by have := co_le hN1 (a := a) (b := b); omega)
  rw [co_low hlow ha ha2 hb hb2] at e1
  have e2 := e_spreads_at (k := k + 25) (n := n) (by omega) ha ha2 hb hb2 hc hc2
  have e3 := e_both (k := k + 25) (n := n) (by omega) ha ha2 hb hb2
  have e4 := e_times (k := k + 25) (n := n) (by omega) (co_pos hN1 (a := a) (b := b)) (co_le hN1) hc hc2
  rw [i2] at e4
  have hc : compL (turnE (Ph Ir.prog (k + 30)) (.cmp .Eq (.var 16) (.var 20)) (.tp (.cons (.nm 16) (.cons (.nm 20) .nil))) .tyes) [16, 20] (sides (2 ^ n) a b c) (W r (2 ^ n) n (co (2 ^ n) a b) a b c T (some (.v (.tuple (sides (2 ^ n) a b c)))) (some (iv low)) x10 x11 x12 x13 x14 x15 none x17 x18 x19 none x21 x22 x23 x24 x25) =
      some ((sides (2 ^ n) a b c).map fun _ => .bool true, W r (2 ^ n) n (co (2 ^ n) a b) a b c T (some (.v (.tuple (sides (2 ^ n) a b c)))) (some (iv low)) x10 x11 x12 x13 x14 x15 none x17 x18 x19 none x21 x22 x23 x24 x25) := by
    apply compL_all
    intro d hd
    have : ∃ x : Nat, d = p2 x x := by
      unfold sides at hd
      rw [i1, i2, i3, ← i4] at hd
      simp only [List.mem_cons, List.not_mem_nil, or_false] at hd
      rcases hd with rfl | rfl | rfl | rfl <;> exact ⟨_, rfl⟩
    obtain ⟨x, rfl⟩ := this
    generalize sides (2 ^ n) a b c = S at *
    exact ⟨W r (2 ^ n) n (co (2 ^ n) a b) a b c T (some (.v (.tuple S))) (some (iv low)) x10 x11 x12 x13 x14 x15 (some (iv x)) x17 x18 x19 (some (iv x)) x21 x22 x23 x24 x25, by simp [turnE], rfl⟩
  have hA := comp_n (Φ := Ph Ir.prog (k + 30)) (tg := .tp (.cons (.nm 16) (.cons (.nm 20) .nil))) (it := .it (.var 8)) (vs := [16, 20]) (ρ := W r (2 ^ n) n (co (2 ^ n) a b) a b c T (some (.v (.tuple (sides (2 ^ n) a b c)))) (some (iv low)) x10 x11 x12 x13 x14 x15 none x17 x18 x19 none x21 x22 x23 x24 x25) (ρ1 := W r (2 ^ n) n (co (2 ^ n) a b) a b c T (some (.v (.tuple (sides (2 ^ n) a b c)))) (some (iv low)) x10 x11 x12 x13 x14 x15 none x17 x18 x19 none x21 x22 x23 x24 x25) (ds := sides (2 ^ n) a b c) (by
    generalize sides (2 ^ n) a b c = S at *
    simp [seqD]) (by simp [sides]) hc
  have m4 : ((sides (2 ^ n) a b c).map fun _ => PyData.bool true) = List.replicate 4 (.bool true) := rfl
  rw [m4] at hA
  have a3 : atI (sides (2 ^ n) a b c) 3 = some (p2 (co (2 ^ n) a b) (co (2 ^ n) (op (2 ^ n) a b) a)) := rfl
  have a0 : ∀ u v : D, atI [u, v] 0 = some u := fun u v => rfl
  unfold due4
  generalize List.replicate 4 (PyData.bool true) = T4 at *
  generalize sides (2 ^ n) a b c = S at *
  simp [hA, -ev_comp, a3, e1, e2, e3, e4, a0]
theorem m_due (hn : n ≤ 6) (hlow : low ≤ n) (ha : 1 ≤ a) (ha2 : a ≤ 2 ^ n) (hb : 1 ≤ b) (hb2 : b ≤ 2 ^ n) :
    ex (Ph Ir.prog (k + 30)) (.asg 11 (.lst (.cons (.bin .Mult (.lst (.cons (.bl true) .nil)) (.num 4)) (.cons (.tup (.cons (.var 1) (.cons (.call "both" (.cons (.var 3) (.cons (.idx (.idx (.var 6) (.var 4)) (.var 5)) (.cons (.var 4) .nil)))) .nil))) (.cons (.call "both" (.cons (.var 9) (.cons (.call "lowered" (.cons (.var 9) (.cons (.var 4) .nil))) (.cons (.call "lowered" (.cons (.var 9) (.cons (.var 5) .nil))) .nil)))) (.cons (.bl true) .nil))))))
      (W r (2 ^ n) n (co (2 ^ n) a b) a b c (.l (tabD (2 ^ n))) x8 (some (iv low)) x10 x11 x12 x13 x14 x15 x16 x17 x18 x19 x20 x21 x22 x23 x24 x25) =
    some (.next, W r (2 ^ n) n (co (2 ^ n) a b) a b c (.l (tabD (2 ^ n))) x8 (some (iv low)) x10 (some (.l (due4 n a b low))) x12 x13 x14 x15 x16 x17 x18 x19 x20 x21 x22 x23 x24 x25) := by
  have hN1 : 1 ≤ 2 ^ n := Nat.one_le_two_pow
  have hM1 : 1 ≤ 2 ^ low := Nat.one_le_two_pow
  have hN2 := pow_le12 (n := n) (by omega)
  have e1 := e_lowered (k := k + 25) (m := low) (by omega) ha (by omega)
  have e2 := e_lowered (k := k + 25) (m := low) (by omega) hb (by omega)
  have e3 := e_both (k := k + 25) (n := n) (by omega) (op_pos ha ha2 hb) (op_le ha2 hb hb2) ha ha2
  have e4 := e_both (k := k + 25) (n := low) (by omega) (pr_pos (N := 2 ^ low) (x := a)) (pr_le hM1) (pr_pos (N := 2 ^ low) (x := b)) (pr_le hM1)
  have h1 : atI (tabD (2 ^ n)) (a : Int) = some (.list (trow (2 ^ n) a)) := by rw [at_nat rfl, tabD_at ha ha2]
  have h2 : atI (trow (2 ^ n) a) (b : Int) = some (.int (op (2 ^ n) a b : Nat)) := by rw [at_nat rfl, trow_at hb hb2]
  have h4 : binD .Mult (.list [.bool true]) (.int 4) = some (.l (List.replicate 4 (.bool true))) := rfl
  unfold due4
  generalize List.replicate 4 (PyData.bool true) = T4 at *
  simp [e1, e2, e3, e4, h1, h2, h4, -bd_rep]
theorem sd_due4 : SD 4 (.list (due4 n a b low)) := by
  refine ⟨by simp [due4], fun d hd => ?_⟩
  unfold due4 at hd
  rcases List.mem_cons.mp hd with rfl | hd
  · exact ⟨by simp, fun x hx => by rw [List.eq_of_mem_replicate hx]; trivial⟩
  rcases List.mem_cons.mp hd with rfl | hd
  · refine ⟨by simp, fun x hx => ?_⟩
    simp only [List.mem_cons, List.not_mem_nil, or_false] at hx
    rcases hx with rfl | rfl <;> trivial
  rcases List.mem_cons.mp hd with rfl | hd
  · trivial
  rcases List.mem_cons.mp hd with rfl | hd
  · trivial
  · cases hd
end
end Ev

namespace Ev
open PySem Pv L2 Lv
section
variable {k n N a b c low : Nat} {r T : R} {x8 x9 x10 x11 x12 x13 x14 x15 x16 x17 x18 x19 x20 x21 x22 x23 x24 x25 : Option R}
theorem m_if1 {ab : Nat} : ∃ o o', ex (Ph Ir.prog (k + 30)) (.if_ (.tnot (.tt (.call "_law_same" (.cons (.var 10) (.cons (.var 11) .nil))))) (.seq (.ret (.bl false)) .skip) .skip) (W r N n ab a b c T x8 x9 (some (.l (due4 n a b low))) (some (.l (due4 n a b low))) x12 x13 x14 x15 x16 x17 x18 x19 x20 x21 x22 x23 x24 x25) =
    some (.next, W r N n ab a b c T x8 x9 (some o) (some o') x12 x13 x14 x15 x16 x17 x18 x19 x20 x21 x22 x23 x24 x25) := by
  have h : evL (Ph Ir.prog (k + 30)) (.cons (.var 10) (.cons (.var 11) .nil)) (W r N n ab a b c T x8 x9 (some (.l (due4 n a b low))) (some (.l (due4 n a b low))) x12 x13 x14 x15 x16 x17 x18 x19 x20 x21 x22 x23 x24 x25) =
      some ([(.l (due4 n a b low), some 10), (.l (due4 n a b low), some 11)], W r N n ab a b c T x8 x9 none none x12 x13 x14 x15 x16 x17 x18 x19 x20 x21 x22 x23 x24 x25) := by
    generalize due4 n a b low = S at *
    simp
  obtain ⟨o1, o2, e⟩ := same_stmt (k := k) h sd_due4 (.inr ⟨_, rfl, rfl⟩) (.inr ⟨_, rfl, rfl⟩)
  exact ⟨o1, o2, e⟩
def rowsL (n a b : Nat) : List D := [.tuple (nL (rowN (2 ^ n) a)), .tuple (nL (rowN (2 ^ n) b)), .tuple (nL (rowN (2 ^ n) (co (2 ^ n) a b)))]
theorem m_rows (hn : n ≤ 12) (ha : 1 ≤ a) (ha2 : a ≤ 2 ^ n) (hb : 1 ≤ b) (hb2 : b ≤ 2 ^ n) : ex (Ph Ir.prog (k + 30)) (.asg 12 (.comp (.call "table_row" (.cons (.var 3) (.cons (.var 21) .nil))) (.nm 21) (.it (.tup (.cons (.var 4) (.cons (.var 5) (.cons (.var 1) .nil))))) .tyes [21]))
      (W r N n (co (2 ^ n) a b) a b c T x8 x9 x10 x11 x12 x13 x14 x15 x16 x17 x18 x19 x20 none x22 x23 x24 x25) =
    some (.next, W r N n (co (2 ^ n) a b) a b c T x8 x9 x10 x11 (some (.l (rowsL n a b))) x13 x14 x15 x16 x17 x18 x19 x20 none x22 x23 x24 x25) := by
  have hN1 : 1 ≤ 2 ^ n := Nat.one_le_two_pow
  have hc : compL (turnE (Ph Ir.prog (k + 30)) (.call "table_row" (.cons (.var 3) (.cons (.var 21) .nil))) (.nm 21) .tyes) [21] (nL [a, b, co (2 ^ n) a b]) (W r N n (co (2 ^ n) a b) a b c T x8 x9 x10 x11 x12 x13 x14 x15 x16 x17 x18 x19 x20 none x22 x23 x24 x25) = some ([a, b, co (2 ^ n) a b].map fun x => .tuple (rowD (2 ^ n) x), W r N n (co (2 ^ n) a b) a b c T x8 x9 x10 x11 x12 x13 x14 x15 x16 x17 x18 x19 x20 none x22 x23 x24 x25) := by
    apply comp_natA
    intro x hx
    have hx : 1 ≤ x ∧ x ≤ 2 ^ n := by
      simp only [List.mem_cons, List.not_mem_nil, or_false] at hx
      rcases hx with rfl | rfl | rfl
      · exact ⟨ha, ha2⟩
      · exact ⟨hb, hb2⟩
      · exact ⟨co_pos hN1, co_le hN1⟩
    have e := e_table_row (k := k + 25) hn hx.1 hx.2
    exact ⟨W r N n (co (2 ^ n) a b) a b c T x8 x9 x10 x11 x12 x13 x14 x15 x16 x17 x18 x19 x20 (some (iv x)) x22 x23 x24 x25, by simp [turnE, e], rfl⟩
  have hA := comp_n (Φ := Ph Ir.prog (k + 30)) (tg := .nm 21) (it := .it (.tup (.cons (.var 4) (.cons (.var 5) (.cons (.var 1) .nil))))) (vs := [21]) (ρ := W r N n (co (2 ^ n) a b) a b c T x8 x9 x10 x11 x12 x13 x14 x15 x16 x17 x18 x19 x20 none x22 x23 x24 x25) (ρ1 := W r N n (co (2 ^ n) a b) a b c T x8 x9 x10 x11 x12 x13 x14 x15 x16 x17 x18 x19 x20 none x22 x23 x24 x25) (ds := nL [a, b, co (2 ^ n) a b]) (by simp [seqD]) (by simp) hc
  have hz := asg_n (i := 12) hA
  rw [hz]
  simp [rowsL, rowD_eq]
def fixL (n a b : Nat) : List D := [.tuple (nL (fixN (2 ^ n) a)), .tuple (nL (fixN (2 ^ n) b))]
theorem m_fixes {ab : Nat} (hn : n ≤ 12) (ha : 1 ≤ a) (ha2 : a ≤ 2 ^ n) (hb : 1 ≤ b) (hb2 : b ≤ 2 ^ n) : ex (Ph Ir.prog (k + 30)) (.asg 13 (.comp (.call "fixed_by" (.cons (.var 3) (.cons (.var 21) .nil))) (.nm 21) (.it (.tup (.cons (.var 4) (.cons (.var 5) .nil)))) .tyes [21]))
      (W r N n ab a b c T x8 x9 x10 x11 x12 x13 x14 x15 x16 x17 x18 x19 x20 none x22 x23 x24 x25) =
    some (.next, W r N n ab a b c T x8 x9 x10 x11 x12 (some (.l (fixL n a b))) x14 x15 x16 x17 x18 x19 x20 none x22 x23 x24 x25) := by
  have hN1 : 1 ≤ 2 ^ n := Nat.one_le_two_pow
  have hc : compL (turnE (Ph Ir.prog (k + 30)) (.call "fixed_by" (.cons (.var 3) (.cons (.var 21) .nil))) (.nm 21) .tyes) [21] (nL [a, b]) (W r N n ab a b c T x8 x9 x10 x11 x12 x13 x14 x15 x16 x17 x18 x19 x20 none x22 x23 x24 x25) = some ([a, b].map fun x => .tuple (nL (fixN (2 ^ n) x)), W r N n ab a b c T x8 x9 x10 x11 x12 x13 x14 x15 x16 x17 x18 x19 x20 none x22 x23 x24 x25) := by
    apply comp_natA
    intro x hx
    have hx : 1 ≤ x ∧ x ≤ 2 ^ n := by
      simp only [List.mem_cons, List.not_mem_nil, or_false] at hx
      rcases hx with rfl | rfl
      · exact ⟨ha, ha2⟩
      · exact ⟨hb, hb2⟩
    have e := e_fixed_by (k := k + 25) hn hx.1 hx.2
    generalize nL (fixN (2 ^ n) x) = L at *
    exact ⟨W r N n ab a b c T x8 x9 x10 x11 x12 x13 x14 x15 x16 x17 x18 x19 x20 (some (iv x)) x22 x23 x24 x25, by simp [turnE, e], rfl⟩
  have hA := comp_n (Φ := Ph Ir.prog (k + 30)) (tg := .nm 21) (it := .it (.tup (.cons (.var 4) (.cons (.var 5) .nil)))) (vs := [21]) (ρ := W r N n ab a b c T x8 x9 x10 x11 x12 x13 x14 x15 x16 x17 x18 x19 x20 none x22 x23 x24 x25) (ρ1 := W r N n ab a b c T x8 x9 x10 x11 x12 x13 x14 x15 x16 x17 x18 x19 x20 none x22 x23 x24 x25) (ds := nL [a, b]) (by simp [seqD]) (by simp) hc
  have hz := asg_n (i := 13) hA
  rw [hz]
  rfl
end
end Ev

namespace Ev
open PySem Pv L2 Lv
section
variable {k n N a b c low : Nat} {r T : R} {x8 x9 x10 x11 x12 x13 x14 x15 x16 x17 x18 x19 x20 x21 x22 x23 x24 x25 : Option R}
theorem rowN_len {N a : Nat} : (rowN N a).length = per N a := by simp [rowN]
theorem none_of (l : List Nat) (f : Nat → D) : (l.filter fun _ => false).map f = [] := by simp
theorem m_got2 (hn : n ≤ 12) (ha : 1 ≤ a) (ha2 : a ≤ 2 ^ n) (hb : 1 ≤ b) (hb2 : b ≤ 2 ^ n) : ex (Ph Ir.prog (k + 30)) (.asg 10 (.lst (.cons (.comp (.var 21) (.nm 21) (.it (.idx (.var 12) (.num 2))) (.tcmp .NotIn (.var 21) (.idx (.var 12) (.num 0))) [21]) (.cons (.cmp .LtE (.bi .len (.cons (.idx (.var 12) (.num 2)) .nil)) (.bi .min2 (.cons (.bi .len (.cons (.idx (.var 12) (.num 0)) .nil)) (.cons (.bi .len (.cons (.idx (.var 12) (.num 1)) .nil)) .nil)))) .nil))))
      (W r N n (co (2 ^ n) a b) a b c T x8 x9 x10 x11 (some (.l (rowsL n a b))) x13 x14 x15 x16 x17 x18 x19 x20 none x22 x23 x24 x25) =
    some (.next, W r N n (co (2 ^ n) a b) a b c T x8 x9 (some (.l [.list [], .bool true])) x11 (some (.l (rowsL n a b))) x13 x14 x15 x16 x17 x18 x19 x20 none x22 x23 x24 x25) := by
  have hN1 : 1 ≤ 2 ^ n := Nat.one_le_two_pow
  have hN2 := pow_le12 hn
  have F := fine_pow n
  have p1 := per_a hN1 F ha ha2 hb hb2
  have p2 := per_b hN1 F ha ha2 hb hb2
  have sub := fun x hx => row_sub hN1 F ha ha2 hb hb2 (x := x) hx
  obtain ⟨_, _, pl⟩ := perP F (co_pos hN1 (a := a) (b := b)) (co_le hN1)
  have a0 : atI (rowsL n a b) 0 = some (.tuple (nL (rowN (2 ^ n) a))) := rfl
  have a1 : atI (rowsL n a b) 1 = some (.tuple (nL (rowN (2 ^ n) b))) := rfl
  have a2 : atI (rowsL n a b) 2 = some (.tuple (nL (rowN (2 ^ n) (co (2 ^ n) a b)))) := rfl
  have hin : ∀ x ∈ rowN (2 ^ n) (co (2 ^ n) a b), inD (.int (x : Nat)) (.tuple (nL (rowN (2 ^ n) a))) = some true := fun x hx => by
    rw [in_nLT, decide_eq_true (sub x hx)]
  have l0 : (nL (rowN (2 ^ n) a)).length = per (2 ^ n) a := by simp [rowN_len]
  have l1 : (nL (rowN (2 ^ n) b)).length = per (2 ^ n) b := by simp [rowN_len]
  have l2 : (nL (rowN (2 ^ n) (co (2 ^ n) a b))).length = per (2 ^ n) (co (2 ^ n) a b) := by simp [rowN_len]
  generalize rowsL n a b = S at *
  have hc : compL (turnE (Ph Ir.prog (k + 30)) (.var 21) (.nm 21) (.tcmp .NotIn (.var 21) (.idx (.var 12) (.num 0)))) [21] (nL (rowN (2 ^ n) (co (2 ^ n) a b))) (W r N n (co (2 ^ n) a b) a b c T x8 x9 x10 x11 (some (.l S)) x13 x14 x15 x16 x17 x18 x19 x20 none x22 x23 x24 x25) = some (((rowN (2 ^ n) (co (2 ^ n) a b)).filter fun _ => false).map fun x => .int (x : Nat), W r N n (co (2 ^ n) a b) a b c T x8 x9 x10 x11 (some (.l S)) x13 x14 x15 x16 x17 x18 x19 x20 none x22 x23 x24 x25) := by
    apply comp_nat
    intro x hx
    have h := hin x hx
    generalize nL (rowN (2 ^ n) a) = L0 at *
    exact ⟨W r N n (co (2 ^ n) a b) a b c T x8 x9 x10 x11 (some (.l S)) x13 x14 x15 x16 x17 x18 x19 x20 (some (iv x)) x22 x23 x24 x25, by simp [turnE, a0, h], rfl⟩
  rw [none_of] at hc
  have hA := comp_n (Φ := Ph Ir.prog (k + 30)) (tg := .nm 21) (it := .it (.idx (.var 12) (.num 2))) (vs := [21]) (ρ := W r N n (co (2 ^ n) a b) a b c T x8 x9 x10 x11 (some (.l S)) x13 x14 x15 x16 x17 x18 x19 x20 none x22 x23 x24 x25) (ρ1 := W r N n (co (2 ^ n) a b) a b c T x8 x9 x10 x11 (some (.l S)) x13 x14 x15 x16 x17 x18 x19 x20 none x22 x23 x24 x25) (ds := nL (rowN (2 ^ n) (co (2 ^ n) a b))) (by
    generalize nL (rowN (2 ^ n) (co (2 ^ n) a b)) = L2 at *
    simp [a2, seqD]) (by rw [l2]; omega) hc
  have hle : (((per (2 ^ n) (co (2 ^ n) a b) : Nat) : Int) ≤ if ((per (2 ^ n) b : Nat) : Int) < (per (2 ^ n) a : Nat) then ((per (2 ^ n) b : Nat) : Int) else (per (2 ^ n) a : Nat)) := by split <;> omega
  generalize nL (rowN (2 ^ n) a) = L0 at *
  generalize nL (rowN (2 ^ n) b) = L1 at *
  generalize nL (rowN (2 ^ n) (co (2 ^ n) a b)) = L2 at *
  simp [hA, -ev_comp, a0, a1, a2, l0, l1, l2]
  split <;> omega
def due5 (n a b : Nat) : List D := [.list [], .bool true, .list [], .bool true, .int (per (2 ^ n) (co (2 ^ n) a b) : Nat)]
theorem m_got2b (hn : n ≤ 12) (ha : 1 ≤ a) (ha2 : a ≤ 2 ^ n) (hb : 1 ≤ b) (hb2 : b ≤ 2 ^ n) : ex (Ph Ir.prog (k + 30)) (.asg 10 (.bin .Add (.var 10) (.lst (.cons (.comp (.var 21) (.nm 21) (.it (.idx (.var 13) (.num 0))) (.tand (.tcmp .In (.var 21) (.idx (.var 13) (.num 1))) (.tcmp .NotIn (.var 21) (.call "fixed_by" (.cons (.var 3) (.cons (.var 1) .nil))))) [21]) (.cons (.call "comes_behind" (.cons (.var 3) (.cons (.var 4) (.cons (.idx (.idx (.var 12) (.num 2)) (.num 0)) .nil)))) (.cons (.call "period" (.cons (.var 3) (.cons (.var 1) .nil))) .nil))))))
      (W r N n (co (2 ^ n) a b) a b c T x8 x9 (some (.l [.list [], .bool true])) x11 (some (.l (rowsL n a b))) (some (.l (fixL n a b))) x14 x15 x16 x17 x18 x19 x20 none x22 x23 x24 x25) =
    some (.next, W r N n (co (2 ^ n) a b) a b c T x8 x9 (some (.l (due5 n a b))) x11 (some (.l (rowsL n a b))) (some (.l (fixL n a b))) x14 x15 x16 x17 x18 x19 x20 none x22 x23 x24 x25) := by
  have hN1 : 1 ≤ 2 ^ n := Nat.one_le_two_pow
  have hN2 := pow_le12 hn
  have F := fine_pow n
  have e1 := e_fixed_by (k := k + 25) hn (co_pos hN1 (a := a) (b := b)) (co_le hN1)
  have o1 := op_pos (co_pos hN1 (a := a) (b := b)) (co_le hN1) (Nat.le_refl 1)
  have o2 := op_le (co_le hN1 (a := a) (b := b)) (Nat.le_refl 1) hN1
  obtain ⟨P, _, pl⟩ := perP F (co_pos hN1 (a := a) (b := b)) (co_le hN1)
  have e2 := e_comes_behind (k := k + 24) (a := a) (b := op (2 ^ n) (co (2 ^ n) a b) 1) hn ha ha2 o1 o2 (row_sub hN1 F ha ha2 hb hb2 (by rw [mem_rowN]; exact ⟨0, P.pos, rfl⟩))
  have e3 := e_period (k := k + 24) hn (co_pos hN1 (a := a) (b := b)) (co_le hN1)
  have a2 : atI (rowsL n a b) 2 = some (.tuple (nL (rowN (2 ^ n) (co (2 ^ n) a b)))) := rfl
  have a20 : atI (nL (rowN (2 ^ n) (co (2 ^ n) a b))) 0 = some (.int (op (2 ^ n) (co (2 ^ n) a b) 1 : Nat)) := by
    rw [at_nat (i := 0) (n := 0) (by omega), ← rowD_eq, rowD_at P.pos]
  have f0 : atI (fixL n a b) 0 = some (.tuple (nL (fixN (2 ^ n) a))) := rfl
  have f1 : atI (fixL n a b) 1 = some (.tuple (nL (fixN (2 ^ n) b))) := rfl
  have fl0 : (fixN (2 ^ n) a).length ≤ 2 ^ n := by
    have := List.length_filter_le (fun x => decide (op (2 ^ n) a x = x)) (upN (2 ^ n))
    rw [upN_len] at this
    exact this
  have hin : ∀ x ∈ fixN (2 ^ n) a, inD (.int (x : Nat)) (.tuple (nL (fixN (2 ^ n) b))) = some (decide (x ∈ fixN (2 ^ n) b)) ∧ inD (.int (x : Nat)) (.tuple (nL (fixN (2 ^ n) (co (2 ^ n) a b)))) = some (decide (x ∈ fixN (2 ^ n) (co (2 ^ n) a b))) := fun x hx => ⟨in_nLT _ _, in_nLT _ _⟩
  generalize rowsL n a b = S at *
  generalize fixL n a b = X at *
  have hc : compL (turnE (Ph Ir.prog (k + 30)) (.var 21) (.nm 21) (.tand (.tcmp .In (.var 21) (.idx (.var 13) (.num 1))) (.tcmp .NotIn (.var 21) (.call "fixed_by" (.cons (.var 3) (.cons (.var 1) .nil)))))) [21] (nL (fixN (2 ^ n) a)) (W r N n (co (2 ^ n) a b) a b c T x8 x9 (some (.l [.list [], .bool true])) x11 (some (.l S)) (some (.l X)) x14 x15 x16 x17 x18 x19 x20 none x22 x23 x24 x25) = some (((fixN (2 ^ n) a).filter fun _ => false).map fun x => .int (x : Nat), W r N n (co (2 ^ n) a b) a b c T x8 x9 (some (.l [.list [], .bool true])) x11 (some (.l S)) (some (.l X)) x14 x15 x16 x17 x18 x19 x20 none x22 x23 x24 x25) := by
    apply comp_nat
    intro x hx
    obtain ⟨h1, h2⟩ := hin x hx
    refine ⟨W r N n (co (2 ^ n) a b) a b c T x8 x9 (some (.l [.list [], .bool true])) x11 (some (.l S)) (some (.l X)) x14 x15 x16 x17 x18 x19 x20 (some (iv x)) x22 x23 x24 x25, ?_, rfl⟩
    by_cases q : x ∈ fixN (2 ^ n) b
    · have q2 := fix_sub hN1 F ha ha2 hb hb2 hx q
      rw [decide_eq_true q] at h1
      rw [decide_eq_true q2] at h2
      generalize nL (fixN (2 ^ n) b) = L1 at *
      generalize nL (fixN (2 ^ n) (co (2 ^ n) a b)) = L2 at *
      simp [turnE, f1, h1, h2, e1]
    · rw [decide_eq_false q] at h1
      generalize nL (fixN (2 ^ n) b) = L1 at *
      simp [turnE, f1, h1]
  rw [none_of] at hc
  have hA := comp_n (Φ := Ph Ir.prog (k + 30)) (tg := .nm 21) (it := .it (.idx (.var 13) (.num 0))) (vs := [21]) (ρ := W r N n (co (2 ^ n) a b) a b c T x8 x9 (some (.l [.list [], .bool true])) x11 (some (.l S)) (some (.l X)) x14 x15 x16 x17 x18 x19 x20 none x22 x23 x24 x25) (ρ1 := W r N n (co (2 ^ n) a b) a b c T x8 x9 (some (.l [.list [], .bool true])) x11 (some (.l S)) (some (.l X)) x14 x15 x16 x17 x18 x19 x20 none x22 x23 x24 x25) (ds := nL (fixN (2 ^ n) a)) (by
    generalize nL (fixN (2 ^ n) a) = L2 at *
    simp [f0, seqD]) (by simp; omega) hc
  unfold due5
  generalize nL (rowN (2 ^ n) (co (2 ^ n) a b)) = L2 at *
  simp [hA, -ev_comp, a2, a20, e2, e3]
end
end Ev

namespace Ev
open PySem Pv L2 Lv
section
variable {k n N a b c low : Nat} {r T : R} {x8 x9 x10 x11 x12 x13 x14 x15 x16 x17 x18 x19 x20 x21 x22 x23 x24 x25 : Option R}
theorem sd_due5 : SD 4 (.list (due5 n a b)) := by
  refine ⟨by simp [due5], fun d hd => ?_⟩
  unfold due5 at hd
  simp only [List.mem_cons, List.not_mem_nil, or_false] at hd
  rcases hd with rfl | rfl | rfl | rfl | rfl
  · exact ⟨by simp, fun x hx => by cases hx⟩
  · trivial
  · exact ⟨by simp, fun x hx => by cases hx⟩
  · trivial
  · trivial
theorem m_if2 {ab : Nat} : ∃ o, ex (Ph Ir.prog (k + 30)) (.if_ (.tnot (.tt (.call "_law_same" (.cons (.var 10) (.cons (.lst (.cons (.lst .nil) (.cons (.bl true) (.cons (.lst .nil) (.cons (.bl true) (.cons (.bi .len (.cons (.idx (.var 12) (.num 2)) .nil)) .nil)))))) .nil))))) (.seq (.ret (.bl false)) .skip) .skip)
      (W r N n ab a b c T x8 x9 (some (.l (due5 n a b))) x11 (some (.l (rowsL n a b))) x13 x14 x15 x16 x17 x18 x19 x20 x21 x22 x23 x24 x25) =
    some (.next, W r N n ab a b c T x8 x9 (some o) x11 (some (.l (rowsL n a b))) x13 x14 x15 x16 x17 x18 x19 x20 x21 x22 x23 x24 x25) := by
  have h : evL (Ph Ir.prog (k + 30)) (.cons (.var 10) (.cons (.lst (.cons (.lst .nil) (.cons (.bl true) (.cons (.lst .nil) (.cons (.bl true) (.cons (.bi .len (.cons (.idx (.var 12) (.num 2)) .nil)) .nil)))))) .nil)) (W r N n ab a b c T x8 x9 (some (.l (due5 n a b))) x11 (some (.l (rowsL n a b))) x13 x14 x15 x16 x17 x18 x19 x20 x21 x22 x23 x24 x25) =
      some ([(.l (due5 n a b), some 10), (.l (due5 n a b), none)], W r N n ab a b c T x8 x9 none x11 (some (.l (rowsL n a b))) x13 x14 x15 x16 x17 x18 x19 x20 x21 x22 x23 x24 x25) := by
    have a2 : atI (rowsL n a b) 2 = some (.tuple (nL (rowN (2 ^ n) (co (2 ^ n) a b)))) := rfl
    have l2 : (nL (rowN (2 ^ n) (co (2 ^ n) a b))).length = per (2 ^ n) (co (2 ^ n) a b) := by simp [rowN_len]
    have e0 : due5 n a b = [.list [], .bool true, .list [], .bool true, .int (per (2 ^ n) (co (2 ^ n) a b) : Nat)] := rfl
    generalize due5 n a b = DD at *
    generalize rowsL n a b = S at *
    generalize nL (rowN (2 ^ n) (co (2 ^ n) a b)) = L2 at *
    have e9 : okN DD.length = true := by rw [e0]; rfl
    simp [a2, l2, ← e0, e9]
  obtain ⟨o1, o2, e⟩ := same_stmt (k := k) h sd_due5 (.inr ⟨_, rfl, rfl⟩) (.inr ⟨_, rfl, rfl⟩)
  exact ⟨o1, e⟩
/-- k = divided(..), and what it is -/
theorem m_div (hn : n ≤ 12) (ha : 1 ≤ a) (ha2 : a ≤ 2 ^ n) (hb : 1 ≤ b) (hb2 : b ≤ 2 ^ n) (hc : 1 ≤ c) (hc2 : c ≤ 2 ^ n) : ∃ m : Nat, 1 ≤ m ∧ m ≤ per (2 ^ n) a ∧ op (2 ^ n) a m = op (2 ^ n) (co (2 ^ n) a b) c ∧
    ex (Ph Ir.prog (k + 30)) (.asg 14 (.call "divided" (.cons (.var 3) (.cons (.var 4) (.cons (.call "times" (.cons (.var 3) (.cons (.var 1) (.cons (.var 7) .nil)))) .nil))))) (W r N n (co (2 ^ n) a b) a b c T x8 x9 x10 x11 x12 x13 x14 x15 x16 x17 x18 x19 x20 x21 x22 x23 x24 x25) =
      some (.next, W r N n (co (2 ^ n) a b) a b c T x8 x9 x10 x11 x12 x13 (some (iv m)) x15 x16 x17 x18 x19 x20 x21 x22 x23 x24 x25) := by
  have hN1 : 1 ≤ 2 ^ n := Nat.one_le_two_pow
  have F := fine_pow n
  have e1 := e_times (k := k + 25) hn (co_pos hN1 (a := a) (b := b)) (co_le hN1) hc hc2
  have mem : op (2 ^ n) (co (2 ^ n) a b) c ∈ rowN (2 ^ n) a := by
    rw [co_op hN1 F ha ha2 hb hb2 c hc hc2]
    exact img_mem F ha ha2 (op_pos hb hb2 hc) (op_le hb2 hc hc2)
  obtain ⟨m, m1, m2, e2⟩ := e_divided (k := k + 25) hn ha ha2 (op_pos (co_pos hN1 (a := a) (b := b)) (co_le hN1) hc) (op_le (co_le hN1) hc hc2) mem
  exact ⟨m + 1, by omega, by omega, m2, by simp [e1, e2]⟩
theorem m_if3 {m : Nat} (hn : n ≤ 12) (ha : 1 ≤ a) (ha2 : a ≤ 2 ^ n) (hb : 1 ≤ b) (hb2 : b ≤ 2 ^ n) (hc : 1 ≤ c) (hc2 : c ≤ 2 ^ n) (h1 : 1 ≤ m) (h2 : m ≤ per (2 ^ n) a) (h3 : op (2 ^ n) a m = op (2 ^ n) (co (2 ^ n) a b) c) :
    ex (Ph Ir.prog (k + 30)) (.if_ (.tnot (.tt (.call "_law_same" (.cons (.lst (.cons (.call "times" (.cons (.var 3) (.cons (.var 4) (.cons (.var 14) .nil)))) (.cons (.cmp .LtE (.var 14) (.call "period" (.cons (.var 3) (.cons (.var 4) .nil)))) .nil))) (.cons (.lst (.cons (.call "times" (.cons (.var 3) (.cons (.var 1) (.cons (.var 7) .nil)))) (.cons (.bl true) .nil))) .nil))))) (.seq (.ret (.bl false)) .skip) .skip)
      (W r N n (co (2 ^ n) a b) a b c T x8 x9 x10 x11 x12 x13 (some (iv m)) x15 x16 x17 x18 x19 x20 x21 x22 x23 x24 x25) =
    some (.next, W r N n (co (2 ^ n) a b) a b c T x8 x9 x10 x11 x12 x13 (some (iv m)) x15 x16 x17 x18 x19 x20 x21 x22 x23 x24 x25) := by
  have hN1 : 1 ≤ 2 ^ n := Nat.one_le_two_pow
  have F := fine_pow n
  obtain ⟨P, _, pl⟩ := perP F ha ha2
  have e1 := e_times (k := k + 25) hn (co_pos hN1 (a := a) (b := b)) (co_le hN1) hc hc2
  have e2 := e_times (k := k + 25) hn ha ha2 h1 (by omega)
  rw [h3] at e2
  have e3 := e_period (k := k + 24) hn ha ha2
  have le : ((m : Nat) : Int) ≤ (per (2 ^ n) a : Nat) := by omega
  have h : evL (Ph Ir.prog (k + 30)) (.cons (.lst (.cons (.call "times" (.cons (.var 3) (.cons (.var 4) (.cons (.var 14) .nil)))) (.cons (.cmp .LtE (.var 14) (.call "period" (.cons (.var 3) (.cons (.var 4) .nil)))) .nil))) (.cons (.lst (.cons (.call "times" (.cons (.var 3) (.cons (.var 1) (.cons (.var 7) .nil)))) (.cons (.bl true) .nil))) .nil)) (W r N n (co (2 ^ n) a b) a b c T x8 x9 x10 x11 x12 x13 (some (iv m)) x15 x16 x17 x18 x19 x20 x21 x22 x23 x24 x25) =
      some ([(.l [.int (op (2 ^ n) (co (2 ^ n) a b) c : Nat), .bool true], none), (.l [.int (op (2 ^ n) (co (2 ^ n) a b) c : Nat), .bool true], none)], W r N n (co (2 ^ n) a b) a b c T x8 x9 x10 x11 x12 x13 (some (iv m)) x15 x16 x17 x18 x19 x20 x21 x22 x23 x24 x25) := by
    simp [e1, e2, e3, h2]
  obtain ⟨o1, o2, e⟩ := same_stmt (k := k) (d := .list [.int (op (2 ^ n) (co (2 ^ n) a b) c : Nat), .bool true]) h ⟨by simp, fun d hd => by
    simp only [List.mem_cons, List.not_mem_nil, or_false] at hd
    rcases hd with rfl | rfl <;> trivial⟩ (.inr ⟨_, rfl, rfl⟩) (.inr ⟨_, rfl, rfl⟩)
  exact e
end
end Ev

namespace Ev
open PySem Pv L2 Lv
section
variable {k n N a b c low ab : Nat} {r T : R} {x8 x9 x10 x11 x12 x13 x14 x15 x16 x17 x18 x19 x20 x21 x22 x23 x24 x25 : Option R}
theorem rng0 {N : Nat} : rngD 0 (N : Int) = nL (List.range N) := by
  unfold rngD nL
  rw [show ((N : Int) - 0).toNat = N by omega]
  apply List.map_congr_left
  intro i _
  show PyData.int (0 + (i : Nat)) = PyData.int (i : Nat)
  rw [Int.zero_add]
theorem up_at {g : Nat → Nat} {i : Nat} (h : i < N) : (nL ((upN N).map g))[i]? = some (.int (g (i + 1) : Nat)) := by
  unfold nL upN
  rw [List.getElem?_map, List.getElem?_map, List.getElem?_map, List.getElem?_range h]
  rfl
theorem tbl_at {f : Nat → Nat → Nat} {i : Nat} (h : i < N) : (tbl N f)[i]? = some (.tuple (nL ((upN N).map (f (i + 1))))) := by
  unfold tbl upN
  rw [List.getElem?_map, List.getElem?_map, List.getElem?_range h]
  rfl
theorem m_pair (hN : N ≤ 4096) (F : Fine N) {i j : Nat} (hi : i < N) (hj : j < N) :
    ex (Ph Ir.prog (k + 30)) (.if_ (.tcmp .NotEq (.comp (.idx (.idx (.var 22) (.var 16)) (.bin .Sub (.idx (.idx (.var 22) (.var 20)) (.var 25)) (.num 1))) (.nm 25) (.rng1 (.var 2)) .tyes [25]) (.bi .list (.cons (.idx (.var 22) (.bin .Sub (.idx (.idx (.var 23) (.var 16)) (.var 20)) (.num 1))) .nil))) (.seq (.app 15 (.tup (.cons (.var 16) (.cons (.var 20) .nil)))) .skip) .skip)
      (W r N n ab a b c T x8 x9 x10 x11 x12 x13 x14 x15 (some (iv i)) x17 x18 x19 (some (iv j)) x21 (some (.v (.tuple (tbl N (op N))))) (some (.v (.tuple (tbl N (co N))))) x24 none) =
    some (.next, W r N n ab a b c T x8 x9 x10 x11 x12 x13 x14 x15 (some (iv i)) x17 x18 x19 (some (iv j)) x21 (some (.v (.tuple (tbl N (op N))))) (some (.v (.tuple (tbl N (co N))))) x24 none) := by
  have hN1 : 1 ≤ N := by omega
  have a1 : atI (tbl N (op N)) (i : Int) = some (.tuple (nL ((upN N).map (op N (i + 1))))) := by rw [at_nat rfl, tbl_at hi]
  have a2 : atI (tbl N (op N)) (j : Int) = some (.tuple (nL ((upN N).map (op N (j + 1))))) := by rw [at_nat rfl, tbl_at hj]
  have a3 : atI (tbl N (co N)) (i : Int) = some (.tuple (nL ((upN N).map (co N (i + 1))))) := by rw [at_nat rfl, tbl_at hi]
  have a4 : atI (nL ((upN N).map (co N (i + 1)))) (j : Int) = some (.int (co N (i + 1) (j + 1) : Nat)) := by rw [at_nat rfl, up_at hj]
  have cp := co_pos hN1 (a := i + 1) (b := j + 1)
  have cl := co_le hN1 (a := i + 1) (b := j + 1)
  have a5 : atI (tbl N (op N)) (((co N (i + 1) (j + 1) : Nat) : Int) - 1) = some (.tuple (nL ((upN N).map (op N (co N (i + 1) (j + 1)))))) := by
    rw [at_nat (n := co N (i + 1) (j + 1) - 1) (by omega), tbl_at (by omega), show co N (i + 1) (j + 1) - 1 + 1 = co N (i + 1) (j + 1) by omega]
  have hr := rng1_n (Φ := Ph Ir.prog (k + 30)) (a := .var 2) (ρ := W r N n ab a b c T x8 x9 x10 x11 x12 x13 x14 x15 (some (iv i)) x17 x18 x19 (some (iv j)) x21 (some (.v (.tuple (tbl N (op N))))) (some (.v (.tuple (tbl N (co N))))) x24 none) (ρ1 := W r N n ab a b c T x8 x9 x10 x11 x12 x13 x14 x15 (some (iv i)) x17 x18 x19 (some (iv j)) x21 (some (.v (.tuple (tbl N (op N))))) (some (.v (.tuple (tbl N (co N))))) x24 none) (j := (N : Int)) (o := .sl 2) (by simp) rfl (by omega) (by omega)
  rw [rng0] at hr
  have hc : compL (turnE (Ph Ir.prog (k + 30)) (.idx (.idx (.var 22) (.var 16)) (.bin .Sub (.idx (.idx (.var 22) (.var 20)) (.var 25)) (.num 1))) (.nm 25) .tyes) [25] (nL (List.range N)) (W r N n ab a b c T x8 x9 x10 x11 x12 x13 x14 x15 (some (iv i)) x17 x18 x19 (some (iv j)) x21 (some (.v (.tuple (tbl N (op N))))) (some (.v (.tuple (tbl N (co N))))) x24 none) =
      some ((List.range N).map fun y => .int (op N (i + 1) (op N (j + 1) (y + 1)) : Nat), W r N n ab a b c T x8 x9 x10 x11 x12 x13 x14 x15 (some (iv i)) x17 x18 x19 (some (iv j)) x21 (some (.v (.tuple (tbl N (op N))))) (some (.v (.tuple (tbl N (co N))))) x24 none) := by
    apply comp_natA
    intro y hy
    have hy := List.mem_range.mp hy
    have o1 := op_pos (N := N) (a := j + 1) (b := y + 1) (by omega) (by omega) (by omega)
    have o2 := op_le (N := N) (a := j + 1) (b := y + 1) (by omega) (by omega) (by omega)
    have b1 : atI (nL ((upN N).map (op N (j + 1)))) (y : Int) = some (.int (op N (j + 1) (y + 1) : Nat)) := by rw [at_nat rfl, up_at hy]
    have b2 : atI (nL ((upN N).map (op N (i + 1)))) (((op N (j + 1) (y + 1) : Nat) : Int) - 1) = some (.int (op N (i + 1) (op N (j + 1) (y + 1)) : Nat)) := by
      rw [at_nat (n := op N (j + 1) (y + 1) - 1) (by omega), up_at (by omega), show op N (j + 1) (y + 1) - 1 + 1 = op N (j + 1) (y + 1) by omega]
    generalize nL ((upN N).map (op N (j + 1))) = L1 at *
    generalize nL ((upN N).map (op N (i + 1))) = L2 at *
    generalize tbl N (op N) = T1 at *
    generalize tbl N (co N) = T2 at *
    exact ⟨W r N n ab a b c T x8 x9 x10 x11 x12 x13 x14 x15 (some (iv i)) x17 x18 x19 (some (iv j)) x21 (some (.v (.tuple T1))) (some (.v (.tuple T2))) x24 (some (iv y)), by simp [turnE, a1, a2, b1, b2], rfl⟩
  have hA := comp_n (tg := .nm 25) (vs := [25]) hr (by simp; omega) hc
  have eL : (List.range N).map (fun y => PyData.int (op N (i + 1) (op N (j + 1) (y + 1)) : Nat)) = nL ((upN N).map (op N (co N (i + 1) (j + 1)))) := by
    unfold nL upN
    rw [List.map_map, List.map_map]
    apply List.map_congr_left
    intro y hy
    have hy := List.mem_range.mp hy
    show PyData.int _ = PyData.int ((op N (co N (i + 1) (j + 1)) (y + 1) : Nat) : Int)
    rw [co_op hN1 F (by omega) (by omega) (by omega) (by omega) (y + 1) (by omega) (by omega)]
  rw [eL] at hA
  have e0 := eq_nL ((upN N).map (op N (co N (i + 1) (j + 1)))) ((upN N).map (op N (co N (i + 1) (j + 1))))
  rw [decide_eq_true rfl] at e0
  generalize nL ((upN N).map (op N (co N (i + 1) (j + 1)))) = L3 at *
  generalize nL ((upN N).map (co N (i + 1))) = L4 at *
  generalize tbl N (op N) = T1 at *
  generalize tbl N (co N) = T2 at *
  simp [hA, -ev_comp, a3, a4, a5, e0]
end
end Ev

namespace Ev
open PySem Pv L2 Lv
section
variable {k n N a b c low ab : Nat} {r T : R} {x8 x9 x10 x11 x12 x13 x14 x15 x16 x17 x18 x19 x20 x21 x22 x23 x24 x25 : Option R}
abbrev pairS : S := .if_ (.tcmp .NotEq (.comp (.idx (.idx (.var 22) (.var 16)) (.bin .Sub (.idx (.idx (.var 22) (.var 20)) (.var 25)) (.num 1))) (.nm 25) (.rng1 (.var 2)) .tyes [25]) (.bi .list (.cons (.idx (.var 22) (.bin .Sub (.idx (.idx (.var 23) (.var 16)) (.var 20)) (.num 1))) .nil))) (.seq (.app 15 (.tup (.cons (.var 16) (.cons (.var 20) .nil)))) .skip) .skip
theorem m_rng (hN : N ≤ 4096) : evI (Ph Ir.prog (k + 30)) (.rng1 (.var 2)) (W r N n ab a b c T x8 x9 x10 x11 x12 x13 x14 x15 x16 x17 x18 x19 x20 x21 x22 x23 x24 x25) = some (nL (List.range N), W r N n ab a b c T x8 x9 x10 x11 x12 x13 x14 x15 x16 x17 x18 x19 x20 x21 x22 x23 x24 x25) := by
  have hr := rng1_n (Φ := Ph Ir.prog (k + 30)) (a := .var 2) (ρ := W r N n ab a b c T x8 x9 x10 x11 x12 x13 x14 x15 x16 x17 x18 x19 x20 x21 x22 x23 x24 x25) (ρ1 := W r N n ab a b c T x8 x9 x10 x11 x12 x13 x14 x15 x16 x17 x18 x19 x20 x21 x22 x23 x24 x25) (j := (N : Int)) (o := .sl 2) (by simp) rfl (by omega) (by omega)
  rw [rng0] at hr
  exact hr
theorem m_in (hN : N ≤ 4096) (F : Fine N) {i : Nat} (hi : i < N) : ∀ (l : List Nat), (∀ j ∈ l, j < N) → ∀ x20, ∃ o, forL (fun d ρ => (bindT (.nm 20) d ρ).bind fun ρ2 => ex (Ph Ir.prog (k + 30)) (.seq pairS .skip) ρ2) (nL l) (W r N n ab a b c T x8 x9 x10 x11 x12 x13 x14 x15 (some (iv i)) x17 x18 x19 x20 x21 (some (.v (.tuple (tbl N (op N))))) (some (.v (.tuple (tbl N (co N))))) x24 none) =
    some (.next, W r N n ab a b c T x8 x9 x10 x11 x12 x13 x14 x15 (some (iv i)) x17 x18 x19 o x21 (some (.v (.tuple (tbl N (op N))))) (some (.v (.tuple (tbl N (co N))))) x24 none) := by
  intro l
  induction l with
  | nil => exact fun _ x20 => ⟨x20, rfl⟩
  | cons j l ih =>
    intro hl x20
    obtain ⟨o, e⟩ := ih (fun y hy => hl y (List.mem_cons_of_mem _ hy)) (some (iv j))
    refine ⟨o, ?_⟩
    show (ex (Ph Ir.prog (k + 30)) (.seq pairS .skip) (W r N n ab a b c T x8 x9 x10 x11 x12 x13 x14 x15 (some (iv i)) x17 x18 x19 (some (iv j)) x21 (some (.v (.tuple (tbl N (op N))))) (some (.v (.tuple (tbl N (co N))))) x24 none)).bind _ = _
    rw [seq_next (m_pair hN F hi (hl j (List.mem_cons_self ..)))]
    exact e
theorem m_out (hN : N ≤ 4096) (F : Fine N) : ∀ (l : List Nat), (∀ j ∈ l, j < N) → ∀ x16 x20, ∃ o o', forL (fun d ρ => (bindT (.nm 16) d ρ).bind fun ρ2 => ex (Ph Ir.prog (k + 30)) (.seq (.for_ (.nm 20) (.rng1 (.var 2)) (.seq pairS .skip)) .skip) ρ2) (nL l) (W r N n ab a b c T x8 x9 x10 x11 x12 x13 x14 x15 x16 x17 x18 x19 x20 x21 (some (.v (.tuple (tbl N (op N))))) (some (.v (.tuple (tbl N (co N))))) x24 none) =
    some (.next, W r N n ab a b c T x8 x9 x10 x11 x12 x13 x14 x15 o x17 x18 x19 o' x21 (some (.v (.tuple (tbl N (op N))))) (some (.v (.tuple (tbl N (co N))))) x24 none) := by
  intro l
  induction l with
  | nil => exact fun _ x16 x20 => ⟨x16, x20, rfl⟩
  | cons i l ih =>
    intro hl x16 x20
    obtain ⟨o1, e1⟩ := m_in (k := k) (r := r) (n := n) (ab := ab) (a := a) (b := b) (c := c) (T := T) (x8 := x8) (x9 := x9) (x10 := x10) (x11 := x11) (x12 := x12) (x13 := x13) (x14 := x14) (x15 := x15) (x17 := x17) (x18 := x18) (x19 := x19) (x21 := x21) (x24 := x24) hN F (hl i (List.mem_cons_self ..)) (List.range N) (fun j hj => List.mem_range.mp hj) x20
    obtain ⟨o, o', e⟩ := ih (fun y hy => hl y (List.mem_cons_of_mem _ hy)) (some (iv i)) o1
    refine ⟨o, o', ?_⟩
    show (ex (Ph Ir.prog (k + 30)) (.seq (.for_ (.nm 20) (.rng1 (.var 2)) (.seq pairS .skip)) .skip) (W r N n ab a b c T x8 x9 x10 x11 x12 x13 x14 x15 (some (iv i)) x17 x18 x19 x20 x21 (some (.v (.tuple (tbl N (op N))))) (some (.v (.tuple (tbl N (co N))))) x24 none)).bind _ = _
    rw [seq_next (for_n (m_rng hN) e1)]
    exact e
def due6 (n a b : Nat) : List D := [.list [], .int (co (2 ^ n) a b : Nat), .list (List.replicate (2 ^ n) (.int ((2 ^ n : Nat) : Int))), .int ((2 ^ n : Nat) : Int)]
theorem sd_due6 (hn : n ≤ 12) : SD 4 (.list (due6 n a b)) := by
  have hN := pow_le12 hn
  refine ⟨by simp [due6], fun d hd => ?_⟩
  unfold due6 at hd
  simp only [List.mem_cons, List.not_mem_nil, or_false] at hd
  rcases hd with rfl | rfl | rfl | rfl
  · exact ⟨by simp, fun x hx => by cases hx⟩
  · trivial
  · exact ⟨by simp; omega, fun x hx => by rw [List.eq_of_mem_replicate hx]; trivial⟩
  · trivial
theorem m_if4 (hn : n ≤ 6) (ha : 1 ≤ a) (ha2 : a ≤ 2 ^ n) (hb : 1 ≤ b) (hb2 : b ≤ 2 ^ n) : ∃ o, ex (Ph Ir.prog (k + 30)) (.if_ (.tnot (.tt (.call "_law_same" (.cons (.lst (.cons (.var 15) (.cons (.idx (.idx (.var 23) (.bin .Sub (.var 4) (.num 1))) (.bin .Sub (.var 5) (.num 1))) (.cons (.comp (.bi .len (.cons (.var 21) .nil)) (.nm 21) (.it (.var 23)) .tyes [21]) (.cons (.bi .len (.cons (.call "periods" (.cons (.var 3) .nil)) .nil)) .nil))))) (.cons (.lst (.cons (.lst .nil) (.cons (.var 1) (.cons (.bin .Mult (.lst (.cons (.var 2) .nil)) (.var 2)) (.cons (.var 2) .nil))))) .nil))))) (.seq (.ret (.bl false)) .skip) .skip)
      (W r (2 ^ n) n (co (2 ^ n) a b) a b c T x8 x9 x10 x11 x12 x13 x14 (some (.l [])) x16 x17 x18 x19 x20 none x22 (some (.v (.tuple (tbl (2 ^ n) (co (2 ^ n)))))) x24 x25) =
    some (.next, W r (2 ^ n) n (co (2 ^ n) a b) a b c T x8 x9 x10 x11 x12 x13 x14 (some o) x16 x17 x18 x19 x20 none x22 (some (.v (.tuple (tbl (2 ^ n) (co (2 ^ n)))))) x24 x25) := by
  have hN1 : 1 ≤ 2 ^ n := Nat.one_le_two_pow
  have hN2 := pow_le12 (n := n) (by omega)
  obtain ⟨ds, hds, e1⟩ := e_periods (k := k + 24) (n := n) (by omega)
  have b1 : atI (tbl (2 ^ n) (co (2 ^ n))) ((a : Int) - 1) = some (.tuple (nL ((upN (2 ^ n)).map (co (2 ^ n) a)))) := by
    rw [at_nat (n := a - 1) (by omega), tbl_at (by omega), show a - 1 + 1 = a by omega]
  have b2 : atI (nL ((upN (2 ^ n)).map (co (2 ^ n) a))) ((b : Int) - 1) = some (.int (co (2 ^ n) a b : Nat)) := by
    rw [at_nat (n := b - 1) (by omega), up_at (by omega), show b - 1 + 1 = b by omega]
  have hrep : binD .Mult (.list [.int ((2 ^ n : Nat) : Int)]) (.int ((2 ^ n : Nat) : Int)) = some (.l (List.replicate (2 ^ n) (.int ((2 ^ n : Nat) : Int)))) := by
    have h1 : in62 ((2 ^ n : Nat) : Int) = true := in62_of (by omega) (by omega)
    have h2 : okN ([PyData.int ((2 ^ n : Nat) : Int)].length * (((2 ^ n : Nat)) : Int).toNat) = true := okN_t (by rw [List.length_singleton, Int.toNat_natCast]; omega)
    rw [bd_rep, if_pos ⟨h1, h2⟩, rep_flat]
  have hc : compL (turnE (Ph Ir.prog (k + 30)) (.bi .len (.cons (.var 21) .nil)) (.nm 21) .tyes) [21] (tbl (2 ^ n) (co (2 ^ n))) (W r (2 ^ n) n (co (2 ^ n) a b) a b c T x8 x9 x10 x11 x12 x13 x14 (some (.v (.list []))) x16 x17 x18 x19 x20 none x22 (some (.v (.tuple (tbl (2 ^ n) (co (2 ^ n)))))) x24 x25) =
      some ((tbl (2 ^ n) (co (2 ^ n))).map fun _ => .int ((2 ^ n : Nat) : Int), W r (2 ^ n) n (co (2 ^ n) a b) a b c T x8 x9 x10 x11 x12 x13 x14 (some (.v (.list []))) x16 x17 x18 x19 x20 none x22 (some (.v (.tuple (tbl (2 ^ n) (co (2 ^ n)))))) x24 x25) := by
    apply compL_all
    intro d hd
    obtain ⟨y, _, rfl⟩ := List.mem_map.mp hd
    have l : (nL ((upN (2 ^ n)).map fun z => co (2 ^ n) y z)).length = 2 ^ n := by simp [upN_len]
    generalize nL ((upN (2 ^ n)).map fun z => co (2 ^ n) y z) = L at *
    generalize tbl (2 ^ n) (co (2 ^ n)) = TT at *
    exact ⟨W r (2 ^ n) n (co (2 ^ n) a b) a b c T x8 x9 x10 x11 x12 x13 x14 (some (.v (.list []))) x16 x17 x18 x19 x20 (some (.v (.tuple L))) x22 (some (.v (.tuple TT))) x24 x25, by simp [turnE, l], rfl⟩
  have hm : ((tbl (2 ^ n) (co (2 ^ n))).map fun _ => PyData.int ((2 ^ n : Nat) : Int)) = List.replicate (2 ^ n) (.int ((2 ^ n : Nat) : Int)) := by
    rw [List.map_const']
    simp [tbl, upN_len]
  rw [hm] at hc
  have hlen : (tbl (2 ^ n) (co (2 ^ n))).length ≤ 16777216 := by simp [tbl, upN_len]; omega
  have hA := comp_n (Φ := Ph Ir.prog (k + 30)) (tg := .nm 21) (it := .it (.var 23)) (vs := [21]) (ρ := W r (2 ^ n) n (co (2 ^ n) a b) a b c T x8 x9 x10 x11 x12 x13 x14 (some (.v (.list []))) x16 x17 x18 x19 x20 none x22 (some (.v (.tuple (tbl (2 ^ n) (co (2 ^ n)))))) x24 x25) (ρ1 := W r (2 ^ n) n (co (2 ^ n) a b) a b c T x8 x9 x10 x11 x12 x13 x14 (some (.v (.list []))) x16 x17 x18 x19 x20 none x22 (some (.v (.tuple (tbl (2 ^ n) (co (2 ^ n)))))) x24 x25) (ds := tbl (2 ^ n) (co (2 ^ n))) (by
    generalize tbl (2 ^ n) (co (2 ^ n)) = TT at *
    simp [seqD]) hlen hc
  have h : evL (Ph Ir.prog (k + 30)) (.cons (.lst (.cons (.var 15) (.cons (.idx (.idx (.var 23) (.bin .Sub (.var 4) (.num 1))) (.bin .Sub (.var 5) (.num 1))) (.cons (.comp (.bi .len (.cons (.var 21) .nil)) (.nm 21) (.it (.var 23)) .tyes [21]) (.cons (.bi .len (.cons (.call "periods" (.cons (.var 3) .nil)) .nil)) .nil))))) (.cons (.lst (.cons (.lst .nil) (.cons (.var 1) (.cons (.bin .Mult (.lst (.cons (.var 2) .nil)) (.var 2)) (.cons (.var 2) .nil))))) .nil)) (W r (2 ^ n) n (co (2 ^ n) a b) a b c T x8 x9 x10 x11 x12 x13 x14 (some (.l [])) x16 x17 x18 x19 x20 none x22 (some (.v (.tuple (tbl (2 ^ n) (co (2 ^ n)))))) x24 x25) =
      some ([(.l (due6 n a b), none), (.l (due6 n a b), none)], W r (2 ^ n) n (co (2 ^ n) a b) a b c T x8 x9 x10 x11 x12 x13 x14 (some (.v (.list []))) x16 x17 x18 x19 x20 none x22 (some (.v (.tuple (tbl (2 ^ n) (co (2 ^ n)))))) x24 x25) := by
    unfold due6
    generalize List.replicate (2 ^ n) (PyData.int ((2 ^ n : Nat) : Int)) = RR at *
    generalize nL ((upN (2 ^ n)).map (co (2 ^ n) a)) = L at *
    generalize tbl (2 ^ n) (co (2 ^ n)) = TT at *
    generalize co (2 ^ n) a b = ab at *
    generalize 2 ^ n = N at *
    simp [hA, -ev_comp, b1, b2, e1, hds, hrep, -bd_rep]
  obtain ⟨o1, o2, e⟩ := same_stmt (k := k) h (sd_due6 (by omega)) (.inr ⟨_, rfl, rfl⟩) (.inr ⟨_, rfl, rfl⟩)
  exact ⟨.v (.list []), e⟩
end
end Ev

namespace Ev
open PySem Pv L2 Lv
section
variable {k n N a b c low ab : Nat} {r T : R} {x8 x9 x10 x11 x12 x13 x14 x15 x16 x17 x18 x19 x20 x21 x22 x23 x24 x25 : Option R}
abbrev loopS : S := .for_ (.nm 16) (.rng1 (.var 2)) (.seq (.for_ (.nm 20) (.rng1 (.var 2)) (.seq pairS .skip)) .skip)
abbrev ifS4 : S := .if_ (.tnot (.tt (.call "_law_same" (.cons (.lst (.cons (.var 15) (.cons (.idx (.idx (.var 23) (.bin .Sub (.var 4) (.num 1))) (.bin .Sub (.var 5) (.num 1))) (.cons (.comp (.bi .len (.cons (.var 21) .nil)) (.nm 21) (.it (.var 23)) .tyes [21]) (.cons (.bi .len (.cons (.call "periods" (.cons (.var 3) .nil)) .nil)) .nil))))) (.cons (.lst (.cons (.lst .nil) (.cons (.var 1) (.cons (.bin .Mult (.lst (.cons (.var 2) .nil)) (.var 2)) (.cons (.var 2) .nil))))) .nil))))) (.seq (.ret (.bl false)) .skip) .skip
theorem m_block (hn : n ≤ 6) (ha : 1 ≤ a) (ha2 : a ≤ 2 ^ n) (hb : 1 ≤ b) (hb2 : b ≤ 2 ^ n) : ∃ o15 o16 o20 o22 o23, ex (Ph Ir.prog (k + 30)) (.if_ (.tcmp .Lt (.var 3) (.num 5)) (.seq (.par 22 23 (.call "whole_table" (.cons (.var 3) .nil)) (.call "both_table" (.cons (.var 3) .nil))) (.seq (.asg 15 (.lst .nil)) (.seq loopS (.seq ifS4 .skip)))) .skip)
      (W r (2 ^ n) n (co (2 ^ n) a b) a b c T x8 x9 x10 x11 x12 x13 x14 none none x17 x18 x19 none none none none x24 none) =
    some (.next, W r (2 ^ n) n (co (2 ^ n) a b) a b c T x8 x9 x10 x11 x12 x13 x14 o15 o16 x17 x18 x19 o20 none o22 o23 x24 none) := by
  by_cases h5 : (n : Int) < 5
  · have hN := pow_le12 (n := n) (by omega)
    have e1 := e_whole_table (k := k + 25) (n := n) hn
    have e2 := e_both_table (k := k + 25) (n := n) hn
    obtain ⟨o16, o20, e3⟩ := m_out (k := k) (r := r) (n := n) (ab := co (2 ^ n) a b) (a := a) (b := b) (c := c) (T := T) (x8 := x8) (x9 := x9) (x10 := x10) (x11 := x11) (x12 := x12) (x13 := x13) (x14 := x14) (x15 := some (.l [])) (x17 := x17) (x18 := x18) (x19 := x19) (x21 := none) (x24 := x24) hN (fine_pow n) (List.range (2 ^ n)) (fun j hj => List.mem_range.mp hj) none none
    obtain ⟨o, e4⟩ := m_if4 (k := k) (r := r) (c := c) (T := T) (x8 := x8) (x9 := x9) (x10 := x10) (x11 := x11) (x12 := x12) (x13 := x13) (x14 := x14) (x16 := o16) (x17 := x17) (x18 := x18) (x19 := x19) (x20 := o20) (x22 := some (.v (.tuple (tbl (2 ^ n) (op (2 ^ n)))))) (x24 := x24) (x25 := none) hn ha ha2 hb hb2
    refine ⟨some o, o16, o20, some (.v (.tuple (tbl (2 ^ n) (op (2 ^ n))))), some (.v (.tuple (tbl (2 ^ n) (co (2 ^ n))))), ?_⟩
    have s : ex (Ph Ir.prog (k + 30)) (.seq (.par 22 23 (.call "whole_table" (.cons (.var 3) .nil)) (.call "both_table" (.cons (.var 3) .nil))) (.seq (.asg 15 (.lst .nil)) (.seq loopS (.seq ifS4 .skip)))) (W r (2 ^ n) n (co (2 ^ n) a b) a b c T x8 x9 x10 x11 x12 x13 x14 none none x17 x18 x19 none none none none x24 none) = some (.next, W r (2 ^ n) n (co (2 ^ n) a b) a b c T x8 x9 x10 x11 x12 x13 x14 (some o) o16 x17 x18 x19 o20 none (some (.v (.tuple (tbl (2 ^ n) (op (2 ^ n)))))) (some (.v (.tuple (tbl (2 ^ n) (co (2 ^ n)))))) x24 none) := by
      refine seq_n (ρ1 := W r (2 ^ n) n (co (2 ^ n) a b) a b c T x8 x9 x10 x11 x12 x13 x14 none none x17 x18 x19 none none (some (.v (.tuple (tbl (2 ^ n) (op (2 ^ n)))))) (some (.v (.tuple (tbl (2 ^ n) (co (2 ^ n)))))) x24 none) ?_ (seq_n (ρ1 := W r (2 ^ n) n (co (2 ^ n) a b) a b c T x8 x9 x10 x11 x12 x13 x14 (some (.l [])) none x17 x18 x19 none none (some (.v (.tuple (tbl (2 ^ n) (op (2 ^ n)))))) (some (.v (.tuple (tbl (2 ^ n) (co (2 ^ n)))))) x24 none) (by simp) (seq_n (for_n (m_rng hN) e3) (seq_n e4 rfl)))
      generalize tbl (2 ^ n) (op (2 ^ n)) = T1 at *
      generalize tbl (2 ^ n) (co (2 ^ n)) = T2 at *
      simp [e1, e2]
    have t : evT (Ph Ir.prog (k + 30)) (.tcmp .Lt (.var 3) (.num 5)) (W r (2 ^ n) n (co (2 ^ n) a b) a b c T x8 x9 x10 x11 x12 x13 x14 none none x17 x18 x19 none none none none x24 none) = some (true, W r (2 ^ n) n (co (2 ^ n) a b) a b c T x8 x9 x10 x11 x12 x13 x14 none none x17 x18 x19 none none none none x24 none) := by
      simp [h5]
    rw [x0_if, t]
    exact s
  · refine ⟨none, none, none, none, none, ?_⟩
    have t : evT (Ph Ir.prog (k + 30)) (.tcmp .Lt (.var 3) (.num 5)) (W r (2 ^ n) n (co (2 ^ n) a b) a b c T x8 x9 x10 x11 x12 x13 x14 none none x17 x18 x19 none none none none x24 none) = some (false, W r (2 ^ n) n (co (2 ^ n) a b) a b c T x8 x9 x10 x11 x12 x13 x14 none none x17 x18 x19 none none none none x24 none) := by
      simp [h5]
    rw [x0_if, t]
    rfl
/-- one net -/
theorem m_net1 {c0 : Nat} (t : Tn c0 r) (hc : c0 < 900000) (d : D) : ∃ (B : Bt) (r' : R), Tn (c0 + 5) r' ∧ B.lv ≤ 4 ∧ turnE (Ph Ir.prog (k + 30)) (.call "_law_net" (.cons (.var 0) (.cons (.bin .Add (.num 1) (.call "_law_take" (.cons (.var 0) (.cons (.num 4) .nil)))) .nil))) (.nm 24) .tyes d (W r N n ab a b c T x8 x9 x10 x11 x12 x13 x14 x15 x16 x17 x18 x19 x20 x21 x22 x23 none x25) =
    some (some B.d, W r' N n ab a b c T x8 x9 x10 x11 x12 x13 x14 x15 x16 x17 x18 x19 x20 x21 x22 x23 (some (.v d)) x25) := by
  obtain ⟨v, r1, t1, v1, e1⟩ := t.take (by omega) 4 (by omega) (by omega) (k + 29)
  obtain ⟨B, r2, t2, b1, e2⟩ := e__law_net (k := k + 28) t1 (m := v + 1) (by omega) (by omega) (by omega)
  have e1 : Ph Ir.prog (k + 30) "_law_take" [r, .v (.int 4)] = some (iv v, [r1, .v (.int 4)]) := e1
  have hv : iv (v + 1) = .v (.int (1 + (v : Nat))) := by
    show R.v (.int _) = _
    rw [show ((v + 1 : Nat) : Int) = 1 + (v : Nat) by omega]
  rw [hv] at e2
  have ho := t.own
  have ho1 := t1.own
  refine ⟨B, r2, ?_, by omega, by simp [turnE, ho, ho1, e1, e2]⟩
  obtain ⟨x, y, z, rfl, ti⟩ := t2
  exact ⟨x, y, z, rfl, ti.1, ti.2.1, ti.2.2.1, ti.2.2.2.1, by have := ti.2.2.2.2; omega⟩
end
end Ev

namespace Ev
open PySem Pv L2 Lv
theorem more_ok (k : Nat) : MoreOk (k + 1) := by
  intro r c0 n a b c t hc0 hn ha ha2 hb hb2 hc hc2
  show ∃ o0 o6, Ph Ir.prog (k + 31) "_law_more_right" _ = _
  have hN1 : 1 ≤ 2 ^ n := Nat.one_le_two_pow
  have hn12 : n ≤ 12 := by omega
  have F := fine_pow n
  obtain ⟨low, r1, t1, hlow, e1⟩ := t.take (by omega) (n + 1) (by omega) (by omega) (k + 29)
  have ho := t.own
  have hcast : iv (n + 1) = .v (.int ((n : Int) + 1)) := by
    show R.v (.int _) = _
    rw [show ((n + 1 : Nat) : Int) = (n : Int) + 1 by omega]
  rw [hcast] at e1
  have q2 : ∀ x8, ex (Ph Ir.prog (k + 30)) (.asg 9 (.call "_law_take" (.cons (.var 0) (.cons (.bin .Add (.var 3) (.num 1)) .nil)))) (W r (2 ^ n) n (co (2 ^ n) a b) a b c (.l (tabD (2 ^ n))) x8 none none none none none none none none none none none none none none none none none) = some (.next, W r1 (2 ^ n) n (co (2 ^ n) a b) a b c (.l (tabD (2 ^ n))) x8 (some (iv low)) none none none none none none none none none none none none none none none none) := fun x8 => by
    generalize tabD (2 ^ n) = TT at *
    simp [ho, e1]
  obtain ⟨o10, o11, q5⟩ := m_if1 (k := k) (r := r1) (T := .l (tabD (2 ^ n))) (N := 2 ^ n) (c := c) (ab := co (2 ^ n) a b) (n := n) (a := a) (b := b) (low := low) (x8 := some (.v (.tuple (sides (2 ^ n) a b c)))) (x9 := some (iv low)) (x12 := none) (x13 := none) (x14 := none) (x15 := none) (x16 := none) (x17 := none) (x18 := none) (x19 := none) (x20 := none) (x21 := none) (x22 := none) (x23 := none) (x24 := none) (x25 := none)
  obtain ⟨o10', q10⟩ := m_if2 (k := k) (r := r1) (T := .l (tabD (2 ^ n))) (N := 2 ^ n) (c := c) (ab := co (2 ^ n) a b) (n := n) (a := a) (b := b) (x8 := some (.v (.tuple (sides (2 ^ n) a b c)))) (x9 := some (iv low)) (x11 := some o11) (x13 := some (.l (fixL n a b))) (x14 := none) (x15 := none) (x16 := none) (x17 := none) (x18 := none) (x19 := none) (x20 := none) (x21 := none) (x22 := none) (x23 := none) (x24 := none) (x25 := none)
  obtain ⟨m, m1, m2, m3, q11⟩ := m_div (k := k) (r := r1) (T := .l (tabD (2 ^ n))) (N := 2 ^ n) (x8 := some (.v (.tuple (sides (2 ^ n) a b c)))) (x9 := some (iv low)) (x10 := some o10') (x11 := some o11) (x12 := some (.l (rowsL n a b))) (x13 := some (.l (fixL n a b))) (x14 := none) (x15 := none) (x16 := none) (x17 := none) (x18 := none) (x19 := none) (x20 := none) (x21 := none) (x22 := none) (x23 := none) (x24 := none) (x25 := none) hn12 ha ha2 hb hb2 hc hc2
  obtain ⟨p15, p16, p20, p22, p23, q13⟩ := m_block (k := k) (r := r1) (c := c) (T := .l (tabD (2 ^ n))) (x8 := some (.v (.tuple (sides (2 ^ n) a b c)))) (x9 := some (iv low)) (x10 := some o10') (x11 := some o11) (x12 := some (.l (rowsL n a b))) (x13 := some (.l (fixL n a b))) (x14 := some (iv m)) (x17 := none) (x18 := none) (x19 := none) (x24 := none) hn ha ha2 hb hb2
  obtain ⟨B1, r2, t2, l1, g1⟩ := m_net1 (k := k) (N := 2 ^ n) (n := n) (a := a) (b := b) (c := c) (ab := co (2 ^ n) a b) (T := .l (tabD (2 ^ n))) (x8 := some (.v (.tuple (sides (2 ^ n) a b c)))) (x9 := some (iv low)) (x10 := some o10') (x11 := some o11) (x12 := some (.l (rowsL n a b))) (x13 := some (.l (fixL n a b))) (x14 := some (iv m)) (x15 := p15) (x16 := p16) (x17 := none) (x18 := none) (x19 := none) (x20 := p20) (x21 := none) (x22 := p22) (x23 := p23) (x25 := none) t1 (by omega) (.int 0)
  obtain ⟨B2, r3, t3, l2, g2⟩ := m_net1 (k := k) (N := 2 ^ n) (n := n) (a := a) (b := b) (c := c) (ab := co (2 ^ n) a b) (T := .l (tabD (2 ^ n))) (x8 := some (.v (.tuple (sides (2 ^ n) a b c)))) (x9 := some (iv low)) (x10 := some o10') (x11 := some o11) (x12 := some (.l (rowsL n a b))) (x13 := some (.l (fixL n a b))) (x14 := some (iv m)) (x15 := p15) (x16 := p16) (x17 := none) (x18 := none) (x19 := none) (x20 := p20) (x21 := none) (x22 := p22) (x23 := p23) (x25 := none) t2 (by omega) (.int 1)
  obtain ⟨B3, r4, t4, l3, g3⟩ := m_net1 (k := k) (N := 2 ^ n) (n := n) (a := a) (b := b) (c := c) (ab := co (2 ^ n) a b) (T := .l (tabD (2 ^ n))) (x8 := some (.v (.tuple (sides (2 ^ n) a b c)))) (x9 := some (iv low)) (x10 := some o10') (x11 := some o11) (x12 := some (.l (rowsL n a b))) (x13 := some (.l (fixL n a b))) (x14 := some (iv m)) (x15 := p15) (x16 := p16) (x17 := none) (x18 := none) (x19 := none) (x20 := p20) (x21 := none) (x22 := p22) (x23 := p23) (x25 := none) t3 (by omega) (.int 2)
  have d1 := B1.dep_lt
  have d2 := B2.dep_lt
  have d3 := B3.dep_lt
  have w1 := e_worth (k := k + 7) hn12 B1 (by omega)
  have w2 := e_worth (k := k + 7) hn12 B2 (by omega)
  have w3 := e_worth (k := k + 7) hn12 B3 (by omega)
  have w4 := e_worth (k := k + 7) hn12 (.n B2 (.n B1 B3)) (by show max B2.dep (max B1.dep B3.dep + 1) + 1 < 20; omega)
  have w4 : Ph Ir.prog (k + 30) "worth" [iv n, .v (.tuple [B2.d, .tuple [B1.d, B3.d]])] = some (iv (op (2 ^ n) (B2.w (2 ^ n)) (op (2 ^ n) (B1.w (2 ^ n)) (B3.w (2 ^ n)))), [iv n, .v (.tuple [B2.d, .tuple [B1.d, B3.d]])]) := w4
  obtain ⟨u1, v1⟩ := B1.w_rng hN1
  obtain ⟨u2, v2⟩ := B2.w_rng hN1
  obtain ⟨u3, v3⟩ := B3.w_rng hN1
  have eb := e_both (k := k + 25) hn12 u2 v2 u1 v1
  have et := e_times (k := k + 25) hn12 (co_pos hN1 (a := B2.w (2 ^ n)) (b := B1.w (2 ^ n))) (co_le hN1) u3 v3
  rw [co_op hN1 F u2 v2 u1 v1 _ u3 v3] at et
  let WW : R → Option R → Option R → Option R → Option R → Option R → Pv.Env := fun r x16 x17 x18 x19 x20 => W r (2 ^ n) n (co (2 ^ n) a b) a b c (.l (tabD (2 ^ n))) (some (.v (.tuple (sides (2 ^ n) a b c)))) (some (iv low)) (some o10') (some o11) (some (.l (rowsL n a b))) (some (.l (fixL n a b))) (some (iv m)) p15 x16 x17 x18 x19 x20 none p22 p23 none none
  have hc3 : compL (turnE (Ph Ir.prog (k + 30)) (.call "_law_net" (.cons (.var 0) (.cons (.bin .Add (.num 1) (.call "_law_take" (.cons (.var 0) (.cons (.num 4) .nil)))) .nil))) (.nm 24) .tyes) [24] (rngD 0 3) (WW r1 p16 none none none p20) = some ([B1.d, B2.d, B3.d], WW r4 p16 none none none p20) := by
    show ((turnE (Ph Ir.prog (k + 30)) _ (.nm 24) .tyes (.int 0) (WW r1 p16 none none none p20))).bind _ = _
    rw [g1]
    show ((compL _ [24] [.int 1, .int 2] (WW r2 p16 none none none p20))).bind _ = _
    have e12 : compL (turnE (Ph Ir.prog (k + 30)) (.call "_law_net" (.cons (.var 0) (.cons (.bin .Add (.num 1) (.call "_law_take" (.cons (.var 0) (.cons (.num 4) .nil)))) .nil))) (.nm 24) .tyes) [24] [.int 1, .int 2] (WW r2 p16 none none none p20) = some ([B2.d, B3.d], WW r4 p16 none none none p20) := by
      show ((turnE (Ph Ir.prog (k + 30)) _ (.nm 24) .tyes (.int 1) (WW r2 p16 none none none p20))).bind _ = _
      rw [g2]
      show ((compL _ [24] [.int 2] (WW r3 p16 none none none p20))).bind _ = _
      have e2 : compL (turnE (Ph Ir.prog (k + 30)) (.call "_law_net" (.cons (.var 0) (.cons (.bin .Add (.num 1) (.call "_law_take" (.cons (.var 0) (.cons (.num 4) .nil)))) .nil))) (.nm 24) .tyes) [24] [.int 2] (WW r3 p16 none none none p20) = some ([B3.d], WW r4 p16 none none none p20) := by
        show ((turnE (Ph Ir.prog (k + 30)) _ (.nm 24) .tyes (.int 2) (WW r3 p16 none none none p20))).bind _ = _
        rw [g3]
        rfl
      rw [e2]
      rfl
    rw [e12]
    rfl
  have q14 : ex (Ph Ir.prog (k + 30)) (.asgT (.tp (.cons (.nm 17) (.cons (.nm 18) (.cons (.nm 19) .nil)))) (.comp (.call "_law_net" (.cons (.var 0) (.cons (.bin .Add (.num 1) (.call "_law_take" (.cons (.var 0) (.cons (.num 4) .nil)))) .nil))) (.nm 24) (.rng1 (.num 3)) .tyes [24])) (WW r1 p16 none none none p20) = some (.next, WW r4 p16 (some (.v B1.d)) (some (.v B2.d)) (some (.v B3.d)) p20) := by
    have hI := rng1_n (Φ := Ph Ir.prog (k + 30)) (a := .num 3) (ρ := WW r1 p16 none none none p20) (ρ1 := WW r1 p16 none none none p20) (j := 3) (o := .d (.int 3)) (by simp) rfl (by omega) (by omega)
    have hA := comp_n (tg := .nm 24) (vs := [24]) hI (by rw [rngD_len]; omega) hc3
    rw [x0_asgT, hA]
    rfl
  have q15 : ex (Ph Ir.prog (k + 30)) (.par 16 20 (.call "worth" (.cons (.var 3) (.cons (.var 18) .nil))) (.call "worth" (.cons (.var 3) (.cons (.var 17) .nil)))) (WW r4 p16 (some (.v B1.d)) (some (.v B2.d)) (some (.v B3.d)) p20) = some (.next, WW r4 (some (iv (B2.w (2 ^ n)))) (some (.v B1.d)) (some (.v B2.d)) (some (.v B3.d)) (some (iv (B1.w (2 ^ n))))) := by
    simp [WW, w1, w2]
  obtain ⟨z1, z2, eS⟩ := same_ok (k := k + 25) (.int (op (2 ^ n) (B2.w (2 ^ n)) (op (2 ^ n) (B1.w (2 ^ n)) (B3.w (2 ^ n))) : Nat)) _ _ trivial (.inl rfl) (.inl rfl)
  have q16 : evE (Ph Ir.prog (k + 30)) (.call "_law_same" (.cons (.call "worth" (.cons (.var 3) (.cons (.tup (.cons (.var 18) (.cons (.tup (.cons (.var 17) (.cons (.var 19) .nil))) .nil))) .nil))) (.cons (.call "times" (.cons (.var 3) (.cons (.call "both" (.cons (.var 3) (.cons (.var 16) (.cons (.var 20) .nil)))) (.cons (.call "worth" (.cons (.var 3) (.cons (.var 19) .nil))) .nil)))) .nil))) (WW r4 (some (iv (B2.w (2 ^ n)))) (some (.v B1.d)) (some (.v B2.d)) (some (.v B3.d)) (some (iv (B1.w (2 ^ n))))) = some (.v (.bool true), WW r4 (some (iv (B2.w (2 ^ n)))) (some (.v B1.d)) (some (.v B2.d)) (some (.v B3.d)) (some (iv (B1.w (2 ^ n))))) := by
    simp [WW, w3, w4, eb, et, eS]
  rw [c__law_more_right]
  refine ⟨r4, .l (tabD (2 ^ n)), runF_of (ρ0 := W r (2 ^ n) n (co (2 ^ n) a b) a b c (.l (tabD (2 ^ n))) none none none none none none none none none none none none none none none none none none) rfl rfl (seq_n (m_sides hn12 ha ha2 hb hb2 hc hc2) (seq_n (q2 _) (seq_n (m_got hn (by omega) ha ha2 hb hb2 hc hc2) (seq_n (m_due hn (by omega) ha ha2 hb hb2) (seq_n q5 (seq_n (m_rows hn12 ha ha2 hb hb2) (seq_n (m_fixes hn12 ha ha2 hb hb2) (seq_n (m_got2 hn12 ha ha2 hb hb2) (seq_n (m_got2b hn12 ha ha2 hb hb2) (seq_n q10 (seq_n q11 (seq_n (m_if3 hn12 ha ha2 hb hb2 hc hc2 m1 m2 m3) (seq_n q13 (seq_n q14 (seq_n q15 (ret_n q16)))))))))))))))) rfl rfl⟩
theorem pure_law (k : Nat) (ns : List Int) (hn : ns.length ≤ 63) : ∃ outs, Ph Ir.prog (k + 33) "law" [.s ns] = some (.v (.bool true), outs) :=
  law_of (k := k + 31) (fun x y h1 h2 h3 => law_right (k := k + 1) (more_ok k) x y h1 h2 h3) ns hn
end Ev

namespace Hd
open PySem PySem.Spec PyProof.Rows L2 Pv
def topS (i : Nat) : Stmt := PySem.Challenge.pw_leftspread_k72_across_both_as_doing_twic.main.body.getD i (.Pass ⟨0, 0, 0, 0⟩)
def dd (x : Str) (i : Nat) : He.DefD := ⟨(x, none), x, x, defArgs (topS i), defBody (topS i), defScope (topS i), [], []⟩
def fnL : List He.DefD := [dd "is_number" 4, dd "is_among" 5, dd "is_long" 6, dd "tupled" 7, dd "sure_number" 8, dd "rows_in" 12, dd "product_in" 13, dd "sure_level" 14, dd "sure_in" 15, dd "sure_all_in" 16, dd "whole_in" 17, dd "times" 18, dd "table_row" 19, dd "period" 20, dd "whole_table" 21, dd "spreads_at" 22, dd "both_in" 26, dd "both" 27, dd "both_table" 28, dd "folded" 29, dd "all_both" 30, dd "both_times" 31, dd "is_both" 32, dd "laws_of_both" 33, dd "fixed_by" 34, dd "sure_listed" 37, dd "periods" 38, dd "divided" 39, dd "comes_behind" 40, dd "sure_below" 44, dd "lowered_in" 45, dd "lowered" 46, dd "is_bush_in" 48, dd "sure_bush" 49, dd "worth_by" 51, dd "worth" 52, dd "_law_box" 54, dd "_law_take" 55, dd "_law_cells" 56, dd "_law_same" 57, dd "_law_net" 58, dd "_law_table" 59, dd "_law_more_right" 60, dd "_law_right" 61, dd "law" 62]
def faL : List He.Fa := [.glo "is_number", .glo "is_among", .glo "is_long", .glo "tupled", .glo "sure_number", .glo "rows_in", .glo "product_in", .glo "sure_level", .glo "sure_in", .glo "sure_all_in", .glo "whole_in", .glo "times", .glo "table_row", .glo "period", .glo "whole_table", .glo "spreads_at", .glo "both_in", .glo "both", .glo "both_table", .glo "folded", .glo "all_both", .glo "both_times", .glo "is_both", .glo "laws_of_both", .glo "fixed_by", .glo "sure_listed", .glo "periods", .glo "divided", .glo "comes_behind", .glo "sure_below", .glo "lowered_in", .glo "lowered", .glo "is_bush_in", .glo "sure_bush", .glo "worth_by", .glo "worth", .glo "_law_box", .glo "_law_take", .glo "_law_cells", .glo "_law_same", .glo "_law_net", .glo "_law_table", .glo "_law_more_right", .glo "_law_right", .glo "law", .int "MOST_LEVEL" 12, .int "MOST_WHOLE" 6, .int "MOST_TABLE" 6, .int "MOST_TIMES" 1000, .int "MOST_LISTED" 10, .int "MOST_BELOW" 11, .int "MOST_NUMBER" 4096, .free "ValueError", .free "abs", .free "all", .free "bool", .free "enumerate", .free "int", .free "isinstance", .free "len", .free "list", .free "min", .free "range", .free "str", .free "tuple", .free "zip"]
abbrev lawI : Nat := 62
def looseL : List Str := (["TooMany", "Unfit", "is_number", "is_among", "is_long", "tupled", "sure_number", "MOST_LEVEL", "MOST_WHOLE", "rows_in", "product_in", "sure_level", "sure_in", "sure_all_in", "whole_in", "times", "table_row", "period", "whole_table", "spreads_at", "MOST_TABLE", "MOST_TIMES", "both_in", "both", "both_table", "folded", "all_both", "both_times", "is_both", "laws_of_both"] : List Str) ++ (["fixed_by", "MOST_LISTED", "sure_listed", "periods", "divided", "comes_behind", "MOST_BELOW", "MOST_NUMBER", "sure_below", "lowered_in", "lowered", "is_bush_in", "sure_bush", "worth_by", "worth", "_law_box", "_law_take", "_law_cells", "_law_same", "_law_net", "_law_table", "_law_more_right", "_law_right"] : List Str)
def tab : Tab := ⟨[(("is_number" : Str), 1), (("is_among" : Str), 3), (("is_long" : Str), 2), (("tupled" : Str), 1), (("sure_number" : Str), 3), (("rows_in" : Str), 1), (("product_in" : Str), 3), (("sure_level" : Str), 1), (("sure_in" : Str), 2), (("sure_all_in" : Str), 2), (("whole_in" : Str), 1), (("times" : Str), 3), (("table_row" : Str), 2), (("period" : Str), 2), (("whole_table" : Str), 1), (("spreads_at" : Str), 4), (("both_in" : Str), 4), (("both" : Str), 3), (("both_table" : Str), 1), (("folded" : Str), 2), (("all_both" : Str), 2), (("both_times" : Str), 3), (("is_both" : Str), 4), (("laws_of_both" : Str), 4), (("fixed_by" : Str), 2), (("sure_listed" : Str), 1), (("periods" : Str), 1), (("divided" : Str), 3), (("comes_behind" : Str), 3), (("sure_below" : Str), 1), (("lowered_in" : Str), 2), (("lowered" : Str), 2), (("is_bush_in" : Str), 1), (("sure_bush" : Str), 1), (("worth_by" : Str), 2), (("worth" : Str), 2), (("_law_box" : Str), 2), (("_law_take" : Str), 2), (("_law_cells" : Str), 2), (("_law_same" : Str), 2), (("_law_net" : Str), 2), (("_law_table" : Str), 1), (("_law_more_right" : Str), 8), (("_law_right" : Str), 1), (("law" : Str), 1)], [(("MOST_LEVEL" : Str), 12), (("MOST_WHOLE" : Str), 6), (("MOST_TABLE" : Str), 6), (("MOST_TIMES" : Str), 1000), (("MOST_LISTED" : Str), 10), (("MOST_BELOW" : Str), 11), (("MOST_NUMBER" : Str), 4096)], ["ValueError", "abs", "all", "bool", "enumerate", "int", "isinstance", "len", "list", "min", "range", "str", "tuple", "zip"]⟩
def d_is_number : Df := ⟨"is_number", ["thing"], ["thing"], Ir.f_is_number, topS 4⟩
theorem c_is_number : chkDf tab d_is_number = true := by decide +kernel
def d_is_among : Df := ⟨"is_among", ["thing", "least", "most"], ["thing", "least", "most"], Ir.f_is_among, topS 5⟩
theorem c_is_among : chkDf tab d_is_among = true := by decide +kernel
def d_is_long : Df := ⟨"is_long", ["thing", "length"], ["thing", "length"], Ir.f_is_long, topS 6⟩
theorem c_is_long : chkDf tab d_is_long = true := by decide +kernel
def d_tupled : Df := ⟨"tupled", ["value"], ["value", "own"], Ir.f_tupled, topS 7⟩
theorem c_tupled : chkDf tab d_tupled = true := by decide +kernel
def d_sure_number : Df := ⟨"sure_number", ["thing", "least", "most"], ["thing", "least", "most"], Ir.f_sure_number, topS 8⟩
theorem c_sure_number : chkDf tab d_sure_number = true := by decide +kernel
def d_rows_in : Df := ⟨"rows_in", ["level"], ["level", "last", "rows", "number", "row", "turned", "_"], Ir.f_rows_in, topS 12⟩
theorem c_rows_in : chkDf tab d_rows_in = true := by decide +kernel
def d_product_in : Df := ⟨"product_in", ["rows", "one", "other"], ["rows", "one", "other"], Ir.f_product_in, topS 13⟩
theorem c_product_in : chkDf tab d_product_in = true := by decide +kernel
def d_sure_level : Df := ⟨"sure_level", ["thing"], ["thing"], Ir.f_sure_level, topS 14⟩
theorem c_sure_level : chkDf tab d_sure_level = true := by decide +kernel
def d_sure_in : Df := ⟨"sure_in", ["level", "thing"], ["level", "thing"], Ir.f_sure_in, topS 15⟩
theorem c_sure_in : chkDf tab d_sure_in = true := by decide +kernel
def d_sure_all_in : Df := ⟨"sure_all_in", ["level", "thing"], ["level", "thing", "own", "its"], Ir.f_sure_all_in, topS 16⟩
theorem c_sure_all_in : chkDf tab d_sure_all_in = true := by decide +kernel
def d_whole_in : Df := ⟨"whole_in", ["level"], ["level", "last", "one", "rows", "found", "other"], Ir.f_whole_in, topS 17⟩
theorem c_whole_in : chkDf tab d_whole_in = true := by decide +kernel
def d_times : Df := ⟨"times", ["level", "one", "other"], ["level", "one", "other", "told", "near"], Ir.f_times, topS 18⟩
theorem c_times : chkDf tab d_times = true := by decide +kernel
def d_table_row : Df := ⟨"table_row", ["level", "one"], ["level", "one", "told", "near"], Ir.f_table_row, topS 19⟩
theorem c_table_row : chkDf tab d_table_row = true := by decide +kernel
def d_period : Df := ⟨"period", ["level", "one"], ["level", "one"], Ir.f_period, topS 20⟩
theorem c_period : chkDf tab d_period = true := by decide +kernel
def d_whole_table : Df := ⟨"whole_table", ["level"], ["level"], Ir.f_whole_table, topS 21⟩
theorem c_whole_table : chkDf tab d_whole_table = true := by decide +kernel
def d_spreads_at : Df := ⟨"spreads_at", ["level", "one", "other", "third"], ["level", "one", "other", "third", "told", "near", "mid", "far", "rows", "left"], Ir.f_spreads_at, topS 22⟩
theorem c_spreads_at : chkDf tab d_spreads_at = true := by decide +kernel
def d_both_in : Df := ⟨"both_in", ["level", "rows", "one", "other"], ["level", "rows", "one", "other", "last"], Ir.f_both_in, topS 26⟩
theorem c_both_in : chkDf tab d_both_in = true := by decide +kernel
def d_both : Df := ⟨"both", ["level", "one", "other"], ["level", "one", "other", "told", "near"], Ir.f_both, topS 27⟩
theorem c_both : chkDf tab d_both = true := by decide +kernel
def d_both_table : Df := ⟨"both_table", ["level"], ["level", "told", "found", "one", "rows", "last", "other"], Ir.f_both_table, topS 28⟩
theorem c_both_table : chkDf tab d_both_table = true := by decide +kernel
def d_folded : Df := ⟨"folded", ["level", "numbers"], ["level", "numbers", "rows", "found", "own"], Ir.f_folded, topS 29⟩
theorem c_folded : chkDf tab d_folded = true := by decide +kernel
def d_all_both : Df := ⟨"all_both", ["level", "numbers"], ["level", "numbers", "told"], Ir.f_all_both, topS 30⟩
theorem c_all_both : chkDf tab d_all_both = true := by decide +kernel
def d_both_times : Df := ⟨"both_times", ["level", "one", "many"], ["level", "one", "many", "told", "own"], Ir.f_both_times, topS 31⟩
theorem c_both_times : chkDf tab d_both_times = true := by decide +kernel
def d_is_both : Df := ⟨"is_both", ["level", "one", "other", "thing"], ["level", "one", "other", "thing", "found"], Ir.f_is_both, topS 32⟩
theorem c_is_both : chkDf tab d_is_both = true := by decide +kernel
def d_laws_of_both : Df := ⟨"laws_of_both", ["level", "one", "other", "third"], ["level", "one", "other", "third", "told", "a", "b", "c", "rows", "one_pair", "two_pair", "three_pair", "pair", "ahead", "behind", "last"], Ir.f_laws_of_both, topS 33⟩
theorem c_laws_of_both : chkDf tab d_laws_of_both = true := by decide +kernel
def d_fixed_by : Df := ⟨"fixed_by", ["level", "one"], ["level", "one", "told", "own", "rows", "its"], Ir.f_fixed_by, topS 34⟩
theorem c_fixed_by : chkDf tab d_fixed_by = true := by decide +kernel
def d_sure_listed : Df := ⟨"sure_listed", ["level"], ["level", "told"], Ir.f_sure_listed, topS 37⟩
theorem c_sure_listed : chkDf tab d_sure_listed = true := by decide +kernel
def d_periods : Df := ⟨"periods", ["level"], ["level", "row"], Ir.f_periods, topS 38⟩
theorem c_periods : chkDf tab d_periods = true := by decide +kernel
def d_divided : Df := ⟨"divided", ["level", "one", "goal"], ["level", "one", "goal", "told", "own", "end", "row"], Ir.f_divided, topS 39⟩
theorem c_divided : chkDf tab d_divided = true := by decide +kernel
def d_comes_behind : Df := ⟨"comes_behind", ["level", "one", "goal"], ["level", "one", "goal"], Ir.f_comes_behind, topS 40⟩
theorem c_comes_behind : chkDf tab d_comes_behind = true := by decide +kernel
def d_sure_below : Df := ⟨"sure_below", ["level"], ["level"], Ir.f_sure_below, topS 44⟩
theorem c_sure_below : chkDf tab d_sure_below = true := by decide +kernel
def d_lowered_in : Df := ⟨"lowered_in", ["level", "number"], ["level", "number"], Ir.f_lowered_in, topS 45⟩
theorem c_lowered_in : chkDf tab d_lowered_in = true := by decide +kernel
def d_lowered : Df := ⟨"lowered", ["level", "number"], ["level", "number", "told"], Ir.f_lowered, topS 46⟩
theorem c_lowered : chkDf tab d_lowered = true := by decide +kernel
def d_is_bush_in : Df := ⟨"is_bush_in", ["thing"], ["thing"], Ir.f_is_bush_in, topS 48⟩
theorem c_is_bush_in : chkDf tab d_is_bush_in = true := by decide +kernel
def d_sure_bush : Df := ⟨"sure_bush", ["thing"], ["thing", "own"], Ir.f_sure_bush, topS 49⟩
theorem c_sure_bush : chkDf tab d_sure_bush = true := by decide +kernel
def d_worth_by : Df := ⟨"worth_by", ["rows", "bush"], ["rows", "bush"], Ir.f_worth_by, topS 51⟩
theorem c_worth_by : chkDf tab d_worth_by = true := by decide +kernel
def d_worth : Df := ⟨"worth", ["level", "bush"], ["level", "bush", "told"], Ir.f_worth, topS 52⟩
theorem c_worth : chkDf tab d_worth = true := by decide +kernel
def d__law_box : Df := ⟨"_law_box", ["script", "k"], ["script", "k", "bit_so"], Ir.f__law_box, topS 54⟩
theorem c__law_box : chkDf tab d__law_box = true := by decide +kernel
def d__law_take : Df := ⟨"_law_take", ["tin", "below_so"], ["tin", "below_so", "once_so", "wide_so", "twice_so", "drawn_so"], Ir.f__law_take, topS 55⟩
theorem c__law_take : chkDf tab d__law_take = true := by decide +kernel
def d__law_cells : Df := ⟨"_law_cells", ["script", "most_so"], ["script", "most_so", "cells_so", "k", "bit_so", "at_so"], Ir.f__law_cells, topS 56⟩
theorem c__law_cells : chkDf tab d__law_cells = true := by decide +kernel
def d__law_same : Df := ⟨"_law_same", ["got", "due"], ["got", "due", "mine", "its"], Ir.f__law_same, topS 57⟩
theorem c__law_same : chkDf tab d__law_same = true := by decide +kernel
def d__law_net : Df := ⟨"_law_net", ["tin", "many_so"], ["tin", "many_so", "pool_so", "lap", "k"], Ir.f__law_net, topS 58⟩
theorem c__law_net : chkDf tab d__law_net = true := by decide +kernel
def d__law_table : Df := ⟨"_law_table", ["level_so"], ["level_so", "last_so", "rows_so", "a", "row_so", "b"], Ir.f__law_table, topS 59⟩
theorem c__law_table : chkDf tab d__law_table = true := by decide +kernel
def d__law_more_right : Df := ⟨"_law_more_right", ["tin", "both_so", "last_so", "level_so", "one", "other", "table_so", "third"], ["tin", "both_so", "last_so", "level_so", "one", "other", "table_so", "third", "sides_so", "low_so", "got", "due", "rows_so", "fixes_so", "k", "bad_so", "a", "near", "far", "net", "b", "own", "wide_so", "bothes_so", "lap", "c"], Ir.f__law_more_right, topS 60⟩
theorem c__law_more_right : chkDf tab d__law_more_right = true := by decide +kernel
def d__law_right : Df := ⟨"_law_right", ["tin"], ["tin", "level_so", "last_so", "table_so", "both_so", "due", "alikes_so", "got", "row_so", "goal_so", "own", "whole_so", "many_so", "lap", "one", "other", "third", "here_so", "spot", "k"], Ir.f__law_right, topS 61⟩
theorem c__law_right : chkDf tab d__law_right = true := by decide +kernel
def d_law : Df := ⟨"law", ["script"], ["script", "cells_so", "k"], Ir.f_law, topS 62⟩
theorem c_law : chkDf tab d_law = true := by decide +kernel
def defs : List Df := [d_is_number, d_is_among, d_is_long, d_tupled, d_sure_number, d_rows_in, d_product_in, d_sure_level, d_sure_in, d_sure_all_in, d_whole_in, d_times, d_table_row, d_period, d_whole_table, d_spreads_at, d_both_in, d_both, d_both_table, d_folded, d_all_both, d_both_times, d_is_both, d_laws_of_both, d_fixed_by, d_sure_listed, d_periods, d_divided, d_comes_behind, d_sure_below, d_lowered_in, d_lowered, d_is_bush_in, d_sure_bush, d_worth_by, d_worth, d__law_box, d__law_take, d__law_cells, d__law_same, d__law_net, d__law_table, d__law_more_right, d__law_right, d_law]
end Hd

namespace Hd
open PySem PySem.Spec PyProof.Rows L2 Pv
section
variable {K : PySem.W.Frag} {h : Heap} {mg : Str → Option Value}
theorem e_is_number (X : K.In h) (G : h.Ns mainGlobals mg) (c : He.SaysD faL fnL K) : ∃ a fd, FunD K d_is_number.nm d_is_number.nm (defArgs d_is_number.st) (defBody d_is_number.st) (defScope d_is_number.st) [] [] a fd ∧ mg d_is_number.nm = some (.ref a) ∧ Binds K fd d_is_number.ps [] := by
  obtain ⟨fd, F⟩ := c.def_ 0 (d := dd "is_number" 4) rfl
  exact ⟨_, fd, F, He.glo_ok X G (c.fact 0 (f := .glo "is_number") rfl), FunD.bindsN F fun _ _ _ _ _ _ us hl => match us, hl with | [_], _ => rfl⟩
theorem e_is_among (X : K.In h) (G : h.Ns mainGlobals mg) (c : He.SaysD faL fnL K) : ∃ a fd, FunD K d_is_among.nm d_is_among.nm (defArgs d_is_among.st) (defBody d_is_among.st) (defScope d_is_among.st) [] [] a fd ∧ mg d_is_among.nm = some (.ref a) ∧ Binds K fd d_is_among.ps [] := by
  obtain ⟨fd, F⟩ := c.def_ 1 (d := dd "is_among" 5) rfl
  exact ⟨_, fd, F, He.glo_ok X G (c.fact 1 (f := .glo "is_among") rfl), FunD.bindsN F fun _ _ _ _ _ _ us hl => match us, hl with | [_, _, _], _ => rfl⟩
theorem e_is_long (X : K.In h) (G : h.Ns mainGlobals mg) (c : He.SaysD faL fnL K) : ∃ a fd, FunD K d_is_long.nm d_is_long.nm (defArgs d_is_long.st) (defBody d_is_long.st) (defScope d_is_long.st) [] [] a fd ∧ mg d_is_long.nm = some (.ref a) ∧ Binds K fd d_is_long.ps [] := by
  obtain ⟨fd, F⟩ := c.def_ 2 (d := dd "is_long" 6) rfl
  exact ⟨_, fd, F, He.glo_ok X G (c.fact 2 (f := .glo "is_long") rfl), FunD.bindsN F fun _ _ _ _ _ _ us hl => match us, hl with | [_, _], _ => rfl⟩
theorem e_tupled (X : K.In h) (G : h.Ns mainGlobals mg) (c : He.SaysD faL fnL K) : ∃ a fd, FunD K d_tupled.nm d_tupled.nm (defArgs d_tupled.st) (defBody d_tupled.st) (defScope d_tupled.st) [] [] a fd ∧ mg d_tupled.nm = some (.ref a) ∧ Binds K fd d_tupled.ps [] := by
  obtain ⟨fd, F⟩ := c.def_ 3 (d := dd "tupled" 7) rfl
  exact ⟨_, fd, F, He.glo_ok X G (c.fact 3 (f := .glo "tupled") rfl), FunD.bindsN F fun _ _ _ _ _ _ us hl => match us, hl with | [_], _ => rfl⟩
theorem e_sure_number (X : K.In h) (G : h.Ns mainGlobals mg) (c : He.SaysD faL fnL K) : ∃ a fd, FunD K d_sure_number.nm d_sure_number.nm (defArgs d_sure_number.st) (defBody d_sure_number.st) (defScope d_sure_number.st) [] [] a fd ∧ mg d_sure_number.nm = some (.ref a) ∧ Binds K fd d_sure_number.ps [] := by
  obtain ⟨fd, F⟩ := c.def_ 4 (d := dd "sure_number" 8) rfl
  exact ⟨_, fd, F, He.glo_ok X G (c.fact 4 (f := .glo "sure_number") rfl), FunD.bindsN F fun _ _ _ _ _ _ us hl => match us, hl with | [_, _, _], _ => rfl⟩
theorem e_rows_in (X : K.In h) (G : h.Ns mainGlobals mg) (c : He.SaysD faL fnL K) : ∃ a fd, FunD K d_rows_in.nm d_rows_in.nm (defArgs d_rows_in.st) (defBody d_rows_in.st) (defScope d_rows_in.st) [] [] a fd ∧ mg d_rows_in.nm = some (.ref a) ∧ Binds K fd d_rows_in.ps [] := by
  obtain ⟨fd, F⟩ := c.def_ 5 (d := dd "rows_in" 12) rfl
  exact ⟨_, fd, F, He.glo_ok X G (c.fact 5 (f := .glo "rows_in") rfl), FunD.bindsN F fun _ _ _ _ _ _ us hl => match us, hl with | [_], _ => rfl⟩
theorem e_product_in (X : K.In h) (G : h.Ns mainGlobals mg) (c : He.SaysD faL fnL K) : ∃ a fd, FunD K d_product_in.nm d_product_in.nm (defArgs d_product_in.st) (defBody d_product_in.st) (defScope d_product_in.st) [] [] a fd ∧ mg d_product_in.nm = some (.ref a) ∧ Binds K fd d_product_in.ps [] := by
  obtain ⟨fd, F⟩ := c.def_ 6 (d := dd "product_in" 13) rfl
  exact ⟨_, fd, F, He.glo_ok X G (c.fact 6 (f := .glo "product_in") rfl), FunD.bindsN F fun _ _ _ _ _ _ us hl => match us, hl with | [_, _, _], _ => rfl⟩
theorem e_sure_level (X : K.In h) (G : h.Ns mainGlobals mg) (c : He.SaysD faL fnL K) : ∃ a fd, FunD K d_sure_level.nm d_sure_level.nm (defArgs d_sure_level.st) (defBody d_sure_level.st) (defScope d_sure_level.st) [] [] a fd ∧ mg d_sure_level.nm = some (.ref a) ∧ Binds K fd d_sure_level.ps [] := by
  obtain ⟨fd, F⟩ := c.def_ 7 (d := dd "sure_level" 14) rfl
  exact ⟨_, fd, F, He.glo_ok X G (c.fact 7 (f := .glo "sure_level") rfl), FunD.bindsN F fun _ _ _ _ _ _ us hl => match us, hl with | [_], _ => rfl⟩
theorem e_sure_in (X : K.In h) (G : h.Ns mainGlobals mg) (c : He.SaysD faL fnL K) : ∃ a fd, FunD K d_sure_in.nm d_sure_in.nm (defArgs d_sure_in.st) (defBody d_sure_in.st) (defScope d_sure_in.st) [] [] a fd ∧ mg d_sure_in.nm = some (.ref a) ∧ Binds K fd d_sure_in.ps [] := by
  obtain ⟨fd, F⟩ := c.def_ 8 (d := dd "sure_in" 15) rfl
  exact ⟨_, fd, F, He.glo_ok X G (c.fact 8 (f := .glo "sure_in") rfl), FunD.bindsN F fun _ _ _ _ _ _ us hl => match us, hl with | [_, _], _ => rfl⟩
theorem e_sure_all_in (X : K.In h) (G : h.Ns mainGlobals mg) (c : He.SaysD faL fnL K) : ∃ a fd, FunD K d_sure_all_in.nm d_sure_all_in.nm (defArgs d_sure_all_in.st) (defBody d_sure_all_in.st) (defScope d_sure_all_in.st) [] [] a fd ∧ mg d_sure_all_in.nm = some (.ref a) ∧ Binds K fd d_sure_all_in.ps [] := by
  obtain ⟨fd, F⟩ := c.def_ 9 (d := dd "sure_all_in" 16) rfl
  exact ⟨_, fd, F, He.glo_ok X G (c.fact 9 (f := .glo "sure_all_in") rfl), FunD.bindsN F fun _ _ _ _ _ _ us hl => match us, hl with | [_, _], _ => rfl⟩
theorem e_whole_in (X : K.In h) (G : h.Ns mainGlobals mg) (c : He.SaysD faL fnL K) : ∃ a fd, FunD K d_whole_in.nm d_whole_in.nm (defArgs d_whole_in.st) (defBody d_whole_in.st) (defScope d_whole_in.st) [] [] a fd ∧ mg d_whole_in.nm = some (.ref a) ∧ Binds K fd d_whole_in.ps [] := by
  obtain ⟨fd, F⟩ := c.def_ 10 (d := dd "whole_in" 17) rfl
  exact ⟨_, fd, F, He.glo_ok X G (c.fact 10 (f := .glo "whole_in") rfl), FunD.bindsN F fun _ _ _ _ _ _ us hl => match us, hl with | [_], _ => rfl⟩
theorem e_times (X : K.In h) (G : h.Ns mainGlobals mg) (c : He.SaysD faL fnL K) : ∃ a fd, FunD K d_times.nm d_times.nm (defArgs d_times.st) (defBody d_times.st) (defScope d_times.st) [] [] a fd ∧ mg d_times.nm = some (.ref a) ∧ Binds K fd d_times.ps [] := by
  obtain ⟨fd, F⟩ := c.def_ 11 (d := dd "times" 18) rfl
  exact ⟨_, fd, F, He.glo_ok X G (c.fact 11 (f := .glo "times") rfl), FunD.bindsN F fun _ _ _ _ _ _ us hl => match us, hl with | [_, _, _], _ => rfl⟩
theorem e_table_row (X : K.In h) (G : h.Ns mainGlobals mg) (c : He.SaysD faL fnL K) : ∃ a fd, FunD K d_table_row.nm d_table_row.nm (defArgs d_table_row.st) (defBody d_table_row.st) (defScope d_table_row.st) [] [] a fd ∧ mg d_table_row.nm = some (.ref a) ∧ Binds K fd d_table_row.ps [] := by
  obtain ⟨fd, F⟩ := c.def_ 12 (d := dd "table_row" 19) rfl
  exact ⟨_, fd, F, He.glo_ok X G (c.fact 12 (f := .glo "table_row") rfl), FunD.bindsN F fun _ _ _ _ _ _ us hl => match us, hl with | [_, _], _ => rfl⟩
theorem e_period (X : K.In h) (G : h.Ns mainGlobals mg) (c : He.SaysD faL fnL K) : ∃ a fd, FunD K d_period.nm d_period.nm (defArgs d_period.st) (defBody d_period.st) (defScope d_period.st) [] [] a fd ∧ mg d_period.nm = some (.ref a) ∧ Binds K fd d_period.ps [] := by
  obtain ⟨fd, F⟩ := c.def_ 13 (d := dd "period" 20) rfl
  exact ⟨_, fd, F, He.glo_ok X G (c.fact 13 (f := .glo "period") rfl), FunD.bindsN F fun _ _ _ _ _ _ us hl => match us, hl with | [_, _], _ => rfl⟩
theorem e_whole_table (X : K.In h) (G : h.Ns mainGlobals mg) (c : He.SaysD faL fnL K) : ∃ a fd, FunD K d_whole_table.nm d_whole_table.nm (defArgs d_whole_table.st) (defBody d_whole_table.st) (defScope d_whole_table.st) [] [] a fd ∧ mg d_whole_table.nm = some (.ref a) ∧ Binds K fd d_whole_table.ps [] := by
  obtain ⟨fd, F⟩ := c.def_ 14 (d := dd "whole_table" 21) rfl
  exact ⟨_, fd, F, He.glo_ok X G (c.fact 14 (f := .glo "whole_table") rfl), FunD.bindsN F fun _ _ _ _ _ _ us hl => match us, hl with | [_], _ => rfl⟩
theorem e_spreads_at (X : K.In h) (G : h.Ns mainGlobals mg) (c : He.SaysD faL fnL K) : ∃ a fd, FunD K d_spreads_at.nm d_spreads_at.nm (defArgs d_spreads_at.st) (defBody d_spreads_at.st) (defScope d_spreads_at.st) [] [] a fd ∧ mg d_spreads_at.nm = some (.ref a) ∧ Binds K fd d_spreads_at.ps [] := by
  obtain ⟨fd, F⟩ := c.def_ 15 (d := dd "spreads_at" 22) rfl
  exact ⟨_, fd, F, He.glo_ok X G (c.fact 15 (f := .glo "spreads_at") rfl), FunD.bindsN F fun _ _ _ _ _ _ us hl => match us, hl with | [_, _, _, _], _ => rfl⟩
theorem e_both_in (X : K.In h) (G : h.Ns mainGlobals mg) (c : He.SaysD faL fnL K) : ∃ a fd, FunD K d_both_in.nm d_both_in.nm (defArgs d_both_in.st) (defBody d_both_in.st) (defScope d_both_in.st) [] [] a fd ∧ mg d_both_in.nm = some (.ref a) ∧ Binds K fd d_both_in.ps [] := by
  obtain ⟨fd, F⟩ := c.def_ 16 (d := dd "both_in" 26) rfl
  exact ⟨_, fd, F, He.glo_ok X G (c.fact 16 (f := .glo "both_in") rfl), FunD.bindsN F fun _ _ _ _ _ _ us hl => match us, hl with | [_, _, _, _], _ => rfl⟩
theorem e_both (X : K.In h) (G : h.Ns mainGlobals mg) (c : He.SaysD faL fnL K) : ∃ a fd, FunD K d_both.nm d_both.nm (defArgs d_both.st) (defBody d_both.st) (defScope d_both.st) [] [] a fd ∧ mg d_both.nm = some (.ref a) ∧ Binds K fd d_both.ps [] := by
  obtain ⟨fd, F⟩ := c.def_ 17 (d := dd "both" 27) rfl
  exact ⟨_, fd, F, He.glo_ok X G (c.fact 17 (f := .glo "both") rfl), FunD.bindsN F fun _ _ _ _ _ _ us hl => match us, hl with | [_, _, _], _ => rfl⟩
theorem e_both_table (X : K.In h) (G : h.Ns mainGlobals mg) (c : He.SaysD faL fnL K) : ∃ a fd, FunD K d_both_table.nm d_both_table.nm (defArgs d_both_table.st) (defBody d_both_table.st) (defScope d_both_table.st) [] [] a fd ∧ mg d_both_table.nm = some (.ref a) ∧ Binds K fd d_both_table.ps [] := by
  obtain ⟨fd, F⟩ := c.def_ 18 (d := dd "both_table" 28) rfl
  exact ⟨_, fd, F, He.glo_ok X G (c.fact 18 (f := .glo "both_table") rfl), FunD.bindsN F fun _ _ _ _ _ _ us hl => match us, hl with | [_], _ => rfl⟩
theorem e_folded (X : K.In h) (G : h.Ns mainGlobals mg) (c : He.SaysD faL fnL K) : ∃ a fd, FunD K d_folded.nm d_folded.nm (defArgs d_folded.st) (defBody d_folded.st) (defScope d_folded.st) [] [] a fd ∧ mg d_folded.nm = some (.ref a) ∧ Binds K fd d_folded.ps [] := by
  obtain ⟨fd, F⟩ := c.def_ 19 (d := dd "folded" 29) rfl
  exact ⟨_, fd, F, He.glo_ok X G (c.fact 19 (f := .glo "folded") rfl), FunD.bindsN F fun _ _ _ _ _ _ us hl => match us, hl with | [_, _], _ => rfl⟩
theorem e_all_both (X : K.In h) (G : h.Ns mainGlobals mg) (c : He.SaysD faL fnL K) : ∃ a fd, FunD K d_all_both.nm d_all_both.nm (defArgs d_all_both.st) (defBody d_all_both.st) (defScope d_all_both.st) [] [] a fd ∧ mg d_all_both.nm = some (.ref a) ∧ Binds K fd d_all_both.ps [] := by
  obtain ⟨fd, F⟩ := c.def_ 20 (d := dd "all_both" 30) rfl
  exact ⟨_, fd, F, He.glo_ok X G (c.fact 20 (f := .glo "all_both") rfl), FunD.bindsN F fun _ _ _ _ _ _ us hl => match us, hl with | [_, _], _ => rfl⟩
theorem e_both_times (X : K.In h) (G : h.Ns mainGlobals mg) (c : He.SaysD faL fnL K) : ∃ a fd, FunD K d_both_times.nm d_both_times.nm (defArgs d_both_times.st) (defBody d_both_times.st) (defScope d_both_times.st) [] [] a fd ∧ mg d_both_times.nm = some (.ref a) ∧ Binds K fd d_both_times.ps [] := by
  obtain ⟨fd, F⟩ := c.def_ 21 (d := dd "both_times" 31) rfl
  exact ⟨_, fd, F, He.glo_ok X G (c.fact 21 (f := .glo "both_times") rfl), FunD.bindsN F fun _ _ _ _ _ _ us hl => match us, hl with | [_, _, _], _ => rfl⟩
theorem e_is_both (X : K.In h) (G : h.Ns mainGlobals mg) (c : He.SaysD faL fnL K) : ∃ a fd, FunD K d_is_both.nm d_is_both.nm (defArgs d_is_both.st) (defBody d_is_both.st) (defScope d_is_both.st) [] [] a fd ∧ mg d_is_both.nm = some (.ref a) ∧ Binds K fd d_is_both.ps [] := by
  obtain ⟨fd, F⟩ := c.def_ 22 (d := dd "is_both" 32) rfl
  exact ⟨_, fd, F, He.glo_ok X G (c.fact 22 (f := .glo "is_both") rfl), FunD.bindsN F fun _ _ _ _ _ _ us hl => match us, hl with | [_, _, _, _], _ => rfl⟩
theorem e_laws_of_both (X : K.In h) (G : h.Ns mainGlobals mg) (c : He.SaysD faL fnL K) : ∃ a fd, FunD K d_laws_of_both.nm d_laws_of_both.nm (defArgs d_laws_of_both.st) (defBody d_laws_of_both.st) (defScope d_laws_of_both.st) [] [] a fd ∧ mg d_laws_of_both.nm = some (.ref a) ∧ Binds K fd d_laws_of_both.ps [] := by
  obtain ⟨fd, F⟩ := c.def_ 23 (d := dd "laws_of_both" 33) rfl
  exact ⟨_, fd, F, He.glo_ok X G (c.fact 23 (f := .glo "laws_of_both") rfl), FunD.bindsN F fun _ _ _ _ _ _ us hl => match us, hl with | [_, _, _, _], _ => rfl⟩
theorem e_fixed_by (X : K.In h) (G : h.Ns mainGlobals mg) (c : He.SaysD faL fnL K) : ∃ a fd, FunD K d_fixed_by.nm d_fixed_by.nm (defArgs d_fixed_by.st) (defBody d_fixed_by.st) (defScope d_fixed_by.st) [] [] a fd ∧ mg d_fixed_by.nm = some (.ref a) ∧ Binds K fd d_fixed_by.ps [] := by
  obtain ⟨fd, F⟩ := c.def_ 24 (d := dd "fixed_by" 34) rfl
  exact ⟨_, fd, F, He.glo_ok X G (c.fact 24 (f := .glo "fixed_by") rfl), FunD.bindsN F fun _ _ _ _ _ _ us hl => match us, hl with | [_, _], _ => rfl⟩
theorem e_sure_listed (X : K.In h) (G : h.Ns mainGlobals mg) (c : He.SaysD faL fnL K) : ∃ a fd, FunD K d_sure_listed.nm d_sure_listed.nm (defArgs d_sure_listed.st) (defBody d_sure_listed.st) (defScope d_sure_listed.st) [] [] a fd ∧ mg d_sure_listed.nm = some (.ref a) ∧ Binds K fd d_sure_listed.ps [] := by
  obtain ⟨fd, F⟩ := c.def_ 25 (d := dd "sure_listed" 37) rfl
  exact ⟨_, fd, F, He.glo_ok X G (c.fact 25 (f := .glo "sure_listed") rfl), FunD.bindsN F fun _ _ _ _ _ _ us hl => match us, hl with | [_], _ => rfl⟩
theorem e_periods (X : K.In h) (G : h.Ns mainGlobals mg) (c : He.SaysD faL fnL K) : ∃ a fd, FunD K d_periods.nm d_periods.nm (defArgs d_periods.st) (defBody d_periods.st) (defScope d_periods.st) [] [] a fd ∧ mg d_periods.nm = some (.ref a) ∧ Binds K fd d_periods.ps [] := by
  obtain ⟨fd, F⟩ := c.def_ 26 (d := dd "periods" 38) rfl
  exact ⟨_, fd, F, He.glo_ok X G (c.fact 26 (f := .glo "periods") rfl), FunD.bindsN F fun _ _ _ _ _ _ us hl => match us, hl with | [_], _ => rfl⟩
theorem e_divided (X : K.In h) (G : h.Ns mainGlobals mg) (c : He.SaysD faL fnL K) : ∃ a fd, FunD K d_divided.nm d_divided.nm (defArgs d_divided.st) (defBody d_divided.st) (defScope d_divided.st) [] [] a fd ∧ mg d_divided.nm = some (.ref a) ∧ Binds K fd d_divided.ps [] := by
  obtain ⟨fd, F⟩ := c.def_ 27 (d := dd "divided" 39) rfl
  exact ⟨_, fd, F, He.glo_ok X G (c.fact 27 (f := .glo "divided") rfl), FunD.bindsN F fun _ _ _ _ _ _ us hl => match us, hl with | [_, _, _], _ => rfl⟩
theorem e_comes_behind (X : K.In h) (G : h.Ns mainGlobals mg) (c : He.SaysD faL fnL K) : ∃ a fd, FunD K d_comes_behind.nm d_comes_behind.nm (defArgs d_comes_behind.st) (defBody d_comes_behind.st) (defScope d_comes_behind.st) [] [] a fd ∧ mg d_comes_behind.nm = some (.ref a) ∧ Binds K fd d_comes_behind.ps [] := by
  obtain ⟨fd, F⟩ := c.def_ 28 (d := dd "comes_behind" 40) rfl
  exact ⟨_, fd, F, He.glo_ok X G (c.fact 28 (f := .glo "comes_behind") rfl), FunD.bindsN F fun _ _ _ _ _ _ us hl => match us, hl with | [_, _, _], _ => rfl⟩
theorem e_sure_below (X : K.In h) (G : h.Ns mainGlobals mg) (c : He.SaysD faL fnL K) : ∃ a fd, FunD K d_sure_below.nm d_sure_below.nm (defArgs d_sure_below.st) (defBody d_sure_below.st) (defScope d_sure_below.st) [] [] a fd ∧ mg d_sure_below.nm = some (.ref a) ∧ Binds K fd d_sure_below.ps [] := by
  obtain ⟨fd, F⟩ := c.def_ 29 (d := dd "sure_below" 44) rfl
  exact ⟨_, fd, F, He.glo_ok X G (c.fact 29 (f := .glo "sure_below") rfl), FunD.bindsN F fun _ _ _ _ _ _ us hl => match us, hl with | [_], _ => rfl⟩
theorem e_lowered_in (X : K.In h) (G : h.Ns mainGlobals mg) (c : He.SaysD faL fnL K) : ∃ a fd, FunD K d_lowered_in.nm d_lowered_in.nm (defArgs d_lowered_in.st) (defBody d_lowered_in.st) (defScope d_lowered_in.st) [] [] a fd ∧ mg d_lowered_in.nm = some (.ref a) ∧ Binds K fd d_lowered_in.ps [] := by
  obtain ⟨fd, F⟩ := c.def_ 30 (d := dd "lowered_in" 45) rfl
  exact ⟨_, fd, F, He.glo_ok X G (c.fact 30 (f := .glo "lowered_in") rfl), FunD.bindsN F fun _ _ _ _ _ _ us hl => match us, hl with | [_, _], _ => rfl⟩
theorem e_lowered (X : K.In h) (G : h.Ns mainGlobals mg) (c : He.SaysD faL fnL K) : ∃ a fd, FunD K d_lowered.nm d_lowered.nm (defArgs d_lowered.st) (defBody d_lowered.st) (defScope d_lowered.st) [] [] a fd ∧ mg d_lowered.nm = some (.ref a) ∧ Binds K fd d_lowered.ps [] := by
  obtain ⟨fd, F⟩ := c.def_ 31 (d := dd "lowered" 46) rfl
  exact ⟨_, fd, F, He.glo_ok X G (c.fact 31 (f := .glo "lowered") rfl), FunD.bindsN F fun _ _ _ _ _ _ us hl => match us, hl with | [_, _], _ => rfl⟩
theorem e_is_bush_in (X : K.In h) (G : h.Ns mainGlobals mg) (c : He.SaysD faL fnL K) : ∃ a fd, FunD K d_is_bush_in.nm d_is_bush_in.nm (defArgs d_is_bush_in.st) (defBody d_is_bush_in.st) (defScope d_is_bush_in.st) [] [] a fd ∧ mg d_is_bush_in.nm = some (.ref a) ∧ Binds K fd d_is_bush_in.ps [] := by
  obtain ⟨fd, F⟩ := c.def_ 32 (d := dd "is_bush_in" 48) rfl
  exact ⟨_, fd, F, He.glo_ok X G (c.fact 32 (f := .glo "is_bush_in") rfl), FunD.bindsN F fun _ _ _ _ _ _ us hl => match us, hl with | [_], _ => rfl⟩
theorem e_sure_bush (X : K.In h) (G : h.Ns mainGlobals mg) (c : He.SaysD faL fnL K) : ∃ a fd, FunD K d_sure_bush.nm d_sure_bush.nm (defArgs d_sure_bush.st) (defBody d_sure_bush.st) (defScope d_sure_bush.st) [] [] a fd ∧ mg d_sure_bush.nm = some (.ref a) ∧ Binds K fd d_sure_bush.ps [] := by
  obtain ⟨fd, F⟩ := c.def_ 33 (d := dd "sure_bush" 49) rfl
  exact ⟨_, fd, F, He.glo_ok X G (c.fact 33 (f := .glo "sure_bush") rfl), FunD.bindsN F fun _ _ _ _ _ _ us hl => match us, hl with | [_], _ => rfl⟩
theorem e_worth_by (X : K.In h) (G : h.Ns mainGlobals mg) (c : He.SaysD faL fnL K) : ∃ a fd, FunD K d_worth_by.nm d_worth_by.nm (defArgs d_worth_by.st) (defBody d_worth_by.st) (defScope d_worth_by.st) [] [] a fd ∧ mg d_worth_by.nm = some (.ref a) ∧ Binds K fd d_worth_by.ps [] := by
  obtain ⟨fd, F⟩ := c.def_ 34 (d := dd "worth_by" 51) rfl
  exact ⟨_, fd, F, He.glo_ok X G (c.fact 34 (f := .glo "worth_by") rfl), FunD.bindsN F fun _ _ _ _ _ _ us hl => match us, hl with | [_, _], _ => rfl⟩
theorem e_worth (X : K.In h) (G : h.Ns mainGlobals mg) (c : He.SaysD faL fnL K) : ∃ a fd, FunD K d_worth.nm d_worth.nm (defArgs d_worth.st) (defBody d_worth.st) (defScope d_worth.st) [] [] a fd ∧ mg d_worth.nm = some (.ref a) ∧ Binds K fd d_worth.ps [] := by
  obtain ⟨fd, F⟩ := c.def_ 35 (d := dd "worth" 52) rfl
  exact ⟨_, fd, F, He.glo_ok X G (c.fact 35 (f := .glo "worth") rfl), FunD.bindsN F fun _ _ _ _ _ _ us hl => match us, hl with | [_, _], _ => rfl⟩
theorem e__law_box (X : K.In h) (G : h.Ns mainGlobals mg) (c : He.SaysD faL fnL K) : ∃ a fd, FunD K d__law_box.nm d__law_box.nm (defArgs d__law_box.st) (defBody d__law_box.st) (defScope d__law_box.st) [] [] a fd ∧ mg d__law_box.nm = some (.ref a) ∧ Binds K fd d__law_box.ps [] := by
  obtain ⟨fd, F⟩ := c.def_ 36 (d := dd "_law_box" 54) rfl
  exact ⟨_, fd, F, He.glo_ok X G (c.fact 36 (f := .glo "_law_box") rfl), FunD.bindsN F fun _ _ _ _ _ _ us hl => match us, hl with | [_, _], _ => rfl⟩
theorem e__law_take (X : K.In h) (G : h.Ns mainGlobals mg) (c : He.SaysD faL fnL K) : ∃ a fd, FunD K d__law_take.nm d__law_take.nm (defArgs d__law_take.st) (defBody d__law_take.st) (defScope d__law_take.st) [] [] a fd ∧ mg d__law_take.nm = some (.ref a) ∧ Binds K fd d__law_take.ps [] := by
  obtain ⟨fd, F⟩ := c.def_ 37 (d := dd "_law_take" 55) rfl
  exact ⟨_, fd, F, He.glo_ok X G (c.fact 37 (f := .glo "_law_take") rfl), FunD.bindsN F fun _ _ _ _ _ _ us hl => match us, hl with | [_, _], _ => rfl⟩
theorem e__law_cells (X : K.In h) (G : h.Ns mainGlobals mg) (c : He.SaysD faL fnL K) : ∃ a fd, FunD K d__law_cells.nm d__law_cells.nm (defArgs d__law_cells.st) (defBody d__law_cells.st) (defScope d__law_cells.st) [] [] a fd ∧ mg d__law_cells.nm = some (.ref a) ∧ Binds K fd d__law_cells.ps [] := by
  obtain ⟨fd, F⟩ := c.def_ 38 (d := dd "_law_cells" 56) rfl
  exact ⟨_, fd, F, He.glo_ok X G (c.fact 38 (f := .glo "_law_cells") rfl), FunD.bindsN F fun _ _ _ _ _ _ us hl => match us, hl with | [_, _], _ => rfl⟩
theorem e__law_same (X : K.In h) (G : h.Ns mainGlobals mg) (c : He.SaysD faL fnL K) : ∃ a fd, FunD K d__law_same.nm d__law_same.nm (defArgs d__law_same.st) (defBody d__law_same.st) (defScope d__law_same.st) [] [] a fd ∧ mg d__law_same.nm = some (.ref a) ∧ Binds K fd d__law_same.ps [] := by
  obtain ⟨fd, F⟩ := c.def_ 39 (d := dd "_law_same" 57) rfl
  exact ⟨_, fd, F, He.glo_ok X G (c.fact 39 (f := .glo "_law_same") rfl), FunD.bindsN F fun _ _ _ _ _ _ us hl => match us, hl with | [_, _], _ => rfl⟩
theorem e__law_net (X : K.In h) (G : h.Ns mainGlobals mg) (c : He.SaysD faL fnL K) : ∃ a fd, FunD K d__law_net.nm d__law_net.nm (defArgs d__law_net.st) (defBody d__law_net.st) (defScope d__law_net.st) [] [] a fd ∧ mg d__law_net.nm = some (.ref a) ∧ Binds K fd d__law_net.ps [] := by
  obtain ⟨fd, F⟩ := c.def_ 40 (d := dd "_law_net" 58) rfl
  exact ⟨_, fd, F, He.glo_ok X G (c.fact 40 (f := .glo "_law_net") rfl), FunD.bindsN F fun _ _ _ _ _ _ us hl => match us, hl with | [_, _], _ => rfl⟩
theorem e__law_table (X : K.In h) (G : h.Ns mainGlobals mg) (c : He.SaysD faL fnL K) : ∃ a fd, FunD K d__law_table.nm d__law_table.nm (defArgs d__law_table.st) (defBody d__law_table.st) (defScope d__law_table.st) [] [] a fd ∧ mg d__law_table.nm = some (.ref a) ∧ Binds K fd d__law_table.ps [] := by
  obtain ⟨fd, F⟩ := c.def_ 41 (d := dd "_law_table" 59) rfl
  exact ⟨_, fd, F, He.glo_ok X G (c.fact 41 (f := .glo "_law_table") rfl), FunD.bindsN F fun _ _ _ _ _ _ us hl => match us, hl with | [_], _ => rfl⟩
theorem e__law_more_right (X : K.In h) (G : h.Ns mainGlobals mg) (c : He.SaysD faL fnL K) : ∃ a fd, FunD K d__law_more_right.nm d__law_more_right.nm (defArgs d__law_more_right.st) (defBody d__law_more_right.st) (defScope d__law_more_right.st) [] [] a fd ∧ mg d__law_more_right.nm = some (.ref a) ∧ Binds K fd d__law_more_right.ps [] := by
  obtain ⟨fd, F⟩ := c.def_ 42 (d := dd "_law_more_right" 60) rfl
  exact ⟨_, fd, F, He.glo_ok X G (c.fact 42 (f := .glo "_law_more_right") rfl), FunD.bindsN F fun _ _ _ _ _ _ us hl => match us, hl with | [_, _, _, _, _, _, _, _], _ => rfl⟩
theorem e__law_right (X : K.In h) (G : h.Ns mainGlobals mg) (c : He.SaysD faL fnL K) : ∃ a fd, FunD K d__law_right.nm d__law_right.nm (defArgs d__law_right.st) (defBody d__law_right.st) (defScope d__law_right.st) [] [] a fd ∧ mg d__law_right.nm = some (.ref a) ∧ Binds K fd d__law_right.ps [] := by
  obtain ⟨fd, F⟩ := c.def_ 43 (d := dd "_law_right" 61) rfl
  exact ⟨_, fd, F, He.glo_ok X G (c.fact 43 (f := .glo "_law_right") rfl), FunD.bindsN F fun _ _ _ _ _ _ us hl => match us, hl with | [_], _ => rfl⟩
theorem e_law (X : K.In h) (G : h.Ns mainGlobals mg) (c : He.SaysD faL fnL K) : ∃ a fd, FunD K d_law.nm d_law.nm (defArgs d_law.st) (defBody d_law.st) (defScope d_law.st) [] [] a fd ∧ mg d_law.nm = some (.ref a) ∧ Binds K fd d_law.ps [] := by
  obtain ⟨fd, F⟩ := c.def_ 44 (d := dd "law" 62) rfl
  exact ⟨_, fd, F, He.glo_ok X G (c.fact 44 (f := .glo "law") rfl), FunD.bindsN F fun _ _ _ _ _ _ us hl => match us, hl with | [_], _ => rfl⟩
theorem mem_defs {C : Df → Prop} (h0 : C d_is_number) (h1 : C d_is_among) (h2 : C d_is_long) (h3 : C d_tupled) (h4 : C d_sure_number) (h5 : C d_rows_in) (h6 : C d_product_in) (h7 : C d_sure_level) (h8 : C d_sure_in) (h9 : C d_sure_all_in) (h10 : C d_whole_in) (h11 : C d_times) (h12 : C d_table_row) (h13 : C d_period) (h14 : C d_whole_table) (h15 : C d_spreads_at) (h16 : C d_both_in) (h17 : C d_both) (h18 : C d_both_table) (h19 : C d_folded) (h20 : C d_all_both) (h21 : C d_both_times) (h22 : C d_is_both) (h23 : C d_laws_of_both) (h24 : C d_fixed_by) (h25 : C d_sure_listed) (h26 : C d_periods) (h27 : C d_divided) (h28 : C d_comes_behind) (h29 : C d_sure_below) (h30 : C d_lowered_in) (h31 : C d_lowered) (h32 : C d_is_bush_in) (h33 : C d_sure_bush) (h34 : C d_worth_by) (h35 : C d_worth) (h36 : C d__law_box) (h37 : C d__law_take) (h38 : C d__law_cells) (h39 : C d__law_same) (h40 : C d__law_net) (h41 : C d__law_table) (h42 : C d__law_more_right) (h43 : C d__law_right) (h44 : C d_law) : ∀ d ∈ defs, C d := by
  intro d hd
  unfold defs at hd
  simp only [List.mem_cons, List.not_mem_nil, or_false] at hd
  rcases hd with rfl | rfl | rfl | rfl | rfl | rfl | rfl | rfl | rfl | rfl | rfl | rfl | rfl | rfl | rfl | rfl | rfl | rfl | rfl | rfl | rfl | rfl | rfl | rfl | rfl | rfl | rfl | rfl | rfl | rfl | rfl | rfl | rfl | rfl | rfl | rfl | rfl | rfl | rfl | rfl | rfl | rfl | rfl | rfl | rfl
  · exact h0
  · exact h1
  · exact h2
  · exact h3
  · exact h4
  · exact h5
  · exact h6
  · exact h7
  · exact h8
  · exact h9
  · exact h10
  · exact h11
  · exact h12
  · exact h13
  · exact h14
  · exact h15
  · exact h16
  · exact h17
  · exact h18
  · exact h19
  · exact h20
  · exact h21
  · exact h22
  · exact h23
  · exact h24
  · exact h25
  · exact h26
  · exact h27
  · exact h28
  · exact h29
  · exact h30
  · exact h31
  · exact h32
  · exact h33
  · exact h34
  · exact h35
  · exact h36
  · exact h37
  · exact h38
  · exact h39
  · exact h40
  · exact h41
  · exact h42
  · exact h43
  · exact h44
theorem ents (X : K.In h) (G : h.Ns mainGlobals mg) (c : He.SaysD faL fnL K) : ∀ d ∈ defs, ∃ a fd, FunD K d.nm d.nm (defArgs d.st) (defBody d.st) (defScope d.st) [] [] a fd ∧ mg d.nm = some (.ref a) ∧ Binds K fd d.ps [] := mem_defs (e_is_number X G c) (e_is_among X G c) (e_is_long X G c) (e_tupled X G c) (e_sure_number X G c) (e_rows_in X G c) (e_product_in X G c) (e_sure_level X G c) (e_sure_in X G c) (e_sure_all_in X G c) (e_whole_in X G c) (e_times X G c) (e_table_row X G c) (e_period X G c) (e_whole_table X G c) (e_spreads_at X G c) (e_both_in X G c) (e_both X G c) (e_both_table X G c) (e_folded X G c) (e_all_both X G c) (e_both_times X G c) (e_is_both X G c) (e_laws_of_both X G c) (e_fixed_by X G c) (e_sure_listed X G c) (e_periods X G c) (e_divided X G c) (e_comes_behind X G c) (e_sure_below X G c) (e_lowered_in X G c) (e_lowered X G c) (e_is_bush_in X G c) (e_sure_bush X G c) (e_worth_by X G c) (e_worth X G c) (e__law_box X G c) (e__law_take X G c) (e__law_cells X G c) (e__law_same X G c) (e__law_net X G c) (e__law_table X G c) (e__law_more_right X G c) (e__law_right X G c) (e_law X G c)
theorem chks : ∀ d ∈ defs, chkDf tab d = true := mem_defs c_is_number c_is_among c_is_long c_tupled c_sure_number c_rows_in c_product_in c_sure_level c_sure_in c_sure_all_in c_whole_in c_times c_table_row c_period c_whole_table c_spreads_at c_both_in c_both c_both_table c_folded c_all_both c_both_times c_is_both c_laws_of_both c_fixed_by c_sure_listed c_periods c_divided c_comes_behind c_sure_below c_lowered_in c_lowered c_is_bush_in c_sure_bush c_worth_by c_worth c__law_box c__law_take c__law_cells c__law_same c__law_net c__law_table c__law_more_right c__law_right c_law
theorem progs : ∀ d ∈ defs, Ir.prog d.nm = some d.fn := mem_defs (by kernel_rfl) (by kernel_rfl) (by kernel_rfl) (by kernel_rfl) (by kernel_rfl) (by kernel_rfl) (by kernel_rfl) (by kernel_rfl) (by kernel_rfl) (by kernel_rfl) (by kernel_rfl) (by kernel_rfl) (by kernel_rfl) (by kernel_rfl) (by kernel_rfl) (by kernel_rfl) (by kernel_rfl) (by kernel_rfl) (by kernel_rfl) (by kernel_rfl) (by kernel_rfl) (by kernel_rfl) (by kernel_rfl) (by kernel_rfl) (by kernel_rfl) (by kernel_rfl) (by kernel_rfl) (by kernel_rfl) (by kernel_rfl) (by kernel_rfl) (by kernel_rfl) (by kernel_rfl) (by kernel_rfl) (by kernel_rfl) (by kernel_rfl) (by kernel_rfl) (by kernel_rfl) (by kernel_rfl) (by kernel_rfl) (by kernel_rfl) (by kernel_rfl) (by kernel_rfl) (by kernel_rfl) (by kernel_rfl) (by kernel_rfl)
theorem fns_in : ∀ p ∈ tab.fns, ∃ d ∈ defs, d.nm = p.1 ∧ d.ps.length = p.2 := by
  have h : (tab.fns.all fun p => defs.any fun d => decide (d.nm = p.1) && decide (d.ps.length = p.2)) = true := by decide +kernel
  intro p hp
  obtain ⟨d, hd, e⟩ := List.any_eq_true.mp (List.all_eq_true.mp h p hp)
  obtain ⟨e1, e2⟩ := and_t e
  exact ⟨d, hd, of_decide_eq_true e1, of_decide_eq_true e2⟩
theorem cs_in (X : K.In h) (G : h.Ns mainGlobals mg) (c : He.SaysD faL fnL K) : ∀ p ∈ tab.cs, ∃ tk, mg p.1 = some (.int p.2 tk) := by
  intro p hp
  unfold tab at hp
  simp only [List.mem_cons, List.not_mem_nil, or_false] at hp
  rcases hp with rfl | rfl | rfl | rfl | rfl | rfl | rfl
  · exact He.int_ok X G (c.fact 45 (f := .int "MOST_LEVEL" 12) rfl)
  · exact He.int_ok X G (c.fact 46 (f := .int "MOST_WHOLE" 6) rfl)
  · exact He.int_ok X G (c.fact 47 (f := .int "MOST_TABLE" 6) rfl)
  · exact He.int_ok X G (c.fact 48 (f := .int "MOST_TIMES" 1000) rfl)
  · exact He.int_ok X G (c.fact 49 (f := .int "MOST_LISTED" 10) rfl)
  · exact He.int_ok X G (c.fact 50 (f := .int "MOST_BELOW" 11) rfl)
  · exact He.int_ok X G (c.fact 51 (f := .int "MOST_NUMBER" 4096) rfl)
theorem fr_in (X : K.In h) (G : h.Ns mainGlobals mg) (c : He.SaysD faL fnL K) : ∀ x ∈ tab.fr, mg x = none := by
  intro x hx
  unfold tab at hx
  simp only [List.mem_cons, List.not_mem_nil, or_false] at hx
  rcases hx with rfl | rfl | rfl | rfl | rfl | rfl | rfl | rfl | rfl | rfl | rfl | rfl | rfl | rfl
  · exact He.free_ok X G (c.fact 52 (f := .free "ValueError") rfl)
  · exact He.free_ok X G (c.fact 53 (f := .free "abs") rfl)
  · exact He.free_ok X G (c.fact 54 (f := .free "all") rfl)
  · exact He.free_ok X G (c.fact 55 (f := .free "bool") rfl)
  · exact He.free_ok X G (c.fact 56 (f := .free "enumerate") rfl)
  · exact He.free_ok X G (c.fact 57 (f := .free "int") rfl)
  · exact He.free_ok X G (c.fact 58 (f := .free "isinstance") rfl)
  · exact He.free_ok X G (c.fact 59 (f := .free "len") rfl)
  · exact He.free_ok X G (c.fact 60 (f := .free "list") rfl)
  · exact He.free_ok X G (c.fact 61 (f := .free "min") rfl)
  · exact He.free_ok X G (c.fact 62 (f := .free "range") rfl)
  · exact He.free_ok X G (c.fact 63 (f := .free "str") rfl)
  · exact He.free_ok X G (c.fact 64 (f := .free "tuple") rfl)
  · exact He.free_ok X G (c.fact 65 (f := .free "zip") rfl)
end
abbrev RR : PySem.W.OpenRow := PySem.W.OpenLaw.row PySem.Challenge.rw_leftspread_k72_across_both_as_doing_twic
abbrev hk : PySem.W.Hook := He.hookD 4 faL fnL
def ob (s : PySem.W.SharedT) : He.AlD := He.obsDG 4 faL fnL (HandSHeadRun.getT s)
theorem ob_eq (s : PySem.W.SharedT) : ob s = hk.obs s.abs := He.obsDG_eq (HandSHeadRun.getT_eq s)
theorem run (w : World) : HandSHeadRun.RunEq RR (PySem.W.view RR.prog [lawI]) hk ob 4000 looseL w := by
  intro os
  kernel_rfl
end Hd
open PySem PySem.W PySem.Calls PyProof.Rows in
theorem holds_of (kk : Nat) (hr : L2.Room kk callerA) (pure_law : ∀ ns : List Int, ns.length ≤ 63 → ∃ outs, Pv.Ph Ir.prog kk "law" [.s ns] = some (.v (.bool true), outs)) : PySem.Challenge.rw_leftspread_k72_across_both_as_doing_twic.Holds := by
  w_on; o_law
  refine HandSHeadRun.head_any (r := Hd.RR) (q := view Hd.RR.prog [Hd.lawI]) (H := Hd.hk) (ob := Hd.ob) (M := 4000) (loose := Hd.looseL) (d := HandSHeadRun.topDef Hd.RR.prog Hd.lawI) (kwd := []) Hd.ob_eq
    (by kernel_rfl) (fun s => by kernel_rfl) Hd.run (by kernel_rfl) (by kernel_rfl) (by kernel_rfl) (by rfl) (by first | assumption | decide +kernel) (by decide +kernel) ⟨rfl, rfl, rfl, rfl, rfl, by decide +kernel⟩ ?hw ?hc
  case hw => w_witness2
  case hc =>
    refine L2.walk_ofE (l := PySem.Challenge.rw_leftspread_k72_across_both_as_doing_twic) (n := 63) (k := kk) (x := "script") (CX := L2.CX0) rfl (by decide) (by kernel_rfl) hr ?F (fun _ _ _ _ z => z)
    intro w mg fa h Y G hmg0
    obtain ⟨K, KX, c⟩ := Y
    have hmg : mg ("law" : PySem.Str) = some (.ref fa) := by
      have e : (HandSHeadRun.topDef Hd.RR.prog Hd.lawI).name = ("law" : PySem.Str) := by kernel_rfl
      rw [← e]
      exact hmg0
    obtain ⟨a, fd, F, hm, hb⟩ := Hd.e_law KX G c
    have hb2 := L2.FunD.bindsA (ps := Hd.d_law.ps) F fun _ _ _ _ _ _ us hl => match us, hl with | [_], _ => rfl
    obtain rfl : fa = a := by
      have e := hmg.symm.trans hm
      cases e
      rfl
    refine ⟨K, fd, Pv.spF (Pv.Ph Ir.prog kk) K "law", KX, fun s v => hb2 s [v] rfl, fun H a ns hl _ hS => ?_, fun base B1 B2 => ?_⟩
    · obtain ⟨outs, e⟩ := pure_law ns hl
      exact Pv.law_sp hS e
    · exact Pv.fns_ok Hd.chks Hd.progs Hd.fns_in (Hd.cs_in KX G c) (Hd.fr_in KX G c) (Hd.ents KX G c) kk Hd.d_law (by unfold Hd.defs; simp) fa fd F
theorem PySem.Challenge.cw_leftspread_k72_across_both_as_doing_twic_holds : PySem.Challenge.rw_leftspread_k72_across_both_as_doing_twic.Holds :=
  holds_of 33 ⟨rfl, by decide, by decide⟩ fun ns hn => Ev.pure_law 0 ns hn
