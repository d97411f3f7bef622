import PyProof.Rows.All
import Wide.All
import OpenK.AllK
import Wide.FinOn
import HandS.ForMost
import HandS.Defaults
import HandS.Deep
import HandS.Flow
import HandS.Zip
import HandS.TupAny
import HandS.NoneIn
import HandS.IsInst
import HandS.SetFor
import HandS.SortInts
import HandS.WideBits
import HandS.Conv
import HandS.TupMul
import KE.KRevSl
import HandS.Star
import HandS.Small
import HandS.Style
import HandS.Strs
import HandS.More
import HandS.WordsDict
import HandS.Head0
import HandS.Head1
import HandS.Head2
import HandS.HeadEnd
import HandS.HeadHook1
import HandS.HeadHook2
import PySem.Challenge.RW_leftspread_k94_across_copies_level_by_le
set_option Elab.async false
set_option linter.all false
set_option maxRecDepth 100000
set_option maxHeartbeats 0
namespace Pv
open PySem PySem.Spec L2
/-! ## data that nobody changes, own lists, slots -/
abbrev D := PyData
mutual
/-- v stands for d; all that it reaches is tracked in F -/
inductive Rp (F : Hp) : V → D → Prop
  | non : Rp F .non .none
  | bl (b : Bool) : Rp F (.bl b) (.bool b)
  | int (i : Int) : Rp F (.int i) (.int i)
  | str (x : Str) : Rp F (.str x) (.str x)
  | lst {a : Addr} {vs : List V} {ds : List D} : F a = some (.lst vs) → RpAll F vs ds → Rp F (.ref a) (.list ds)
  | tup {a : Addr} {vs : List V} {ds : List D} : F a = some (.tup vs) → RpAll F vs ds → Rp F (.ref a) (.tuple ds)
inductive RpAll (F : Hp) : List V → List D → Prop
  | nil : RpAll F [] []
  | cons {v : V} {vs : List V} {d : D} {ds : List D} : Rp F v d → RpAll F vs ds → RpAll F (v :: vs) (d :: ds)
end
/-- what is tracked in F is tracked in H -/
def Sub (F H : Hp) : Prop := ∀ a o, F a = some o → H a = some o
theorem Sub.rfl {F : Hp} : Sub F F := fun _ _ h => h
theorem Sub.trans {F G H : Hp} (a : Sub F G) (b : Sub G H) : Sub F H := fun x o h => b x o (a x o h)
mutual
theorem Rp.mono {F G : Hp} (s : Sub F G) : ∀ {v : V} {d : D}, Rp F v d → Rp G v d
  | _, _, .non => .non
  | _, _, .bl b => .bl b
  | _, _, .int i => .int i
  | _, _, .str x => .str x
  | _, _, .lst h t => .lst (s _ _ h) (RpAll.mono s t)
  | _, _, .tup h t => .tup (s _ _ h) (RpAll.mono s t)
theorem RpAll.mono {F G : Hp} (s : Sub F G) : ∀ {vs : List V} {ds : List D}, RpAll F vs ds → RpAll G vs ds
  | _, _, .nil => .nil
  | _, _, .cons h t => .cons (Rp.mono s h) (RpAll.mono s t)
end
mutual
theorem Rp.dp {K : PySem.W.Frag} {F : Hp} : ∀ {v : V} {d : D}, Rp F v d → Dp K F v d
  | _, _, .non => .non
  | _, _, .bl b => .bl b
  | _, _, .int i => .int i
  | _, _, .str x => .str x
  | _, _, .lst h t => .lst (SqL.of h) (RpAll.dp t)
  | _, _, .tup h t => .tup (SqT.of h) (RpAll.dp t)
theorem RpAll.dp {K : PySem.W.Frag} {F : Hp} : ∀ {vs : List V} {ds : List D}, RpAll F vs ds → DpAll K F vs ds
  | _, _, .nil => .nil
  | _, _, .cons h t => .cons (Rp.dp h) (RpAll.dp t)
end
theorem RpAll.len {F : Hp} : ∀ {vs : List V} {ds : List D}, RpAll F vs ds → vs.length = ds.length
  | _, _, .nil => rfl
  | _, _, .cons _ t => congrArg (· + 1) (RpAll.len t)
theorem RpAll.get {F : Hp} : ∀ {vs : List V} {ds : List D}, RpAll F vs ds → ∀ {i : Nat} {d : D}, ds[i]? = some d → ∃ v, vs[i]? = some v ∧ Rp F v d
  | _, _, .nil, i, d, h => by simp at h
  | _, _, .cons (v := v) r t, 0, d, h => by
    simp at h
    subst h
    exact ⟨v, rfl, r⟩
  | _, _, .cons r t, i + 1, d, h => by
    obtain ⟨v, h1, h2⟩ := RpAll.get t (i := i) (d := d) (by simpa using h)
    exact ⟨v, by simpa using h1, h2⟩
theorem RpAll.getV {F : Hp} : ∀ {vs : List V} {ds : List D}, RpAll F vs ds → ∀ {i : Nat} {v : V}, vs[i]? = some v → ∃ d, ds[i]? = some d ∧ Rp F v d
  | _, _, .nil, i, d, h => by simp at h
  | _, _, .cons (d := d) r t, 0, v, h => by
    simp at h
    subst h
    exact ⟨d, rfl, r⟩
  | _, _, .cons r t, i + 1, v, h => by
    obtain ⟨d, h1, h2⟩ := RpAll.getV t (i := i) (v := v) (by simpa using h)
    exact ⟨d, by simpa using h1, h2⟩
theorem RpAll.app {F : Hp} : ∀ {vs us : List V} {ds es : List D}, RpAll F vs ds → RpAll F us es → RpAll F (vs ++ us) (ds ++ es)
  | _, _, _, _, .nil, h => h
  | _, _, _, _, .cons r t, h => .cons r (RpAll.app t h)
theorem RpAll.one {F : Hp} {v : V} {d : D} (h : Rp F v d) : RpAll F [v] [d] := .cons h .nil
theorem RpAll.take {F : Hp} : ∀ {vs : List V} {ds : List D} (n : Nat), RpAll F vs ds → RpAll F (vs.take n) (ds.take n)
  | _, _, 0, _ => .nil
  | _, _, _ + 1, .nil => .nil
  | _, _, n + 1, .cons r t => .cons r (RpAll.take n t)
theorem RpAll.drop {F : Hp} : ∀ {vs : List V} {ds : List D} (n : Nat), RpAll F vs ds → RpAll F (vs.drop n) (ds.drop n)
  | _, _, 0, h => h
  | _, _, _ + 1, .nil => .nil
  | _, _, n + 1, .cons r t => RpAll.drop n t
theorem RpAll.rev {F : Hp} : ∀ {vs : List V} {ds : List D}, RpAll F vs ds → RpAll F vs.reverse ds.reverse
  | _, _, .nil => .nil
  | _, _, .cons r t => by
    rw [List.reverse_cons, List.reverse_cons]
    exact (RpAll.rev t).app (.one r)
theorem RpAll.set {F : Hp} : ∀ {vs : List V} {ds : List D} (i : Nat) {v : V} {d : D}, RpAll F vs ds → Rp F v d → RpAll F (vs.set i v) (ds.set i d)
  | _, _, _, _, _, .nil, _ => .nil
  | _, _, 0, _, _, .cons _ t, h => .cons h t
  | _, _, i + 1, _, _, .cons r t, h => .cons r (RpAll.set i t h)
theorem RpAll.eraseIdx {F : Hp} : ∀ {vs : List V} {ds : List D} (i : Nat), RpAll F vs ds → RpAll F (vs.eraseIdx i) (ds.eraseIdx i)
  | _, _, _, .nil => .nil
  | _, _, 0, .cons _ t => t
  | _, _, i + 1, .cons r t => .cons r (RpAll.eraseIdx i t)
theorem RpAll.dropLast {F : Hp} {vs : List V} {ds : List D} (h : RpAll F vs ds) : RpAll F vs.dropLast ds.dropLast := by
  rw [List.dropLast_eq_take, List.dropLast_eq_take, h.len]
  exact h.take _
theorem RpAll.rep {F : Hp} {vs : List V} {ds : List D} (h : RpAll F vs ds) : ∀ k : Nat, RpAll F (List.replicate k vs).flatten (List.replicate k ds).flatten
  | 0 => .nil
  | k + 1 => by
    rw [List.replicate_succ, List.replicate_succ, List.flatten_cons, List.flatten_cons]
    exact h.app (RpAll.rep h k)
theorem RpAll.ints {F : Hp} : ∀ {vs : List V} {ns : List Int}, RpAll F vs (ns.map PyData.int) → vs = ns.map V.int
  | vs, [], h => by
    cases h
    rfl
  | vs, n :: ns, h => by
    cases h with
    | cons r t =>
      cases r
      rw [RpAll.ints t]
      rfl
theorem RpAll.bools {F : Hp} : ∀ {vs : List V} {ns : List Bool}, RpAll F vs (ns.map PyData.bool) → vs = ns.map V.bl
  | vs, [], h => by
    cases h
    rfl
  | vs, n :: ns, h => by
    cases h with
    | cons r t =>
      cases r
      rw [RpAll.bools t]
      rfl
theorem RpAll.ofInts {F : Hp} : ∀ ns : List Int, RpAll F (ns.map V.int) (ns.map PyData.int)
  | [] => .nil
  | n :: ns => .cons (.int n) (RpAll.ofInts ns)
/-- a dict's pairs; a key is a row of ints -/
abbrev MP := List (List Int × D)
/-- what a slot (or a step's value) is: data; a list that it alone holds; the script; a dict that it alone holds (keys: ints; tuples of ints) -/
inductive R where
  | v (d : D)
  | l (xs : List D)
  | s (ns : List Int)
  | m (t : Bool) (kvs : MP)
def R.own : R → Bool
  | .l _ => true
  | .m _ _ => true
  | _ => false
/-- pairs that stand for pairs -/
inductive MRel {κ : Type} (e : List Int → κ) (F : Hp) : List (κ × V) → MP → Prop
  | nil : MRel e F [] []
  | cons {k : List Int} {v : V} {d : D} {ks : List (κ × V)} {kvs : MP} : Rp F v d → MRel e F ks kvs → MRel e F ((e k, v) :: ks) ((k, d) :: kvs)
theorem MRel.mono {κ : Type} {e : List Int → κ} {F G : Hp} (s : Sub F G) : ∀ {ks : List (κ × V)} {kvs : MP}, MRel e F ks kvs → MRel e G ks kvs
  | _, _, .nil => .nil
  | _, _, .cons h t => .cons (Rp.mono s h) (MRel.mono s t)
def kInt (k : List Int) : Key := Sum.inl (k.headD 0)
def kTup (k : List Int) : List Key := k.map Sum.inl
def RepM (F : Hp) (t : Bool) (o : HO) (kvs : MP) : Prop := match t with
  | false => ∃ ks, o = .dK ks ∧ MRel kInt F ks kvs ∧ ∀ p ∈ kvs, ∃ z, p.1 = [z]
  | true => ∃ ks, o = .dT ks ∧ MRel kTup F ks kvs
theorem RepM.mono {F G : Hp} (s : Sub F G) {t : Bool} {o : HO} {kvs : MP} (h : RepM F t o kvs) : RepM G t o kvs := by
  cases t with
  | false =>
    obtain ⟨ks, e, h1, h2⟩ := h
    exact ⟨ks, e, h1.mono s, h2⟩
  | true =>
    obtain ⟨ks, e, h1⟩ := h
    exact ⟨ks, e, h1.mono s⟩
def RepR (K : PySem.W.Frag) (F H : Hp) (x : V) : R → Prop
  | .v d => Rp F x d
  | .l xs => ∃ a vs, x = .ref a ∧ H a = some (.lst vs) ∧ RpAll F vs xs ∧ F a = none
  | .s ns => ∃ a, x = .ref a ∧ SqL K F a (ns.map V.int)
  | .m t kvs => ∃ a o, x = .ref a ∧ H a = some o ∧ RepM F t o kvs ∧ F a = none
abbrev Env := List (Option R)
/-- slot i holds r, standing at v -/
def Hold (ρ : Env) (σ : St) (i : Nat) (r : R) (v : V) : Prop := ρ[i]? = some (some r) ∧ σ[i]? = some (some v)
structure Good (K : PySem.W.Frag) (F H : Hp) (ρ : Env) (σ : St) : Prop where
  sub : Sub F H
  len : ρ.length = σ.length
  has : ∀ (i : Nat) (r : R), ρ[i]? = some (some r) → ∃ v, σ[i]? = some (some v)
  rep : ∀ i r v, Hold ρ σ i r v → RepR K F H v r
  dis : ∀ i j r q a, Hold ρ σ i r (.ref a) → Hold ρ σ j q (.ref a) → r.own = true → q.own = true → i = j
/-- the addresses of own lists -/
def Own (ρ : Env) (σ : St) (a : Addr) : Prop := ∃ i r, Hold ρ σ i r (.ref a) ∧ r.own = true
/-- from F, H with the own addresses O to F', H' with O' -/
structure Step (F H : Hp) (O : Addr → Prop) (F' H' : Hp) (O' : Addr → Prop) : Prop where
  fz : Sub F F'
  kp : ∀ a o, H a = some o → ¬ O a → H' a = some o
  gr : ∀ a, F' a ≠ none → F a ≠ none ∨ H a = none ∨ O a
  ow : ∀ a, O' a → O a ∨ H a = none
  th : ∀ a, H a ≠ none → H' a ≠ none
section
variable {F H F1 H1 F2 H2 : Hp} {O O1 O2 P : Addr → Prop}
theorem Step.refl : Step F H O F H O := ⟨fun _ _ h => h, fun _ _ h _ => h, fun _ h => .inl h, fun _ h => .inl h, fun _ h => h⟩
theorem Step.trans (s : Step F H O F1 H1 O1) (t : Step F1 H1 O1 F2 H2 O2) : Step F H O F2 H2 O2 where
  fz := s.fz.trans t.fz
  kp := fun a o h n => t.kp a o (s.kp a o h n) fun q => (s.ow a q).elim n fun e => by rw [e] at h; cases h
  gr := fun a h => by
    rcases t.gr a h with q | q | q
    · exact s.gr a q
    · refine .inr (.inl ?_)
      cases e : H a with
      | none => rfl
      | some o => exact absurd q (s.th a (by rw [e]; exact fun z => nomatch z))
    · exact (s.ow a q).elim (fun z => .inr (.inr z)) fun z => .inr (.inl z)
  ow := fun a h => by
    rcases t.ow a h with q | q
    · exact s.ow a q
    · refine .inr ?_
      cases e : H a with
      | none => rfl
      | some o => exact absurd q (s.th a (by rw [e]; exact fun z => nomatch z))
  th := fun a h => t.th a (s.th a h)
/-- less is owned behind it; more ahead of it -/
theorem Step.weak (s : Step F H O F1 H1 O1) (h : ∀ a, O2 a → O1 a) : Step F H O F1 H1 O2 := ⟨s.fz, s.kp, s.gr, fun a q => s.ow a (h a q), s.th⟩
theorem Step.wide (s : Step F H O F1 H1 O1) (h : ∀ a, O a → P a) : Step F H P F1 H1 O1 :=
  ⟨s.fz, fun a o e n => s.kp a o e fun z => n (h a z), fun a q => (s.gr a q).imp id fun z => z.imp id (h a), fun a q => (s.ow a q).imp (h a) id, s.th⟩
/-- what is owned besides stays owned -/
theorem Step.frame (s : Step F H O F1 H1 O1) : Step F H (fun a => O a ∨ P a) F1 H1 (fun a => O1 a ∨ P a) :=
  ⟨s.fz, fun a o e n => s.kp a o e fun z => n (.inl z), fun a q => (s.gr a q).imp id fun z => z.imp id .inl, fun a q => q.elim (fun z => (s.ow a z).imp .inl id) fun z => .inl (.inr z), s.th⟩
/-- a new object, not owned -/
theorem Step.fresh {p : Addr} {o : HO} (hp : H p = none) (hs : Sub F H) : Step F H O (upd F p o) (upd H p o) O where
  fz := fun a u h => by
    have : a ≠ p := fun e => by
      subst e
      have := hs _ _ h
      rw [hp] at this
      cases this
    rw [upd_ne this]
    exact h
  kp := fun a u h _ => by
    rw [upd_ne (ne_of_none h hp)]
    exact h
  gr := fun a h => by
    by_cases e : a = p
    · subst e
      exact .inr (.inl hp)
    · rw [upd_ne e] at h
      exact .inl h
  ow := fun _ h => .inl h
  th := fun a h => by
    by_cases e : a = p
    · subst e
      exact absurd hp h
    · rw [upd_ne e]
      exact h
/-- a new object, owned -/
theorem Step.freshOwn {p : Addr} {o : HO} (hp : H p = none) : Step F H O F (upd H p o) (fun a => O a ∨ a = p) where
  fz := fun _ _ h => h
  kp := fun a u h _ => by
    rw [upd_ne (ne_of_none h hp)]
    exact h
  gr := fun a h => .inl h
  ow := fun a h => h.imp id fun e => by
    subst e
    exact hp
  th := fun a h => by
    by_cases e : a = p
    · subst e
      exact absurd hp h
    · rw [upd_ne e]
      exact h
/-- an own object is written -/
theorem Step.write {p : Addr} {o : HO} (hp : O p) : Step F H O F (upd H p o) O where
  fz := fun _ _ h => h
  kp := fun a u h n => by
    rw [upd_ne (fun e => n (by rw [e]; exact hp))]
    exact h
  gr := fun a h => .inl h
  ow := fun _ h => .inl h
  th := fun a h => by
    by_cases e : a = p
    · rw [e, upd_same]
      exact fun z => nomatch z
    · rw [upd_ne e]
      exact h
/-- an own object is given up: from now on nobody changes it -/
theorem Step.freeze {p : Addr} {o : HO} (hp : O p) (hh : H p = some o) (hf : F p = none) (hO : ∀ a, O1 a → O a) : Step F H O (upd F p o) H O1 where
  fz := fun a u h => by
    rw [upd_ne (ne_of_none h hf)]
    exact h
  kp := fun _ _ h _ => h
  gr := fun a h => by
    by_cases e : a = p
    · subst e
      exact .inr (.inr hp)
    · rw [upd_ne e] at h
      exact .inl h
  ow := fun a h => .inl (hO a h)
  th := fun _ h => h
end
theorem Sub.upd2 {F H : Hp} {p : Addr} {o : HO} (s : Sub F H) : Sub (upd F p o) (upd H p o) := fun a u h => by
  by_cases e : a = p
  · subst e
    rw [upd_same] at h ⊢
    exact h
  · rw [upd_ne e] at h ⊢
    exact s _ _ h
theorem Sub.updR {F H : Hp} {p : Addr} {o : HO} (s : Sub F H) (h : F p = none) : Sub F (upd H p o) := fun a u e => by
  rw [upd_ne (ne_of_none e h)]
  exact s _ _ e
theorem Sub.updL {F H : Hp} {p : Addr} {o : HO} (s : Sub F H) (h : H p = some o) : Sub (upd F p o) H := fun a u e => by
  by_cases q : a = p
  · subst q
    rw [upd_same] at e
    rw [h]
    exact e
  · rw [upd_ne q] at e
    exact s _ _ e
theorem Sub.none {F H : Hp} {p : Addr} (s : Sub F H) (h : H p = none) : F p = none := by
  cases e : F p with
  | none => rfl
  | some o =>
    have := s _ _ e
    rw [h] at this
    cases this
theorem sub_upd {F : Hp} {p : Addr} {o : HO} (h : F p = none) : Sub F (upd F p o) := fun a u e => by
  rw [upd_ne (ne_of_none e h)]
  exact e
theorem SqL.sub {K : PySem.W.Frag} {F G : Hp} (s : Sub F G) {a : Addr} {xs : List V} (h : SqL K F a xs) : SqL K G a xs := h.imp (fun z => z.imp (fun q => s _ _ q) fun ⟨o, q⟩ => ⟨o, s _ _ q⟩) id
/-- a value besides the own ones of a step -/
theorem RepR.frame {K : PySem.W.Frag} {F H F1 H1 : Hp} {O O1 : Addr → Prop} (s : Step F H O F1 H1 O1) {x : V} {r : R} (h : RepR K F H x r) (n : ∀ a, x = .ref a → r.own = true → ¬ O a) : RepR K F1 H1 x r := by
  cases r with
  | v d => exact Rp.mono s.fz h
  | l xs =>
    obtain ⟨a, vs, e, h1, h2, h3⟩ := h
    refine ⟨a, vs, e, s.kp _ _ h1 (n a e rfl), h2.mono s.fz, ?_⟩
    cases q : F1 a with
    | none => rfl
    | some o =>
      rcases s.gr a (by rw [q]; exact fun z => nomatch z) with z | z | z
      · exact absurd h3 z
      · rw [h1] at z
        cases z
      · exact absurd z (n a e rfl)
  | s ns =>
    obtain ⟨a, e, h⟩ := h
    exact ⟨a, e, SqL.sub s.fz h⟩
  | m t kvs =>
    obtain ⟨a, vs, e, h1, h2, h3⟩ := h
    refine ⟨a, vs, e, s.kp _ _ h1 (n a e rfl), h2.mono s.fz, ?_⟩
    cases q : F1 a with
    | none => rfl
    | some o =>
      rcases s.gr a (by rw [q]; exact fun z => nomatch z) with z | z | z
      · exact absurd h3 z
      · rw [h1] at z
        cases z
      · exact absurd z (n a e rfl)
section
variable {K : PySem.W.Frag} {F H F1 H1 : Hp} {ρ ρ1 τ : Env} {σ σ1 υ : St}
/-- each hold of the second is one of the first, own ones one to one -/
theorem Good.map (g : Good K F H ρ σ) (hl : ρ1.length = σ1.length) (hh : ∀ (i : Nat) (r : R), ρ1[i]? = some (some r) → ∃ v, σ1[i]? = some (some v)) (f : Nat → Nat) (hf : ∀ i r v, Hold ρ1 σ1 i r v → Hold ρ σ (f i) r v)
    (hi : ∀ i j r q a, Hold ρ1 σ1 i r (.ref a) → Hold ρ1 σ1 j q (.ref a) → r.own = true → q.own = true → f i = f j → i = j) : Good K F H ρ1 σ1 :=
  ⟨g.sub, hl, hh, fun i r v h => g.rep _ r v (hf i r v h), fun i j r q a h1 h2 o1 o2 => hi i j r q a h1 h2 o1 o2 (g.dis _ _ r q a (hf _ _ _ h1) (hf _ _ _ h2) o1 o2)⟩
theorem Own.map (f : Nat → Nat) (hf : ∀ i r v, Hold ρ1 σ1 i r v → Hold ρ σ (f i) r v) {a : Addr} : Own ρ1 σ1 a → Own ρ σ a := fun ⟨i, r, h, o⟩ => ⟨f i, r, hf i r _ h, o⟩
theorem hold_left {i : Nat} {r : R} {v : V} (hl : ρ.length = σ.length) (hi : i < ρ.length) : Hold (ρ ++ τ) (σ ++ υ) i r v ↔ Hold ρ σ i r v := by
  unfold Hold
  rw [List.getElem?_append_left hi, List.getElem?_append_left (by omega)]
theorem hold_right {i : Nat} {r : R} {v : V} (hl : ρ.length = σ.length) (hi : ρ.length ≤ i) : Hold (ρ ++ τ) (σ ++ υ) i r v ↔ Hold τ υ (i - ρ.length) r v := by
  unfold Hold
  rw [List.getElem?_append_right hi, List.getElem?_append_right (by omega), hl]
theorem hold_lt {i : Nat} {r : R} {v : V} (h : Hold ρ σ i r v) : i < ρ.length := (List.getElem?_eq_some_iff.mp h.1).1
theorem hold_app {i : Nat} {r : R} {v : V} (h : Hold ρ σ i r v) : Hold (ρ ++ τ) (σ ++ υ) i r v := by
  obtain ⟨h1, h2⟩ := h
  obtain ⟨l1, _⟩ := List.getElem?_eq_some_iff.mp h1
  obtain ⟨l2, _⟩ := List.getElem?_eq_some_iff.mp h2
  exact ⟨by rw [List.getElem?_append_left l1]; exact h1, by rw [List.getElem?_append_left l2]; exact h2⟩
theorem own_app {a : Addr} (hl : ρ.length = σ.length) : Own (ρ ++ τ) (σ ++ υ) a ↔ Own ρ σ a ∨ Own τ υ a := by
  constructor
  · rintro ⟨i, r, h, o⟩
    by_cases hi : i < ρ.length
    · exact .inl ⟨i, r, (hold_left hl hi).mp h, o⟩
    · exact .inr ⟨i - ρ.length, r, (hold_right hl (by omega)).mp h, o⟩
  · rintro (⟨i, r, h, o⟩ | ⟨i, r, h, o⟩)
    · exact ⟨i, r, hold_app h, o⟩
    · exact ⟨ρ.length + i, r, (hold_right hl (by omega)).mpr (by rw [Nat.add_sub_cancel_left]; exact h), o⟩
/-- the first part alone -/
theorem Good.left (g : Good K F H (ρ ++ τ) (σ ++ υ)) (hl : ρ.length = σ.length) : Good K F H ρ σ :=
  g.map hl (fun i r h => by
    obtain ⟨l1, _⟩ := List.getElem?_eq_some_iff.mp h
    obtain ⟨v, e⟩ := g.has i r (by rw [List.getElem?_append_left l1]; exact h)
    rw [List.getElem?_append_left (by omega)] at e
    exact ⟨v, e⟩) id (fun i r v h => hold_app h) (fun i j r q a _ _ _ _ e => e)
theorem Good.right (g : Good K F H (ρ ++ τ) (σ ++ υ)) (hl : ρ.length = σ.length) (hl2 : τ.length = υ.length) : Good K F H τ υ :=
  g.map hl2 (fun i r h => by
    obtain ⟨v, e⟩ := g.has (ρ.length + i) r (by rw [List.getElem?_append_right (by omega), Nat.add_sub_cancel_left]; exact h)
    rw [List.getElem?_append_right (by omega)] at e
    exact ⟨v, by rw [← e]; congr 1; omega⟩) (fun i => ρ.length + i) (fun i r v h => (hold_right hl (by omega)).mpr (by rw [Nat.add_sub_cancel_left]; exact h)) (fun i j r q a _ _ _ _ e => by omega)
theorem Good.apart (g : Good K F H (ρ ++ τ) (σ ++ υ)) (hl : ρ.length = σ.length) {a : Addr} (h1 : Own ρ σ a) (h2 : Own τ υ a) : False := by
  obtain ⟨i, r, h, o⟩ := h1
  obtain ⟨j, q, k, u⟩ := h2
  have := g.dis i (ρ.length + j) r q a (hold_app h) ((hold_right hl (by omega)).mpr (by rw [Nat.add_sub_cancel_left]; exact k)) o u
  have := hold_lt h
  omega
/-- the first part steps, the second one stands by -/
theorem Good.frame (g : Good K F H (ρ ++ τ) (σ ++ υ)) (hl : ρ.length = σ.length) (s : Step F H (Own ρ σ) F1 H1 (Own ρ1 σ1)) (g1 : Good K F1 H1 ρ1 σ1) : Good K F1 H1 (ρ1 ++ τ) (σ1 ++ υ) := by
  have hl2 : τ.length = υ.length := by
    have := g.len
    simp only [List.length_append] at this
    omega
  have gr := g.right hl hl2
  have noO : ∀ i r a, Hold τ υ i r (.ref a) → r.own = true → ¬ Own ρ σ a := fun i r a h o q => g.apart hl q ⟨i, r, h, o⟩
  refine ⟨g1.sub, by simp only [List.length_append, g1.len, hl2], fun i r h => ?_, fun i r v h => ?_, fun i j r q a h1 h2 o1 o2 => ?_⟩
  · by_cases hi : i < ρ1.length
    · rw [List.getElem?_append_left hi] at h
      obtain ⟨v, e⟩ := g1.has i r h
      exact ⟨v, by rw [List.getElem?_append_left (by rw [← g1.len]; exact hi)]; exact e⟩
    · rw [List.getElem?_append_right (by omega)] at h
      obtain ⟨v, e⟩ := gr.has _ r h
      exact ⟨v, by rw [List.getElem?_append_right (by rw [← g1.len]; omega), ← g1.len]; exact e⟩
  · by_cases hi : i < ρ1.length
    · exact g1.rep i r v ((hold_left g1.len hi).mp h)
    · have h' := (hold_right g1.len (by omega)).mp h
      exact (gr.rep _ r v h').frame s fun a e o => noO _ r a (by rw [← e]; exact h') o
  · have cross : ∀ i j r q, Hold ρ1 σ1 i r (.ref a) → Hold τ υ j q (.ref a) → r.own = true → q.own = true → False := fun i j r q h1 h2 o1 o2 => by
      rcases s.ow a ⟨i, r, h1, o1⟩ with z | z
      · exact noO _ _ _ h2 o2 z
      · have rp := gr.rep _ _ _ h2
        cases q with
        | v _ => cases o2
        | s _ => cases o2
        | l xs =>
          obtain ⟨b, vs, e, hb, _⟩ := rp
          cases e
          rw [z] at hb
          cases hb
        | m t kvs =>
          obtain ⟨b, vs, e, hb, _⟩ := rp
          cases e
          rw [z] at hb
          cases hb
    by_cases hi : i < ρ1.length <;> by_cases hj : j < ρ1.length
    · exact g1.dis i j r q a ((hold_left g1.len hi).mp h1) ((hold_left g1.len hj).mp h2) o1 o2
    · exact (cross _ _ _ _ ((hold_left g1.len hi).mp h1) ((hold_right g1.len (by omega)).mp h2) o1 o2).elim
    · exact (cross _ _ _ _ ((hold_left g1.len hj).mp h2) ((hold_right g1.len (by omega)).mp h1) o2 o1).elim
    · have := gr.dis _ _ r q a ((hold_right g1.len (by omega)).mp h1) ((hold_right g1.len (by omega)).mp h2) o1 o2
      omega
theorem Step.app (s : Step F H (Own ρ σ) F1 H1 (Own ρ1 σ1)) (hl : ρ.length = σ.length) (hl1 : ρ1.length = σ1.length) : Step F H (Own (ρ ++ τ) (σ ++ υ)) F1 H1 (Own (ρ1 ++ τ) (σ1 ++ υ)) := by
  have z := s.frame (P := Own τ υ)
  exact (z.wide fun a h => (own_app hl).mpr h).weak fun a h => (own_app hl1).mp h
end
end Pv
namespace Pv
open PySem PySem.Spec L2
/-! ## the small language and what it does over pure data -/
inductive Bi where
  | len | tuple | list | all | any | int | abs | min2 | max2 | sum | min | max | sorted
  deriving DecidableEq
inductive Ty where
  | int | bool | str | tuple | list
  deriving DecidableEq
inductive Mt where
  | index | count
  deriving DecidableEq
/-- targets -/
inductive Tg where
  | nm (i : Nat) | nil | cons (a b : Tg) | tp (a : Tg)
inductive E where
  | var (i : Nat) | mv (i : Nat)
  | num (z : Int) | bl (b : Bool) | non | str (x : Str) | cst (x : Str) (z : Int)
  | bin (op : Operator) (a b : E) | neg (a : E)
  | cmp (op : CmpOp) (a b : E) | chain (p q : CmpOp) (a b c : E)
  | and_ (a b : E) | or_ (a b : E) | not_ (a : E) | ife (c a b : E)
  | tup (es : E) | lst (es : E)
  | idx (a b : E) | slc (a lo hi : E) | rev (a : E)
  | call (f : Str) (es : E) | bi (b : Bi) (es : E) | isi (a : E) (ts : List Ty)
  | mt (m : Mt) (o es : E) | pop (i : Nat)
  | lrg (t : Bool) (it : E)
  | comp (elt : E) (tg : Tg) (it ifs : E) (vs : List Nat)
  | nil | cons (a b : E)
  | tt (a : E) | tcmp (op : CmpOp) (a b : E) | tchain (p q : CmpOp) (a b c : E) | tand (a b : E) | tor (a b : E) | tnot (a : E) | tyes
  | dnew (t : Bool) | dget (i : Nat) (a : E) | din (n : Bool) (i : Nat) (a : E) | tdin (n : Bool) (i : Nat) (a : E) | dsort (i : Nat) | dlen (i : Nat)
  | bits (a : E) | sset (a : E) | stc (f : Str) (a : E)
  | it (a : E) | rng1 (a : E) | rng2 (a b : E) | rng3 (a b c : E) | enum (a : E) | zip (a b : E)
  | nob
inductive S where
  | skip | seq (s t : S)
  | asg (i : Nat) (e : E) | asgF (i : Nat) (e : E) | asgT (tg : Tg) (e : E) | par (i j : Nat) (a b : E)
  | aug (i : Nat) (op : Operator) (e : E) | setx (i : Nat) (ix e : E) | app (i : Nat) (e : E) | ext (i : Nat) (e : E)
  | ret (e : E) | retN | if_ (c : E) (s t : S) | for_ (tg : Tg) (it : E) (b : S) | while_ (c : E) (b : S)
  | brk | cont | pass | drop (e : E) | never
  | dput (i : Nat) (k e : E) | par3 (i j l : Nat) (a b c : E) | xpar (i : Nat) (k : E) (j : Nat) (a b : E) | swp (i : Nat) (x y a b : E)
/-! ### data -/
/-- at most as many as a list may have -/
def okN (n : Nat) : Bool := decide (n ≤ 16777216)
theorem okN_le {n : Nat} (h : okN n = true) : n ≤ sizeLine := by
  rw [sizeLine_eq]
  exact of_decide_eq_true h
theorem okN_of {n : Nat} (h : n ≤ 16777216) : okN n = true := decide_eq_true h
def frzO : R → Option D
  | .v d => some d
  | .l xs => some (.list xs)
  | _ => none
def R.isL : R → Bool
  | .l _ => true
  | _ => false
def frzE : R → Option R
  | .l xs => some (.v (.list xs))
  | .m _ _ => none
  | r => some r
def getS : Env → Nat → Option R
  | [], _ => none
  | r :: _, 0 => r
  | _ :: ρ, i + 1 => getS ρ i
def setS : Env → Nat → Option R → Env
  | [], _, _ => []
  | _ :: ρ, 0, r => r :: ρ
  | q :: ρ, i + 1, r => q :: setS ρ i r
inductive Op where
  | sl (i : Nat) | d (d : D)
def derR : R → Option D
  | .v d => some d
  | .l xs => some (.list xs)
  | _ => none
/-- .. the script, too -/
def derA : R → Option D
  | .v d => some d
  | .l xs => some (.list xs)
  | .s ns => some (.list (ns.map PyData.int))
  | .m _ _ => none
def der (ρ : Env) : Op → Option D
  | .sl i => (getS ρ i).bind derR
  | .d d => some d
def derS (ρ : Env) : Op → Option D
  | .sl i => (getS ρ i).bind derA
  | .d d => some d
def derAll (ρ : Env) : List Op → Option (List D)
  | [] => some []
  | o :: os => (der ρ o).bind fun d => (derAll ρ os).bind fun ds => some (d :: ds)
/-- 62 bits -/
def in62 : Int → Bool
  | .ofNat n => Nat.ble n 4611686018427387903
  | .negSucc n => Nat.ble n 4611686018427387903
theorem in62_b {i : Int} : in62 i = true ↔ -4611686018427387904 ≤ i ∧ i < 4611686018427387904 := by
  cases i with
  | ofNat n =>
    show Nat.ble n _ = true ↔ _
    rw [Nat.ble_eq]
    constructor
    · intro h
      have e : Int.ofNat n = (n : Int) := rfl
      omega
    · intro ⟨h1, h2⟩
      have h2 : (n : Int) < 4611686018427387904 := h2
      omega
  | negSucc n =>
    show Nat.ble n _ = true ↔ _
    rw [Nat.ble_eq]
    constructor
    · intro h
      omega
    · intro ⟨h1, h2⟩
      omega
def binD : Operator → D → D → Option R
  | .Add, .int a, .int b => some (.v (.int (a + b)))
  | .Sub, .int a, .int b => some (.v (.int (a - b)))
  | .Mult, .int a, .int b => if (-18446744073709551616 < a ∧ a < 18446744073709551616) ∨ (-18446744073709551616 < b ∧ b < 18446744073709551616) then some (.v (.int (a * b))) else none
  | .FloorDiv, .int a, .int b => if 0 < b ∧ b < 1073741824 then some (.v (.int (a / b))) else none
  | .Mod, .int a, .int b => if 0 < b then some (.v (.int (a % b))) else none
  | .Pow, .int a, .int b => if 0 ≤ b ∧ b ≤ 1000000 ∧ a.natAbs < 18446744073709551616 then some (.v (.int (a ^ b.toNat))) else none
  | .LShift, .int a, .int b => if 0 ≤ b ∧ b ≤ 1000000 ∧ a.natAbs < 18446744073709551616 then some (.v (.int (a * 2 ^ b.toNat))) else none
  | .RShift, .int a, .int b => if 0 ≤ b then some (.v (.int (a / 2 ^ b.toNat))) else none
  | .Add, .list a, .list b => if okN (a.length + b.length) = true then some (.l (a ++ b)) else none
  | .Add, .tuple a, .tuple b => if okN (a.length + b.length) = true then some (.v (.tuple (a ++ b))) else none
  | .Mult, .list a, .int k => if in62 k = true ∧ okN (a.length * k.toNat) = true then some (.l (List.replicate k.toNat a).flatten) else none
  | .Mult, .tuple a, .int k => if 1 ≤ k ∧ k ≤ 1000 ∧ 1 ≤ a.length ∧ a.length ≤ 1000 then some (.v (.tuple (List.replicate k.toNat a).flatten)) else none
  | _, _, _ => none
def flatD : D → Bool
  | .none => true
  | .bool _ => true
  | .int _ => true
  | .str _ => true
  | _ => false
def eqD (a b : D) : Option Bool := match a, b with
  | .int i, .int j => some (decide (i = j))
  | .bool i, .bool j => some (decide (i = j))
  | .str i, .str j => some (decide (i = j))
  | a, b => if (SeqAt.shaped a && SeqAt.shaped b) = true then some (PyData.eqv a b) else none
def inD (x : D) (y : D) : Option Bool := match y with
  | .list ys => if (flatD x && ys.all flatD) = true then some (ys.any fun z => PyData.eqv z x)
    else if (SeqAt.shaped x && SeqAt.shaped (.list ys)) = true then some (ys.any fun z => PyData.eqv z x) else none
  | .tuple ys => if (flatD x && ys.all flatD) = true then some (ys.any fun z => PyData.eqv z x) else none
  | _ => none
def isNonD : D → Bool
  | .none => true
  | _ => false
def cmpD : CmpOp → D → D → Option Bool
  | .Lt, .int a, .int b => some (decide (a < b))
  | .LtE, .int a, .int b => some (decide (a ≤ b))
  | .Gt, .int a, .int b => some (decide (b < a))
  | .GtE, .int a, .int b => some (decide (b ≤ a))
  | .Eq, a, b => eqD a b
  | .NotEq, a, b => (eqD a b).map (!·)
  | .Is, a, .none => some (isNonD a)
  | .IsNot, a, .none => some (!isNonD a)
  | .In, a, b => inD a b
  | .NotIn, a, b => (inD a b).map (!·)
  | _, _, _ => none
def negD : D → Option D
  | .int a => some (.int (-a))
  | _ => none
def truD : D → Option Bool
  | .none => some false
  | .bool b => some b
  | .int i => some (decide (i ≠ 0))
  | .list xs => some (!xs.isEmpty)
  | .tuple xs => some (!xs.isEmpty)
  | _ => none
def truR (r : R) : Option Bool := (derA r).bind truD
def idxD : D → D → Option D
  | .list xs, .int i => atI xs i
  | .tuple xs, .int i => atI xs i
  | _, _ => none
def cutA {α : Type} (xs : List α) (lo hi : Option Int) : List α := (xs.drop (HT.sIx xs.length 0 lo)).take (HT.sIx xs.length xs.length hi - HT.sIx xs.length 0 lo)
def slcD : D → Option Int → Option Int → Option R
  | .list xs, lo, hi => some (.l (cutA xs lo hi))
  | .tuple xs, lo, hi => some (.v (.tuple (cutA xs lo hi)))
  | _, _, _ => none
def revD : D → Option R
  | .list xs => some (.l xs.reverse)
  | .tuple xs => some (.v (.tuple xs.reverse))
  | _ => none
def boolsOf : List D → Option (List Bool)
  | [] => some []
  | .bool b :: r => (boolsOf r).bind fun bs => some (b :: bs)
  | _ => none
def intsOf : List D → Option (List Int)
  | [] => some []
  | .int b :: r => (intsOf r).bind fun bs => some (b :: bs)
  | _ => none
def maxL : List Int → Option Int
  | [] => none
  | x :: xs => some (xs.foldl max x)
def minL : List Int → Option Int
  | [] => none
  | x :: xs => some (xs.foldl min x)
/-- sorted, by putting in -/
def insI (x : Int) : List Int → List Int
  | [] => [x]
  | y :: ys => if x ≤ y then x :: y :: ys else y :: insI x ys
def srtI : List Int → List Int
  | [] => []
  | x :: xs => insI x (srtI xs)
def biD : Bi → List D → Option R
  | .len, [.list xs] => some (.v (.int xs.length))
  | .len, [.tuple xs] => some (.v (.int xs.length))
  | .tuple, [.list xs] => some (.v (.tuple xs))
  | .tuple, [.tuple xs] => some (.v (.tuple xs))
  | .list, [.list xs] => some (.l xs)
  | .list, [.tuple xs] => some (.l xs)
  | .all, [.list xs] => (boolsOf xs).bind fun bs => some (.v (.bool (bs.all id)))
  | .any, [.list xs] => (boolsOf xs).bind fun bs => some (.v (.bool (bs.any id)))
  | .int, [.int i] => some (.v (.int i))
  | .int, [.bool b] => some (.v (.int (if b then 1 else 0)))
  | .abs, [.int i] => some (.v (.int (if i < 0 then -i else i)))
  | .min2, [.int i, .int j] => some (.v (.int (if j < i then j else i)))
  | .max2, [.int i, .int j] => some (.v (.int (if j > i then j else i)))
  | .sum, [.list xs] => (intsOf xs).bind fun ns => some (.v (.int ns.sum))
  | .max, [.list xs] => (intsOf xs).bind fun ns => (maxL ns).bind fun m => some (.v (.int m))
  | .min, [.list xs] => (intsOf xs).bind fun ns => (minL ns).bind fun m => some (.v (.int m))
  | .sorted, [.list xs] => (intsOf xs).bind fun ns => some (.l ((srtI ns).map PyData.int))
  | _, _ => none
def isiD : D → Ty → Bool
  | .int _, .int => true
  | .bool _, .int => true
  | .bool _, .bool => true
  | .str _, .str => true
  | .tuple _, .tuple => true
  | .list _, .list => true
  | _, _ => false
/-- where the first one like x stands -/
def ixOf (x : D) : List D → Option Nat
  | [] => none
  | y :: ys => if PyData.eqv y x = true then some 0 else (ixOf x ys).map (· + 1)
def mtD : Mt → D → List D → Option R
  | .index, .list xs, [x] => if (flatD x && xs.all flatD) = true then (ixOf x xs).bind fun j => some (.v (.int (j : Nat))) else none
  | .count, .list xs, [.int k] => (intsOf xs).bind fun ns => some (.v (.int (ns.count k : Nat)))
  | _, _, _ => none
/-- dicts -/
def getM (kvs : MP) (k : List Int) : Option D := (kvs.find? fun p => decide (p.1 = k)).map (·.2)
def putM (kvs : MP) (k : List Int) (d : D) : MP := if (kvs.any fun p => decide (p.1 = k)) = true then kvs.map (fun p => if p.1 = k then (p.1, d) else p) else kvs ++ [(k, d)]
def keyD : Bool → D → Option (List Int)
  | false, .int z => some [z]
  | true, .tuple ds => intsOf ds
  | _, _ => none
/-- in order, each once -/
def insU (x : Int) : List Int → List Int
  | [] => [x]
  | y :: ys => if x < y then x :: y :: ys else if x = y then y :: ys else y :: insU x ys
def setU : List Int → List Int
  | [] => []
  | x :: xs => insU x (setU xs)
def isLst : D → Bool
  | .list _ => true
  | _ => false
def optI : Option D → Option (Option Int)
  | none => some none
  | some (.int i) => some (some i)
  | _ => none
/-! ### targets -/
def wb (ρ : Env) : List (R × Option Nat) → List R → Env
  | (_, some i) :: as, r :: rs => wb (setS ρ i (some r)) as rs
  | (_, none) :: as, _ :: rs => wb ρ as rs
  | _, _ => ρ
mutual
def bindT : Tg → D → Env → Option Env
  | .nm i, d, ρ => some (setS ρ i (some (.v d)))
  | .tp a, .tuple ds, ρ => bindTs a ds ρ
  | .tp a, .list ds, ρ => bindTs a ds ρ
  | _, _, _ => none
def bindTs : Tg → List D → Env → Option Env
  | .nil, [], ρ => some ρ
  | .cons a b, d :: ds, ρ => (bindT a d ρ).bind fun ρ1 => bindTs b ds ρ1
  | _, _, _ => none
end
def wipeE (ρ : Env) : List Nat → Env
  | [] => ρ
  | v :: vs => setS (wipeE ρ vs) v none
/-- the slots vs as in the first, all else as in the second -/
def back (ρ ρ' : Env) (vs : List Nat) : Env := vs.foldr (fun v e => setS e v (getS ρ v)) ρ'
inductive Fl where
  | next | brk | cont | ret (r : R)
def forL (f : D → Env → Option (Fl × Env)) : List D → Env → Option (Fl × Env)
  | [], ρ => some (.next, ρ)
  | d :: ds, ρ => (f d ρ).bind fun (fl, ρ1) => match fl with
    | .next => forL f ds ρ1
    | .cont => forL f ds ρ1
    | .brk => some (.next, ρ1)
    | .ret r => some (.ret r, ρ1)
def whileN (c : Env → Option (Bool × Env)) (f : Env → Option (Fl × Env)) : Nat → Env → Option (Fl × Env)
  | 0, _ => none
  | n + 1, ρ => (c ρ).bind fun (b, ρ1) => match b with
    | false => some (.next, ρ1)
    | true => (f ρ1).bind fun (fl, ρ2) => match fl with
      | .next => whileN c f n ρ2
      | .cont => whileN c f n ρ2
      | .brk => some (.next, ρ2)
      | .ret r => some (.ret r, ρ2)
/-- the items a comprehension makes -/
def compL (g : D → Env → Option (Option D × Env)) (vs : List Nat) : List D → Env → Option (List D × Env)
  | [], ρ => some ([], ρ)
  | d :: ds, ρ => (g d ρ).bind fun (o, ρ1) => (compL g vs ds (wipeE ρ1 vs)).bind fun (xs, ρ2) => match o with
    | some x => some (x :: xs, ρ2)
    | none => some (xs, ρ2)
def rngD (i j : Int) : List D := (List.range (j - i).toNat).map fun k => PyData.int (i + (k : Nat))
def rngC (i c : Int) (n : Nat) : List D := (List.range n).map fun k => PyData.int (i + (k : Nat) * c)
def rngN (i j c : Int) : Nat := if 0 < c then ((j - i + c - 1) / c).toNat else if c < 0 then ((i - j - c - 1) / (-c)).toNat else 0
def enumD (xs : List D) : List D := xs.zipIdx.map fun p => PyData.tuple [.int (p.2 : Nat), p.1]
def zipD (xs ys : List D) : List D := (xs.zip ys).map fun p => PyData.tuple [p.1, p.2]
def seqD : D → Option (List D)
  | .list xs => some xs
  | .tuple xs => some xs
  | _ => none
def opd (e : E) (f : Env → Option (R × Env)) (ρ : Env) : Option (Op × Env) := match e with
  | .var i => (getS ρ i).bind fun _ => some (.sl i, ρ)
  | _ => (f ρ).bind fun (r, ρ1) => (frzO r).bind fun d => some (.d d, ρ1)
/-- how many turns a while may take -/
def WF : Nat := 1000000
section
variable (Φ : Str → List R → Option (R × List R))
mutual
def evE : E → Env → Option (R × Env)
  | .var i, ρ => (getS ρ i).bind fun r => match r with
    | .l xs => some (.v (.list xs), setS ρ i (some (.v (.list xs))))
    | .m _ _ => none
    | r => some (r, ρ)
  | .mv i, ρ => (getS ρ i).bind fun r => some (r, setS ρ i none)
  | .num z, ρ => some (.v (.int z), ρ)
  | .bl b, ρ => some (.v (.bool b), ρ)
  | .non, ρ => some (.v .none, ρ)
  | .str x, ρ => some (.v (.str x), ρ)
  | .cst _ z, ρ => some (.v (.int z), ρ)
  | .bin op a b, ρ => (opd a (evE a) ρ).bind fun (x, ρ1) => (opd b (evE b) ρ1).bind fun (y, ρ2) =>
      (der ρ2 x).bind fun d => (der ρ2 y).bind fun e => (binD op d e).bind fun r => some (r, ρ2)
  | .neg a, ρ => (opd a (evE a) ρ).bind fun (x, ρ1) => (der ρ1 x).bind fun d => (negD d).bind fun r => some (.v r, ρ1)
  | .cmp op a b, ρ => (opd a (evE a) ρ).bind fun (x, ρ1) => (opd b (evE b) ρ1).bind fun (y, ρ2) =>
      (der ρ2 x).bind fun d => (der ρ2 y).bind fun e => (cmpD op d e).bind fun r => some (.v (.bool r), ρ2)
  | .chain p q a b c, ρ => (opd a (evE a) ρ).bind fun (x, ρ1) => (opd b (evE b) ρ1).bind fun (y, ρ2) =>
      (der ρ2 x).bind fun d => (der ρ2 y).bind fun e => (cmpD p d e).bind fun r => match r with
        | false => some (.v (.bool false), ρ2)
        | true => (opd c (evE c) ρ2).bind fun (z, ρ3) => (der ρ3 y).bind fun e => (der ρ3 z).bind fun g => (cmpD q e g).bind fun r => some (.v (.bool r), ρ3)
  | .and_ a b, ρ => (evE a ρ).bind fun (r, ρ1) => (truR r).bind fun k => match k with
      | true => evE b ρ1
      | false => some (r, ρ1)
  | .or_ a b, ρ => (evE a ρ).bind fun (r, ρ1) => (truR r).bind fun k => match k with
      | true => some (r, ρ1)
      | false => evE b ρ1
  | .not_ a, ρ => (opd a (evE a) ρ).bind fun (x, ρ1) => (derS ρ1 x).bind fun d => (truD d).bind fun k => some (.v (.bool (!k)), ρ1)
  | .ife c a b, ρ => (evT c ρ).bind fun (k, ρ1) => match k with
      | true => evE a ρ1
      | false => evE b ρ1
  | .tup es, ρ => (evF es ρ).bind fun (ds, ρ1) => if okN ds.length = true then some (.v (.tuple ds), ρ1) else none
  | .lst es, ρ => (evF es ρ).bind fun (ds, ρ1) => if okN ds.length = true then some (.l ds, ρ1) else none
  | .idx a b, ρ => (opd a (evE a) ρ).bind fun (x, ρ1) => (opd b (evE b) ρ1).bind fun (y, ρ2) =>
      (derS ρ2 x).bind fun d => (der ρ2 y).bind fun e => (idxD d e).bind fun r => some (.v r, ρ2)
  | .slc a lo hi, ρ => (opd a (evE a) ρ).bind fun (x, ρ1) => (evB lo ρ1).bind fun (l, ρ2) => (evB hi ρ2).bind fun (h, ρ3) =>
      (derS ρ3 x).bind fun d => (slcD d l h).bind fun r => some (r, ρ3)
  | .rev a, ρ => (opd a (evE a) ρ).bind fun (x, ρ1) => (der ρ1 x).bind fun d => (revD d).bind fun r => some (r, ρ1)
  | .call f es, ρ => (evL es ρ).bind fun (as, ρ1) => (Φ f (as.map (·.1))).bind fun (r, outs) =>
      if outs.length = as.length then some (r, wb ρ1 as outs) else none
  | .bi b es, ρ => (evOs es ρ).bind fun (os, ρ1) => match b, os with
      | .len, [o] => (derS ρ1 o).bind fun d => (biD .len [d]).bind fun r => some (r, ρ1)
      | .list, [o] => (derS ρ1 o).bind fun d => (biD .list [d]).bind fun r => some (r, ρ1)
      | b, os => (derAll ρ1 os).bind fun ds => (biD b ds).bind fun r => some (r, ρ1)
  | .isi a ts, ρ => (opd a (evE a) ρ).bind fun (x, ρ1) => (der ρ1 x).bind fun d => some (.v (.bool (ts.any (isiD d))), ρ1)
  | .mt m o es, ρ => (opd o (evE o) ρ).bind fun (x, ρ1) => (der ρ1 x).bind fun d0 => if isLst d0 = true then (evOs es ρ1).bind fun (os, ρ2) =>
      (der ρ2 x).bind fun d => (derAll ρ2 os).bind fun ds => (mtD m d ds).bind fun r => some (r, ρ2) else none
  | .pop i, ρ => (getS ρ i).bind fun r => match r with
      | .l xs => (xs.getLast?).bind fun y => some (.v y, setS ρ i (some (.l xs.dropLast)))
      | _ => none
  | .lrg t it, ρ => (evI it ρ).bind fun (ds, ρ1) => if okN ds.length = true then some (if t then .v (.tuple ds) else .l ds, ρ1) else none
  | .comp elt tg it ifs vs, ρ => (evI it ρ).bind fun (ds, ρ1) => if okN ds.length = true then
      (compL (fun d ρ => (bindT tg d ρ).bind fun ρa => (evT ifs ρa).bind fun (k, ρb) => match k with
        | true => (evE elt ρb).bind fun (r, ρc) => (frzO r).bind fun x => some (some x, ρc)
        | false => some (none, ρb)) vs ds (wipeE ρ1 vs)).bind fun (xs, ρ2) => some (.l xs, back ρ1 ρ2 vs) else none
  | .dnew t, ρ => some (.m t [], ρ)
  | .dget i a, ρ => (getS ρ i).bind fun _ => (opd a (evE a) ρ).bind fun (y, ρ1) => (der ρ1 y).bind fun d => (getS ρ1 i).bind fun r => match r with
      | .m t kvs => (keyD t d).bind fun k => (getM kvs k).bind fun v => some (.v v, ρ1)
      | _ => none
  | .din n i a, ρ => (opd a (evE a) ρ).bind fun (y, ρ1) => (der ρ1 y).bind fun d => (getS ρ1 i).bind fun r => match r with
      | .m t kvs => (keyD t d).bind fun k => some (.v (.bool (xor n (getM kvs k).isSome)), ρ1)
      | _ => none
  | .dsort i, ρ => (getS ρ i).bind fun r => match r with
      | .m false kvs => some (.l ((srtI (kvs.map fun p => p.1.headD 0)).map PyData.int), ρ)
      | _ => none
  | .dlen i, ρ => (getS ρ i).bind fun r => match r with
      | .m false kvs => some (.v (.int kvs.length), ρ)
      | _ => none
  | .bits a, ρ => (opd a (evE a) ρ).bind fun (x, ρ1) => (der ρ1 x).bind fun d => match d with
      | .int i => some (.v (.int (Builtin.Int.intBits i : Nat)), ρ1)
      | _ => none
  | .sset a, ρ => (opd a (evE a) ρ).bind fun (x, ρ1) => (der ρ1 x).bind fun d => (seqD d).bind fun ds => (intsOf ds).bind fun ns =>
      if ns.length ≤ 4000 then some (.l ((setU ns).map PyData.int), ρ1) else none
  | .stc f a, ρ => (opd a (evE a) ρ).bind fun (x, ρ1) => (der ρ1 x).bind fun d => (seqD d).bind fun ds =>
      (Φ f (ds.map R.v)).bind fun (r, _) => some (r, ρ1)
  | _, _ => none
/-- a test -/
def evT : E → Env → Option (Bool × Env)
  | .tt a, ρ => (opd a (evE a) ρ).bind fun (x, ρ1) => (derS ρ1 x).bind fun d => (truD d).bind fun k => some (k, ρ1)
  | .tcmp op a b, ρ => (opd a (evE a) ρ).bind fun (x, ρ1) => (opd b (evE b) ρ1).bind fun (y, ρ2) =>
      (der ρ2 x).bind fun d => (der ρ2 y).bind fun e => (cmpD op d e).bind fun r => some (r, ρ2)
  | .tchain p q a b c, ρ => (opd a (evE a) ρ).bind fun (x, ρ1) => (opd b (evE b) ρ1).bind fun (y, ρ2) =>
      (der ρ2 x).bind fun d => (der ρ2 y).bind fun e => (cmpD p d e).bind fun r => match r with
        | false => some (false, ρ2)
        | true => (opd c (evE c) ρ2).bind fun (z, ρ3) => (der ρ3 y).bind fun e => (der ρ3 z).bind fun g => (cmpD q e g).bind fun r => some (r, ρ3)
  | .tand a b, ρ => (evT a ρ).bind fun (k, ρ1) => match k with
      | true => evT b ρ1
      | false => some (false, ρ1)
  | .tor a b, ρ => (evT a ρ).bind fun (k, ρ1) => match k with
      | true => some (true, ρ1)
      | false => evT b ρ1
  | .tnot a, ρ => (evT a ρ).bind fun (k, ρ1) => some (!k, ρ1)
  | .tyes, ρ => some (true, ρ)
  | .tdin n i a, ρ => (opd a (evE a) ρ).bind fun (y, ρ1) => (der ρ1 y).bind fun d => (getS ρ1 i).bind fun r => match r with
      | .m t kvs => (keyD t d).bind fun k => some (xor n (getM kvs k).isSome, ρ1)
      | _ => none
  | _, _ => none
/-- values one behind another, given up -/
def evF : E → Env → Option (List D × Env)
  | .nil, ρ => some ([], ρ)
  | .cons a b, ρ => (evE a ρ).bind fun (r, ρ1) => (frzO r).bind fun d => (evF b ρ1).bind fun (ds, ρ2) => some (d :: ds, ρ2)
  | _, _ => none
/-- operands one behind another -/
def evOs : E → Env → Option (List Op × Env)
  | .nil, ρ => some ([], ρ)
  | .cons a b, ρ => (opd a (evE a) ρ).bind fun (x, ρ1) => (evOs b ρ1).bind fun (os, ρ2) => some (x :: os, ρ2)
  | _, _ => none
/-- a call's arguments: own lists at plain names are handed over -/
def evL : E → Env → Option (List (R × Option Nat) × Env)
  | .nil, ρ => some ([], ρ)
  | .cons a b, ρ => match a with
      | .var i => (getS ρ i).bind fun _ => (evL b ρ).bind fun (as, ρ1) => (getS ρ1 i).bind fun r => if r.own = true then some ((r, some i) :: as, setS ρ1 i none) else some ((r, none) :: as, ρ1)
      | a => (evE a ρ).bind fun (r, ρ1) => (evL b ρ1).bind fun (as, ρ2) => some ((r, none) :: as, ρ2)
  | _, _ => none
/-- a slice's bound -/
def evB : E → Env → Option (Option Int × Env)
  | .nob, ρ => some (none, ρ)
  | .it a, ρ => (opd a (evE a) ρ).bind fun (x, ρ1) => (der ρ1 x).bind fun d => match d with
      | .int i => some (some i, ρ1)
      | _ => none
  | _, _ => none
/-- what a loop walks -/
def evI : E → Env → Option (List D × Env)
  | .it a, ρ => (evE a ρ).bind fun (r, ρ1) => (frzO r).bind fun d => (seqD d).bind fun ds => some (ds, ρ1)
  | .rng1 a, ρ => (opd a (evE a) ρ).bind fun (x, ρ1) => (der ρ1 x).bind fun d => match d with
      | .int j => if in62 j = true then some (rngD 0 j, ρ1) else none
      | _ => none
  | .rng2 a b, ρ => (opd a (evE a) ρ).bind fun (x, ρ1) => (opd b (evE b) ρ1).bind fun (y, ρ2) =>
      (der ρ2 x).bind fun d => (der ρ2 y).bind fun e => match d, e with
        | .int i, .int j => if in62 i = true ∧ in62 j = true then some (rngD i j, ρ2) else none
        | _, _ => none
  | .rng3 a b c, ρ => (opd a (evE a) ρ).bind fun (x, ρ1) => (opd b (evE b) ρ1).bind fun (y, ρ2) => (opd c (evE c) ρ2).bind fun (z, ρ3) =>
      (der ρ3 x).bind fun d => (der ρ3 y).bind fun e => (der ρ3 z).bind fun g => match d, e, g with
        | .int i, .int j, .int k => if in62 i = true ∧ in62 j = true ∧ k = -1 then some (rngC i (-1) (i - j).toNat, ρ3) else none
        | _, _, _ => none
  | .enum a, ρ => (evE a ρ).bind fun (r, ρ1) => (frzO r).bind fun d => match d with
      | .list xs => some (enumD xs, ρ1)
      | _ => none
  | .zip a b, ρ => (evE a ρ).bind fun (r, ρ1) => (frzO r).bind fun d => (evE b ρ1).bind fun (q, ρ2) => (frzO q).bind fun e => match d, e with
      | .list xs, .list ys => some (zipD xs ys, ρ2)
      | .tuple xs, .tuple ys => some (zipD xs ys, ρ2)
      | _, _ => none
  | _, _ => none
end
def augI : Operator → Int → Int → Option Int
  | .Add, a, b => some (a + b)
  | .Sub, a, b => some (a - b)
  | _, _, _ => none
def ex : S → Env → Option (Fl × Env)
  | .skip, ρ => some (.next, ρ)
  | .seq s t, ρ => (ex s ρ).bind fun (f, ρ1) => match f with
      | .next => ex t ρ1
      | f => some (f, ρ1)
  | .asg i e, ρ => (evE Φ e ρ).bind fun (r, ρ1) => some (.next, setS ρ1 i (some r))
  | .asgF i e, ρ => (evE Φ e ρ).bind fun (r, ρ1) => (frzO r).bind fun d => some (.next, setS ρ1 i (some (.v d)))
  | .asgT tg e, ρ => (evE Φ e ρ).bind fun (r, ρ1) => (frzO r).bind fun d => (bindT tg d ρ1).bind fun ρ2 => some (.next, ρ2)
  | .par i j a b, ρ => (evE Φ a ρ).bind fun (r, ρ1) => (evE Φ b ρ1).bind fun (q, ρ2) => if i < ρ2.length ∧ j < ρ2.length then some (.next, setS (setS ρ2 i (some r)) j (some q)) else none
  | .aug i op e, ρ => (getS ρ i).bind fun r => match r with
      | .v (.int a) => (opd e (evE Φ e) ρ).bind fun (y, ρ1) => (der ρ1 y).bind fun d => match d with
        | .int b => (augI op a b).bind fun z => some (.next, setS ρ1 i (some (.v (.int z))))
        | _ => none
      | _ => none
  | .setx i ix e, ρ => (evE Φ e ρ).bind fun (q, ρ1) => (frzO q).bind fun d => (getS ρ1 i).bind fun _ => (opd ix (evE Φ ix) ρ1).bind fun (y, ρ2) =>
      (der ρ2 y).bind fun k => (getS ρ2 i).bind fun r => match r, k with
        | .l xs, .int k => (ixN xs.length k).bind fun j => some (.next, setS ρ2 i (some (.l (xs.set j d))))
        | _, _ => none
  | .app i e, ρ => (getS ρ i).bind fun r0 => if r0.isL = true then (evE Φ e ρ).bind fun (q, ρ1) => (frzO q).bind fun d => (getS ρ1 i).bind fun r => match r with
      | .l xs => if okN (xs.length + 1) = true then some (.next, setS ρ1 i (some (.l (xs ++ [d])))) else none
      | _ => none
    else none
  | .ext i e, ρ => (getS ρ i).bind fun r0 => if r0.isL = true then (opd e (evE Φ e) ρ).bind fun (x, ρ1) => (der ρ1 x).bind fun d => (getS ρ1 i).bind fun r => match r, d with
      | .l xs, .list ys => if okN (xs.length + ys.length) = true then some (.next, setS ρ1 i (some (.l (xs ++ ys)))) else none
      | _, _ => none
    else none
  | .ret e, ρ => (evE Φ e ρ).bind fun (r, ρ1) => some (.ret r, ρ1)
  | .retN, ρ => some (.ret (.v .none), ρ)
  | .if_ c s t, ρ => (evT Φ c ρ).bind fun (k, ρ1) => match k with
      | true => ex s ρ1
      | false => ex t ρ1
  | .for_ tg it b, ρ => (evI Φ it ρ).bind fun (ds, ρ1) => forL (fun d ρ => (bindT tg d ρ).bind fun ρ2 => ex b ρ2) ds ρ1
  | .while_ c b, ρ => whileN (evT Φ c) (ex b) WF ρ
  | .brk, ρ => some (.brk, ρ)
  | .cont, ρ => some (.cont, ρ)
  | .pass, ρ => some (.next, ρ)
  | .drop e, ρ => (evE Φ e ρ).bind fun (_, ρ1) => some (.next, ρ1)
  | .never, _ => none
  | .dput i ix e, ρ => (evE Φ e ρ).bind fun (q, ρ1) => (frzO q).bind fun d => (getS ρ1 i).bind fun _ => (opd ix (evE Φ ix) ρ1).bind fun (y, ρ2) =>
      (der ρ2 y).bind fun kd => (getS ρ2 i).bind fun r => match r with
        | .m t kvs => (keyD t kd).bind fun k => if okN (kvs.length + 1) = true then some (.next, setS ρ2 i (some (.m t (putM kvs k d)))) else none
        | _ => none
  | .par3 i j l a b c, ρ => (evE Φ a ρ).bind fun (r, ρ1) => (evE Φ b ρ1).bind fun (q, ρ2) => (evE Φ c ρ2).bind fun (u, ρ3) =>
      if i < ρ3.length ∧ j < ρ3.length ∧ l < ρ3.length then some (.next, setS (setS (setS ρ3 i (some r)) j (some q)) l (some u)) else none
  | .xpar i ix j a b, ρ => (evF Φ (.cons a (.cons b .nil)) ρ).bind fun (ds, ρ1) => match ds with
      | [d, e] => (getS ρ1 i).bind fun _ => (opd ix (evE Φ ix) ρ1).bind fun (y, ρ2) => (der ρ2 y).bind fun kd => (getS ρ2 i).bind fun r => match r with
        | .m t kvs => (keyD t kd).bind fun k => if okN (kvs.length + 1) = true then some (.next, setS (setS ρ2 i (some (.m t (putM kvs k d)))) j (some (.v e))) else none
        | _ => none
      | _ => none
  | .swp i ix iy a b, ρ => (evF Φ (.cons a (.cons b .nil)) ρ).bind fun (ds, ρ1) => match ds with
      | [d, e] => (getS ρ1 i).bind fun _ => (opd ix (evE Φ ix) ρ1).bind fun (y, ρ2) => (der ρ2 y).bind fun kd => (getS ρ2 i).bind fun r => match r, kd with
        | .l xs, .int k => (ixN xs.length k).bind fun n => (opd iy (evE Φ iy) (setS ρ2 i (some (.l (xs.set n d))))).bind fun (z, ρ3) => (der ρ3 z).bind fun ld => (getS ρ3 i).bind fun r => match r, ld with
          | .l ys, .int l => (ixN ys.length l).bind fun m => some (.next, setS ρ3 i (some (.l (ys.set m e))))
          | _, _ => none
        | _, _ => none
      | _ => none
end
/-- the slots that a statement stores -/
def Tg.sl : Tg → List Nat
  | .nm i => [i]
  | .nil => []
  | .cons a b => a.sl ++ b.sl
  | .tp a => a.sl
def S.st : S → List Nat
  | .seq s t => s.st ++ t.st
  | .asg i _ => [i]
  | .asgF i _ => [i]
  | .asgT tg _ => tg.sl
  | .par i j _ _ => [i, j]
  | .aug i _ _ => [i]
  | .if_ _ s t => s.st ++ t.st
  | .for_ tg _ b => tg.sl ++ b.st
  | .while_ _ b => b.st
  | .par3 i j l _ _ _ => [i, j, l]
  | .xpar _ _ j _ _ => [j]
  | _ => []
structure Fn where
  np : Nat
  ns : Nat
  body : S
  fz : List Nat
def Fn.io (f : Fn) (j : Nat) : Bool := !(f.body.st.contains j) && !(f.fz.contains j)
def entryL (f : Fn) : Nat → List R → Env
  | _, [] => []
  | j, r :: rs => (if f.io j = true then some r else frzE r) :: entryL f (j + 1) rs
def outsL (f : Fn) (ρ : Env) : Nat → List R → Option (List R)
  | _, [] => some []
  | j, r :: rs => (if f.io j = true then getS ρ j else frzE r).bind fun q => (outsL f ρ (j + 1) rs).bind fun qs => some (q :: qs)
def flR : Fl → Option R
  | .ret r => some r
  | .next => some (.v .none)
  | _ => none
def runF (Φ : Str → List R → Option (R × List R)) (f : Fn) (rs : List R) : Option (R × List R) :=
  if rs.length = f.np then
    (ex Φ f.body (entryL f 0 rs ++ List.replicate (f.ns - f.np) none)).bind fun (fl, ρ) => (flR fl).bind fun r => (outsL f ρ 0 rs).bind fun outs => some (r, outs)
  else none
/-- the program, to a depth -/
def Ph (prog : Str → Option Fn) : Nat → Str → List R → Option (R × List R)
  | 0, _, _ => none
  | k + 1, f, rs => (prog f).bind fun fn => runF (Ph prog k) fn rs
end Pv
namespace Pv
open PySem PySem.Spec L2
/-! ## the look: does the text say what the small language says? -/
structure Ctx where
  N : List Str
  sc : Scope
  fnb : Str → Bool
structure Tab where
  fns : List (Str × Nat)
  cs : List (Str × Int)
  fr : List Str
def sEq (a b : Str) : Bool := decide (a = b)
def dbgB (x : Str) : Bool := !(x == ("__debug__" : Str)) && !(x == ("__classdict__" : Str))
def kindIs (sc : Scope) (x : Str) (k : NameKind) : Bool := decide (sc.names.lookup x = some k)
def visB (sc : Scope) (x : Str) : Bool := kindIs sc x .local || kindIs sc x .cell || kindIs sc x .free
def varB (c : Ctx) (i : Nat) (x : Str) : Bool := decide (c.N[i]? = some x) && visB c.sc x && dbgB x
def stoB (c : Ctx) (i : Nat) (x : Str) : Bool := decide (c.N[i]? = some x) && (kindIs c.sc x .local || (kindIs c.sc x .cell && c.fnb x))
def gloB (c : Ctx) (x : Str) : Bool := kindIs c.sc x .globalImplicit && dbgB x
def bltB (t : Tab) (c : Ctx) (x : Str) : Bool := gloB c x && t.fr.any (sEq x)
def isStar : Expr → Bool
  | .Starred .. => true
  | _ => false
def noStar (es : List Expr) : Bool := es.all fun e => !isStar e
def notSuper : Expr → Bool
  | .Call (.Name _ _) [] [] _ => false
  | _ => true
def plainTest : Expr → Bool
  | .UnaryOp .. => false
  | .BoolOp .. => false
  | .IfExp .. => false
  | .Compare .. => false
  | _ => true
def plainIx : Expr → Bool
  | .Name .. => true
  | .BinOp .. => true
  | .Constant (.int _) _ _ => true
  | .Subscript .. => true
  | .Call .. => true
  | .UnaryOp .. => true
  | _ => false
/-- .. a display of a tuple besides -/
def plainIxT : Expr → Bool
  | .Tuple .. => true
  | e => plainIx e
def noSet : Expr → Bool
  | .Set .. => false
  | _ => true
def Bi.nm : Bi → Str
  | .len => "len"
  | .tuple => "tuple"
  | .list => "list"
  | .all => "all"
  | .any => "any"
  | .int => "int"
  | .abs => "abs"
  | .min2 => "min"
  | .max2 => "max"
  | .sum => "sum"
  | .min => "min"
  | .max => "max"
  | .sorted => "sorted"
def Bi.ar : Bi → Nat
  | .min2 => 2
  | .max2 => 2
  | _ => 1
def Ty.nm : Ty → Str
  | .int => "int"
  | .bool => "bool"
  | .str => "str"
  | .tuple => "tuple"
  | .list => "list"
def Mt.nm : Mt → Str
  | .index => "index"
  | .count => "count"
def chkTy (t : Tab) (c : Ctx) (y : Ty) : Expr → Bool
  | .Name x _ => sEq x y.nm && bltB t c x
  | _ => false
def chkTys (t : Tab) (c : Ctx) : List Ty → List Expr → Bool
  | [], [] => true
  | y :: ys, e :: es => chkTy t c y e && chkTys t c ys es
  | _, _ => false
def isiB (t : Tab) (c : Ctx) (ts : List Ty) : Expr → Bool
  | .Tuple es _ _ => chkTys t c ts es && decide (es.length ≤ 10)
  | f => match ts with
    | [y] => chkTy t c y f
    | _ => false
def blkCtx (c : Ctx) (scope : Scope) : Ctx := ⟨c.N, relS scope c.sc, fun x => scope.names.lookup x == some .cell⟩
def ownOf (N : List Str) (vs : List Nat) : List (Str × Nat) := vs.filterMap fun v => N[v]?.map fun x => (x, v)
mutual
def chkTg (c : Ctx) : Tg → Expr → Bool
  | .nm i, .Name x _ => stoB c i x
  | .tp a, .Tuple es _ _ => chkTgs c a es && noStar es
  | _, _ => false
def chkTgs (c : Ctx) : Tg → List Expr → Bool
  | .nil, [] => true
  | .cons a b, e :: es => chkTg c a e && chkTgs c b es
  | _, _ => false
end
def tgTup : Expr → Bool
  | .Tuple .. => true
  | _ => false
def isYes : E → Bool
  | .tyes => true
  | _ => false
section
variable (t : Tab)
mutual
def chkE : E → Ctx → Expr → Bool
  | .var i, c, .Name x _ => varB c i x
  | .mv i, c, .Name x _ => varB c i x
  | .num z, _, .Constant (.int y) _ _ => decide (z = y)
  | .bl b, _, .Constant (.bool y) _ _ => b == y
  | .non, _, .Constant .none _ _ => true
  | .str x, _, .Constant (.str y) _ _ => sEq x y
  | .cst x z, c, .Name y _ => sEq x y && gloB c y && t.cs.any fun p => sEq p.1 x && decide (p.2 = z)
  | .bin op a b, c, .BinOp l o r _ => decide (op = o) && chkE a c l && chkE b c r
  | .neg a, c, .UnaryOp .USub l _ => chkE a c l
  | .cmp op a b, c, .Compare l [o] [r] _ => decide (op = o) && chkE a c l && chkE b c r && noSet r
  | .chain p q a b d, c, .Compare l [p', q'] [m, r] _ => decide (p = p') && decide (q = q') && chkE a c l && chkE b c m && chkE d c r && noSet m && noSet r
  | .and_ a b, c, .BoolOp .And (x :: y :: []) _ => chkE a c x && chkE b c y
  | .and_ a b, c, .BoolOp .And (x :: y :: z :: r) pos => chkE a c x && chkE b c (.BoolOp .And (y :: z :: r) pos)
  | .or_ a b, c, .BoolOp .Or (x :: y :: []) _ => chkE a c x && chkE b c y
  | .or_ a b, c, .BoolOp .Or (x :: y :: z :: r) pos => chkE a c x && chkE b c (.BoolOp .Or (y :: z :: r) pos)
  | .not_ a, c, .UnaryOp .Not l _ => chkE a c l
  | .ife d a b, c, .IfExp x l r _ => chkT d c x && chkE a c l && chkE b c r
  | .tup es, c, .Tuple l _ _ => chkO es c l
  | .lst es, c, .List l _ => chkO es c l
  | .idx a b, c, .Subscript l r _ => chkE a c l && chkE b c r && plainIx r
  | .slc a lo hi, c, .Subscript l (.Slice u v none _) _ => chkE a c l && chkB lo c u && chkB hi c v
  | .rev a, c, .Subscript l (.Slice none none (some (.UnaryOp .USub (.Constant (.int y) _ _) _)) _) _ => chkE a c l && decide (y = 1)
  | .call f es, c, .Call (.Name x _) args [] _ => sEq x f && gloB c x && (t.fns.any fun p => sEq p.1 x && decide (p.2 = args.length)) && chkO es c args && !args.isEmpty && noStar args
  | .bi b es, c, .Call (.Name x _) args [] _ => sEq x b.nm && bltB t c x && chkO es c args && decide (args.length = b.ar) && noStar args
  | .isi a ts, c, .Call (.Name x _) [e, f] [] _ => sEq x "isinstance" && bltB t c x && chkE a c e && !isStar e && isiB t c ts f
  | .mt m o es, c, .Call (.Attribute l x apos) [y] [] cpos => sEq x m.nm && chkE o c l && notSuper l && chkO es c [y] && !isStar y && (apos.endLine == cpos.line)
  | .pop i, c, .Call (.Attribute (.Name y _) x apos) [] [] cpos => sEq x "pop" && varB c i y && (apos.endLine == cpos.line)
  | .lrg true it, c, .Call (.Name x _) [e] [] _ => sEq x "tuple" && bltB t c x && chkR it c e
  | .lrg false it, c, .Call (.Name x _) [e] [] _ => sEq x "list" && bltB t c x && chkR it c e
  | .comp elt tg it ifs vs, c, .ListComp e [⟨g, iter, fs, z⟩] scope _ => decide (z = 0) && chkI it c g iter && noSet iter && blkC c.N c.sc scope (ownOf c.N vs) && decide ((ownOf c.N vs).map (·.2) = vs) && (tg.sl.all fun i => vs.contains i) && decide vs.Nodup &&
      chkTg (blkCtx c scope) tg g && (match fs with
      | [] => isYes ifs
      | [f] => chkT ifs (blkCtx c scope) f
      | _ => false) && chkE elt (blkCtx c scope) e
  | .dnew _, _, .Dict [] [] _ => true
  | .dget i a, c, .Subscript (.Name x _) r _ => varB c i x && chkE a c r && plainIxT r
  | .din n i a, c, .Compare l [o] [.Name x _] _ => decide ((if n then CmpOp.NotIn else CmpOp.In) = o) && chkE a c l && varB c i x
  | .dsort i, c, .Call (.Name x _) [.Name y _] [] _ => sEq x "sorted" && bltB t c x && varB c i y
  | .dlen i, c, .Call (.Name x _) [.Name y _] [] _ => sEq x "len" && bltB t c x && varB c i y
  | .bits a, c, .Call (.Attribute l x apos) [] [] cpos => sEq x "bit_length" && chkE a c l && notSuper l && (apos.endLine == cpos.line)
  | .sset a, c, .Call (.Name x _) [.Call (.Name y _) [e] [] _] [] _ => sEq x "sorted" && bltB t c x && sEq y "set" && bltB t c y && chkE a c e && !isStar e
  | .stc f a, c, .Call (.Name x _) [.Starred e _] [] _ => sEq x f && gloB c x && (t.fns.any fun p => sEq p.1 x) && chkE a c e
  | _, _, _ => false
def chkT : E → Ctx → Expr → Bool
  | .tt a, c, e => chkE a c e && plainTest e
  | .tcmp op a b, c, .Compare l [o] [r] _ => decide (op = o) && chkE a c l && chkE b c r && noSet r
  | .tchain p q a b d, c, .Compare l [p', q'] [m, r] _ => decide (p = p') && decide (q = q') && chkE a c l && chkE b c m && chkE d c r && noSet m && noSet r
  | .tand a b, c, .BoolOp .And (x :: y :: []) _ => chkT a c x && chkT b c y
  | .tand a b, c, .BoolOp .And (x :: y :: z :: r) pos => chkT a c x && chkT b c (.BoolOp .And (y :: z :: r) pos)
  | .tor a b, c, .BoolOp .Or (x :: y :: []) _ => chkT a c x && chkT b c y
  | .tor a b, c, .BoolOp .Or (x :: y :: z :: r) pos => chkT a c x && chkT b c (.BoolOp .Or (y :: z :: r) pos)
  | .tnot a, c, .UnaryOp .Not l _ => chkT a c l
  | .tdin n i a, c, .Compare l [o] [.Name x _] _ => decide ((if n then CmpOp.NotIn else CmpOp.In) = o) && chkE a c l && varB c i x
  | _, _, _ => false
def chkO : E → Ctx → List Expr → Bool
  | .nil, _, [] => true
  | .cons a b, c, e :: es => chkE a c e && !isStar e && chkO b c es
  | _, _, _ => false
def chkB : E → Ctx → Option Expr → Bool
  | .nob, _, none => true
  | .it a, c, some e => chkE a c e
  | _, _, _ => false
def chkR : E → Ctx → Expr → Bool
  | .rng1 a, c, .Call (.Name x _) [e] [] _ => sEq x "range" && bltB t c x && chkE a c e && !isStar e
  | .rng2 a b, c, .Call (.Name x _) [e, f] [] _ => sEq x "range" && bltB t c x && chkE a c e && chkE b c f && !isStar e && !isStar f
  | _, _, _ => false
def chkI : E → Ctx → Expr → Expr → Bool
  | .it a, c, _, e => chkE a c e
  | .rng1 a, c, _, .Call (.Name x _) [e] [] _ => sEq x "range" && bltB t c x && chkE a c e && !isStar e
  | .rng2 a b, c, _, .Call (.Name x _) [e, f] [] _ => sEq x "range" && bltB t c x && chkE a c e && chkE b c f && !isStar e && !isStar f
  | .rng3 a b d, c, _, .Call (.Name x _) [e, f, g] [] _ => sEq x "range" && bltB t c x && chkE a c e && chkE b c f && chkE d c g && !isStar e && !isStar f && !isStar g
  | .enum a, c, tg, .Call (.Name x _) [e] [] _ => sEq x "enumerate" && bltB t c x && chkE a c e && !isStar e && tgTup tg
  | .zip a b, c, tg, .Call (.Name x _) [e, f] [] _ => sEq x "zip" && bltB t c x && chkE a c e && chkE b c f && !isStar e && !isStar f && tgTup tg
  | _, _, _, _ => false
end
def isComp : Expr → Bool
  | .ListComp .. => true
  | .SetComp .. => true
  | .DictComp .. => true
  | _ => false
def asgB (c : Ctx) (x : Str) (py : Pos) : Expr → Bool
  | .ListComp _ _ scope pos => ((py.line == pos.line) && kindIs c.sc x .local && !(scope.names.any fun (n, k) => n == x && (k == .local || k == .cell))) || !(kindIs c.sc x .local)
  | v => !isComp v
def plainV : Expr → Bool
  | .Tuple .. => false
  | .SetComp .. => false
  | .DictComp .. => false
  | _ => true
/-- are the stores of x, y = v, w swapped? -/
def parA (c : Ctx) (x y : Str) (px py : Pos) (v w : Expr) : Bool := kindIs c.sc x .local && kindIs c.sc y .local && px.line == py.line && !sEq x y && !(foldedForSure 8 v && foldedForSure 8 w) && !(constantsAlone 8 v && constantsAlone 8 w)
def parB (c : Ctx) (x y : Str) (px py : Pos) (v w : Expr) : Bool := !(kindIs c.sc x .local) || !(kindIs c.sc y .local) || !(px.line == py.line) || (foldedForSure 8 v && foldedForSure 8 w)
def par3B (c : Ctx) (x y z : Str) (px py pz : Pos) (u v w : Expr) : Bool := kindIs c.sc x .local && kindIs c.sc y .local && kindIs c.sc z .local && px.line == py.line && px.line == pz.line && !sEq x y && !sEq x z && !sEq y z && !(foldedForSure 8 u && foldedForSure 8 v && foldedForSure 8 w) && !(constantsAlone 8 u && constantsAlone 8 v && constantsAlone 8 w)
def augOp : Operator → Bool
  | .Add => true
  | .Sub => true
  | _ => false
mutual
def chkS : S → Ctx → Stmt → Bool
  | .asg i e, c, .Assign [.Name x py] v _ => stoB c i x && chkE t e c v && asgB c x py v
  | .asgF i e, c, .Assign [.Name x py] v _ => stoB c i x && chkE t e c v && asgB c x py v
  | .asgT tg e, c, .Assign [.Tuple es k pos] v _ => chkTg c tg (.Tuple es k pos) && chkE t e c v && plainV v
  | .setx i ix e, c, .Assign [.Subscript (.Name x _) r _] v _ => varB c i x && chkE t ix c r && plainIx r && chkE t e c v && !isComp v
  | .aug i op e, c, .AugAssign (.Name x _) op' v _ => augOp op && decide (op = op') && varB c i x && stoB c i x && chkE t e c v
  | .app i e, c, .Expr (.Call (.Attribute (.Name x _) m apos) [v] [] cpos) _ => sEq m "append" && varB c i x && chkE t e c v && !isStar v && (apos.endLine == cpos.line)
  | .ext i e, c, .Expr (.Call (.Attribute (.Name x _) m apos) [v] [] cpos) _ => sEq m "extend" && varB c i x && chkE t e c v && !isStar v && (apos.endLine == cpos.line)
  | .ret e, c, .Return (some v) _ => chkE t e c v
  | .retN, _, .Return none _ => true
  | .if_ d s u, c, .If x a b _ => chkT t d c x && chkSs s c a && chkSs u c b
  | .for_ tg it b, c, .For g iter body [] _ => chkI t it c g iter && noSet iter && chkTg c tg g && chkSs b c body
  | .while_ d b, c, .While x body [] _ => chkT t d c x && chkSs b c body
  | .brk, _, .Break _ => true
  | .cont, _, .Continue _ => true
  | .pass, _, .Pass _ => true
  | .drop e, c, .Expr v _ => chkE t e c v && !isComp v
  | .par i j a b, c, .Assign [.Tuple [.Name x px, .Name y py] _ _] (.Tuple [v, w] _ _) _ => stoB c i x && stoB c j y && decide (i ≠ j) && chkE t a c v && chkE t b c w && !isStar v && !isStar w && (parA c x y px py v w || parB c x y px py v w)
  | .never, _, _ => true
  | .dput i ix e, c, .Assign [.Subscript (.Name x _) r _] v _ => varB c i x && chkE t ix c r && plainIxT r && chkE t e c v && !isComp v
  | .par3 i j l a b d, c, .Assign [.Tuple [.Name x px, .Name y py, .Name z pz] _ _] (.Tuple [u, v, w] _ _) _ => stoB c i x && stoB c j y && stoB c l z && decide (i ≠ j ∧ i ≠ l ∧ j ≠ l) && chkE t a c u && chkE t b c v && chkE t d c w && !isStar u && !isStar v && !isStar w && par3B c x y z px py pz u v w
  | .xpar i ix j a b, c, .Assign [.Tuple [.Subscript (.Name x _) r _, .Name y _] _ _] (.Tuple [v, w] _ _) _ => varB c i x && stoB c j y && decide (i ≠ j) && chkE t ix c r && plainIx r && chkE t a c v && chkE t b c w && !isStar v && !isStar w
  | .swp i ix iy a b, c, .Assign [.Tuple [.Subscript (.Name x _) r _, .Subscript (.Name y _) s _] _ _] (.Tuple [v, w] _ _) _ => varB c i x && varB c i y && chkE t ix c r && plainIx r && chkE t iy c s && plainIx s && chkE t a c v && chkE t b c w && !isStar v && !isStar w
  | _, _, _ => false
def chkSs : S → Ctx → List Stmt → Bool
  | .skip, _, [] => true
  | .seq s u, c, x :: xs => chkS s c x && chkSs u c xs
  | .never, _, _ => true
  | _, _, _ => false
end
end
end Pv
namespace Pv
open PySem PySem.Spec L2
/-! ## slots -/
theorem getS_eq : ∀ {ρ : Env} {i : Nat} {r : R}, getS ρ i = some r ↔ ρ[i]? = some (some r)
  | [], i, r => by simp [getS]
  | q :: ρ, 0, r => by simp [getS]
  | q :: ρ, i + 1, r => by
    rw [List.getElem?_cons_succ]
    exact getS_eq (ρ := ρ)
theorem setS_eq : ∀ (ρ : Env) (i : Nat) (r : Option R), setS ρ i r = ρ.set i r
  | [], _, _ => rfl
  | q :: ρ, 0, r => rfl
  | q :: ρ, i + 1, r => congrArg (q :: ·) (setS_eq ρ i r)
theorem setS_len (ρ : Env) (i : Nat) (r : Option R) : (setS ρ i r).length = ρ.length := by rw [setS_eq, List.length_set]
theorem getS_setS_self {ρ : Env} {i : Nat} {r : Option R} (h : i < ρ.length) : getS (setS ρ i r) i = r := by
  cases r with
  | some r => exact getS_eq.mpr (by rw [setS_eq, List.getElem?_set_self h])
  | none =>
    cases e : getS (setS ρ i none) i with
    | none => rfl
    | some q =>
      have := getS_eq.mp e
      rw [setS_eq, List.getElem?_set_self h] at this
      cases this
theorem getS_setS_ne {ρ : Env} {i j : Nat} {r : Option R} (h : i ≠ j) : getS (setS ρ i r) j = getS ρ j := by
  cases e : getS ρ j with
  | some q => exact getS_eq.mpr (by rw [setS_eq, List.getElem?_set_ne h]; exact getS_eq.mp e)
  | none =>
    cases e2 : getS (setS ρ i r) j with
    | none => rfl
    | some q =>
      have := getS_eq.mp e2
      rw [setS_eq, List.getElem?_set_ne h] at this
      rw [getS_eq.mpr this] at e
      cases e
theorem getS_lt {ρ : Env} {i : Nat} {r : R} (h : getS ρ i = some r) : i < ρ.length := (List.getElem?_eq_some_iff.mp (getS_eq.mp h)).1
section
variable {K : PySem.W.Frag} {F H : Hp} {ρ : Env} {σ : St} {i j : Nat} {r q : R} {v w : V}
theorem hold_set (hl : ρ.length = σ.length) (h : Hold (setS ρ i (some r)) (σ.set i (some v)) j q w) : (j = i ∧ q = r ∧ w = v) ∨ (j ≠ i ∧ Hold ρ σ j q w) := by
  obtain ⟨h1, h2⟩ := h
  rw [setS_eq] at h1
  by_cases e : i = j
  · subst e
    have l1 : i < ρ.length := by
      have := (List.getElem?_eq_some_iff.mp h1).1
      rw [List.length_set] at this
      exact this
    rw [List.getElem?_set_self l1] at h1
    rw [List.getElem?_set_self (by omega)] at h2
    cases h1
    cases h2
    exact .inl ⟨rfl, rfl, rfl⟩
  · rw [List.getElem?_set_ne e] at h1 h2
    exact .inr ⟨fun z => e z.symm, h1, h2⟩
theorem hold_setR (h : Hold (setS ρ i (some r)) σ j q w) : (j = i ∧ q = r ∧ σ[i]? = some (some w)) ∨ (j ≠ i ∧ Hold ρ σ j q w) := by
  obtain ⟨h1, h2⟩ := h
  rw [setS_eq] at h1
  by_cases e : i = j
  · subst e
    have l1 : i < ρ.length := by
      have := (List.getElem?_eq_some_iff.mp h1).1
      rw [List.length_set] at this
      exact this
    rw [List.getElem?_set_self l1] at h1
    cases h1
    exact .inl ⟨rfl, rfl, h2⟩
  · rw [List.getElem?_set_ne e] at h1
    exact .inr ⟨fun z => e z.symm, h1, h2⟩
theorem hold_setN (h : Hold (setS ρ i none) σ j q w) : j ≠ i ∧ Hold ρ σ j q w := by
  obtain ⟨h1, h2⟩ := h
  rw [setS_eq] at h1
  by_cases e : i = j
  · subst e
    have l1 : i < ρ.length := by
      have := (List.getElem?_eq_some_iff.mp h1).1
      rw [List.length_set] at this
      exact this
    rw [List.getElem?_set_self l1] at h1
    cases h1
  · rw [List.getElem?_set_ne e] at h1
    exact ⟨fun z => e z.symm, h1, h2⟩
/-- a slot forgotten -/
theorem Good.drop (g : Good K F H ρ σ) (i : Nat) : Good K F H (setS ρ i none) σ :=
  g.map (by rw [setS_len]; exact g.len) (fun j r h => by
    rw [setS_eq] at h
    by_cases e : i = j
    · subst e
      have l1 : i < ρ.length := by
        have := (List.getElem?_eq_some_iff.mp h).1
        rw [List.length_set] at this
        exact this
      rw [List.getElem?_set_self l1] at h
      cases h
    · rw [List.getElem?_set_ne e] at h
      exact g.has j r h) id (fun j r v h => (hold_setN h).2) (fun _ _ _ _ _ _ _ _ _ e => e)
theorem own_drop {a : Addr} : Own (setS ρ i none) σ a → Own ρ σ a := Own.map id fun j r v h => (hold_setN h).2
theorem hold_last {τ : Env} {υ : St} (hl : ρ.length = σ.length) (h : Hold (ρ ++ [some r]) (σ ++ [some v]) j q w) : (j = ρ.length ∧ q = r ∧ w = v) ∨ (j < ρ.length ∧ Hold ρ σ j q w) := by
  by_cases e : j < ρ.length
  · exact .inr ⟨e, (hold_left hl e).mp h⟩
  · have z := (hold_right hl (by omega)).mp h
    obtain ⟨h1, h2⟩ := z
    have e0 : j - ρ.length = 0 := by
      have := (List.getElem?_eq_some_iff.mp h1).1
      simp at this
      omega
    rw [e0] at h1 h2
    simp at h1 h2
    exact .inl ⟨by omega, h1.symm, h2.symm⟩
theorem hold_top (hl : ρ.length = σ.length) : Hold (ρ ++ [some r]) (σ ++ [some v]) ρ.length r v :=
  (hold_right hl (Nat.le_refl _)).mpr (by rw [Nat.sub_self]; exact ⟨rfl, rfl⟩)
/-- the last one put into a slot -/
theorem Good.put (g : Good K F H (ρ ++ [some r]) (σ ++ [some v])) (hl : ρ.length = σ.length) (i : Nat) : Good K F H (setS ρ i (some r)) (σ.set i (some v)) := by
  have g0 := g.left hl
  refine g.map (by rw [setS_len, List.length_set]; exact hl) (fun j q h => ?_) (fun j => if j = i then ρ.length else j) (fun j q w h => ?_) (fun a b q q' ad h1 h2 o1 o2 e => ?_)
  · rw [setS_eq] at h
    by_cases e : i = j
    · subst e
      have l1 : i < ρ.length := by
        have := (List.getElem?_eq_some_iff.mp h).1
        rw [List.length_set] at this
        exact this
      exact ⟨v, List.getElem?_set_self (by omega)⟩
    · rw [List.getElem?_set_ne e] at h
      rw [List.getElem?_set_ne e]
      exact g0.has j q h
  · rcases hold_set hl h with ⟨rfl, rfl, rfl⟩ | ⟨ne, h⟩
    · rw [if_pos rfl]
      exact hold_top hl
    · rw [if_neg ne]
      exact hold_app h
  · have la := hold_lt h1
    have lb := hold_lt h2
    rw [setS_len] at la lb
    by_cases ea : a = i <;> by_cases eb : b = i
    · omega
    · rw [if_pos ea, if_neg eb] at e
      omega
    · rw [if_neg ea, if_pos eb] at e
      omega
    · rw [if_neg ea, if_neg eb] at e
      exact e
theorem own_put {a : Addr} (hl : ρ.length = σ.length) : Own (setS ρ i (some r)) (σ.set i (some v)) a → Own (ρ ++ [some r]) (σ ++ [some v]) a := fun ⟨j, q, h, o⟩ => by
  rcases hold_set hl h with ⟨rfl, rfl, rfl⟩ | ⟨ne, h⟩
  · exact ⟨_, _, hold_top hl, o⟩
  · exact ⟨j, q, hold_app h, o⟩
/-- a slot's value taken out -/
theorem Good.move (g : Good K F H ρ σ) (hr : getS ρ i = some r) (hv : σ[i]? = some (some v)) : Good K F H (setS ρ i none ++ [some r]) (σ ++ [some v]) := by
  have hl := g.len
  have hl' : (setS ρ i none).length = σ.length := by rw [setS_len]; exact hl
  have hi := getS_lt hr
  refine g.map (by simp only [List.length_append, hl', List.length_cons, List.length_nil]) (fun j q h => ?_) (fun j => if j = ρ.length then i else j) (fun j q w h => ?_) (fun a b q q' ad h1 h2 o1 o2 e => ?_)
  · by_cases e : j < (setS ρ i none).length
    · rw [List.getElem?_append_left e] at h
      obtain ⟨w, z⟩ := (g.drop i).has j q h
      exact ⟨w, by rw [List.getElem?_append_left (by omega)]; exact z⟩
    · rw [List.getElem?_append_right (by omega)] at h
      have := (List.getElem?_eq_some_iff.mp h).1
      simp at this
      exact ⟨v, by rw [List.getElem?_append_right (by omega), show j - σ.length = 0 by omega]; rfl⟩
  · rcases hold_last (τ := []) (υ := []) hl' h with ⟨e, rfl, rfl⟩ | ⟨lt, h⟩
    · rw [setS_len] at e
      rw [if_pos e]
      exact ⟨getS_eq.mp hr, hv⟩
    · rw [setS_len] at lt
      rw [if_neg (by omega)]
      exact (hold_setN h).2
  · rcases hold_last (τ := []) (υ := []) hl' h1 with ⟨ea, _, _⟩ | ⟨la, k1⟩ <;> rcases hold_last (τ := []) (υ := []) hl' h2 with ⟨eb, _, _⟩ | ⟨lb, k2⟩
    · omega
    · rw [setS_len] at ea lb
      rw [if_pos ea, if_neg (by omega)] at e
      exact absurd e.symm (hold_setN k2).1
    · rw [setS_len] at eb la
      rw [if_pos eb, if_neg (by omega)] at e
      exact absurd e (hold_setN k1).1
    · rw [setS_len] at la lb
      rw [if_neg (by omega), if_neg (by omega)] at e
      exact e
theorem own_move {a : Addr} (hl : ρ.length = σ.length) (hr : getS ρ i = some r) (hv : σ[i]? = some (some v)) : Own (setS ρ i none ++ [some r]) (σ ++ [some v]) a → Own ρ σ a := fun ⟨j, q, h, o⟩ => by
  rcases hold_last (τ := []) (υ := []) (by rw [setS_len]; exact hl) h with ⟨_, rfl, rfl⟩ | ⟨_, h⟩
  · exact ⟨i, _, ⟨getS_eq.mp hr, hv⟩, o⟩
  · exact ⟨j, q, (hold_setN h).2, o⟩
/-- one more, that owns nothing -/
theorem Good.more (g : Good K F H ρ σ) (hr : r.own = false) (h : RepR K F H v r) : Good K F H (ρ ++ [some r]) (σ ++ [some v]) := by
  have hl := g.len
  refine ⟨g.sub, by simp only [List.length_append, hl, List.length_cons, List.length_nil], fun j q e => ?_, fun j q w e => ?_, fun a b q q' ad h1 h2 o1 o2 => ?_⟩
  · by_cases e2 : j < ρ.length
    · rw [List.getElem?_append_left e2] at e
      obtain ⟨w, z⟩ := g.has j q e
      exact ⟨w, by rw [List.getElem?_append_left (by omega)]; exact z⟩
    · rw [List.getElem?_append_right (by omega)] at e
      have := (List.getElem?_eq_some_iff.mp e).1
      simp at this
      exact ⟨v, by rw [List.getElem?_append_right (by omega), show j - σ.length = 0 by omega]; rfl⟩
  · rcases hold_last (τ := []) (υ := []) hl e with ⟨_, rfl, rfl⟩ | ⟨_, e⟩
    · exact h
    · exact g.rep j q w e
  · rcases hold_last (τ := []) (υ := []) hl h1 with ⟨_, rfl, _⟩ | ⟨_, k1⟩
    · rw [hr] at o1
      cases o1
    · rcases hold_last (τ := []) (υ := []) hl h2 with ⟨_, rfl, _⟩ | ⟨_, k2⟩
      · rw [hr] at o2
        cases o2
      · exact g.dis a b q q' ad k1 k2 o1 o2
theorem own_more {a : Addr} (hl : ρ.length = σ.length) (hr : r.own = false) : Own (ρ ++ [some r]) (σ ++ [some v]) a → Own ρ σ a := fun ⟨j, q, h, o⟩ => by
  rcases hold_last (τ := []) (υ := []) hl h with ⟨_, rfl, _⟩ | ⟨_, h⟩
  · rw [hr] at o
    cases o
  · exact ⟨j, q, h, o⟩
theorem own_left {τ : Env} {υ : St} {a : Addr} : Own ρ σ a → Own (ρ ++ τ) (σ ++ υ) a := fun ⟨j, q, h, o⟩ => ⟨j, q, hold_app h, o⟩
/-- objects that nobody of ours changes are added, own ones stay -/
theorem Good.grow {F1 H1 : Hp} (g : Good K F H ρ σ) (s : Step F H (fun _ => False) F1 H1 (fun _ => False)) (hs : Sub F1 H1) : Good K F1 H1 ρ σ :=
  ⟨hs, g.len, g.has, fun i r v h => (g.rep i r v h).frame s fun _ _ _ z => z, g.dis⟩
theorem own_ne (g : Good K F H ρ σ) {a p : Addr} (h : Own ρ σ a) (hp : H p = none) : a ≠ p := by
  obtain ⟨i, r, h, o⟩ := h
  have := g.rep _ _ _ h
  cases r with
  | v _ => cases o
  | s _ => cases o
  | l xs =>
    obtain ⟨b, vs, e, hb, _⟩ := this
    cases e
    exact ne_of_none hb hp
  | m t kvs =>
    obtain ⟨b, vs, e, hb, _⟩ := this
    cases e
    exact ne_of_none hb hp
theorem own_nf (g : Good K F H ρ σ) {a : Addr} (h : Own ρ σ a) : F a = none ∧ ∃ o, H a = some o := by
  obtain ⟨i, r, h, o⟩ := h
  have := g.rep _ _ _ h
  cases r with
  | v _ => cases o
  | s _ => cases o
  | l xs =>
    obtain ⟨b, vs, e, hb, _, hf⟩ := this
    cases e
    exact ⟨hf, _, hb⟩
  | m t kvs =>
    obtain ⟨b, vs, e, hb, _, hf⟩ := this
    cases e
    exact ⟨hf, _, hb⟩
/-- a new own object -/
theorem Good.newR (g : Good K F H ρ σ) {p : Addr} (hp : H p = none) {o : HO} {r : R} (h : F p = none → RepR K F (upd H p o) (.ref p) r) : Good K F (upd H p o) (ρ ++ [some r]) (σ ++ [some (.ref p)]) := by
  have hl := g.len
  have g1 : Good K F (upd H p o) ρ σ := by
    refine ⟨g.sub.updR (g.sub.none hp), g.len, g.has, fun i r v e => ?_, g.dis⟩
    refine (g.rep i r v e).frame (O := fun _ => False) (O1 := fun _ => False) ⟨fun _ _ z => z, fun a o z _ => by rw [upd_ne (ne_of_none z hp)]; exact z, fun _ z => .inl z, fun _ z => .inl z, fun a z => ?_⟩ fun _ _ _ z => z
    by_cases e : a = p
    · subst e
      exact absurd hp z
    · rw [upd_ne e]
      exact z
  refine ⟨g1.sub, by simp only [List.length_append, hl, List.length_cons, List.length_nil], fun j q e => ?_, fun j q w e => ?_, fun a b q q' ad h1 h2 o1 o2 => ?_⟩
  · by_cases e2 : j < ρ.length
    · rw [List.getElem?_append_left e2] at e
      obtain ⟨w, z⟩ := g.has j q e
      exact ⟨w, by rw [List.getElem?_append_left (by omega)]; exact z⟩
    · rw [List.getElem?_append_right (by omega)] at e
      have := (List.getElem?_eq_some_iff.mp e).1
      simp at this
      exact ⟨.ref p, by rw [List.getElem?_append_right (by omega), show j - σ.length = 0 by omega]; rfl⟩
  · rcases hold_last (τ := []) (υ := []) hl e with ⟨_, rfl, rfl⟩ | ⟨_, e⟩
    · exact h (g.sub.none hp)
    · exact g1.rep j q w e
  · rcases hold_last (τ := []) (υ := []) hl h1 with ⟨ea, rfl, e1⟩ | ⟨_, k1⟩ <;> rcases hold_last (τ := []) (υ := []) hl h2 with ⟨eb, rfl, e2⟩ | ⟨_, k2⟩
    · omega
    · cases e1
      exact absurd rfl (own_ne g ⟨_, _, k2, o2⟩ hp)
    · cases e2
      exact absurd rfl (own_ne g ⟨_, _, k1, o1⟩ hp)
    · exact g.dis a b q q' ad k1 k2 o1 o2
theorem own_newR {p a : Addr} {r : R} (hl : ρ.length = σ.length) : Own (ρ ++ [some r]) (σ ++ [some (.ref p)]) a → Own ρ σ a ∨ a = p := fun ⟨j, q, h, o⟩ => by
  rcases hold_last (τ := []) (υ := []) hl h with ⟨_, rfl, e⟩ | ⟨_, h⟩
  · cases e
    exact .inr rfl
  · exact .inl ⟨j, q, h, o⟩
/-- a new own list -/
theorem Good.newL (g : Good K F H ρ σ) {p : Addr} (hp : H p = none) {vs : List V} {xs : List D} (h : RpAll F vs xs) : Good K F (upd H p (.lst vs)) (ρ ++ [some (.l xs)]) (σ ++ [some (.ref p)]) := g.newR hp fun hf => ⟨p, vs, rfl, upd_same, h, hf⟩
theorem own_newL {p a : Addr} {xs : List D} (hl : ρ.length = σ.length) : Own (ρ ++ [some (.l xs)]) (σ ++ [some (.ref p)]) a → Own ρ σ a ∨ a = p := own_newR hl
/-- a new object that nobody changes -/
theorem Good.newF (g : Good K F H ρ σ) {p : Addr} {o : HO} (hp : H p = none) : Good K (upd F p o) (upd H p o) ρ σ :=
  g.grow (Step.fresh hp g.sub) g.sub.upd2
/-- .. that is forgotten -/
theorem Good.junk (g : Good K F H ρ σ) {p : Addr} {o : HO} (hp : H p = none) : Good K F (upd H p o) ρ σ := by
  refine ⟨g.sub.updR (g.sub.none hp), g.len, g.has, fun i r v e => ?_, g.dis⟩
  refine (g.rep i r v e).frame (O := fun _ => False) (O1 := fun _ => False) ⟨fun _ _ z => z, fun a o z _ => by rw [upd_ne (ne_of_none z hp)]; exact z, fun _ z => .inl z, fun _ z => .inl z, fun a z => ?_⟩ fun _ _ _ z => z
  by_cases e : a = p
  · subst e
    exact absurd hp z
  · rw [upd_ne e]
    exact z
theorem Step.junk {O : Addr → Prop} {p : Addr} {o : HO} (hp : H p = none) : Step F H O F (upd H p o) O :=
  ⟨fun _ _ z => z, fun a o z _ => by rw [upd_ne (ne_of_none z hp)]; exact z, fun _ z => .inl z, fun _ z => .inl z, fun a z => by
    by_cases e : a = p
    · subst e
      exact absurd hp z
    · rw [upd_ne e]
      exact z⟩
/-- an own object written -/
theorem Good.writeR (g : Good K F H ρ σ) {r0 r : R} {a : Addr} {o : HO} (hr : getS ρ i = some r0) (h0 : r0.own = true) (hv : σ[i]? = some (some (.ref a))) (h : F a = none → RepR K F (upd H a o) (.ref a) r) : Good K F (upd H a o) (setS ρ i (some r)) σ := by
  have hh : Hold ρ σ i r0 (.ref a) := ⟨getS_eq.mp hr, hv⟩
  have hf : F a = none := (own_nf g ⟨i, r0, hh, h0⟩).1
  refine ⟨g.sub.updR hf, by rw [setS_len]; exact g.len, fun j q e => ?_, fun j q w e => ?_, fun x y q q' ad h1 h2 o1 o2 => ?_⟩
  · rw [setS_eq] at e
    by_cases z : i = j
    · subst z
      exact ⟨_, hv⟩
    · rw [List.getElem?_set_ne z] at e
      exact g.has j q e
  · rcases hold_setR e with ⟨rfl, rfl, e9⟩ | ⟨ne, e⟩
    · rw [hv] at e9
      cases e9
      exact h hf
    · have rp := g.rep j q w e
      cases q with
      | v d => exact rp
      | s ns => exact rp
      | l zs =>
        obtain ⟨c, us', e', hc, hz, hf'⟩ := rp
        subst e'
        have : c ≠ a := fun z => by
          subst z
          exact ne (g.dis j i _ _ c e hh rfl h0)
        exact ⟨c, us', rfl, by rw [upd_ne this]; exact hc, hz, hf'⟩
      | m t zs =>
        obtain ⟨c, us', e', hc, hz, hf'⟩ := rp
        subst e'
        have : c ≠ a := fun z => by
          subst z
          exact ne (g.dis j i _ _ c e hh rfl h0)
        exact ⟨c, us', rfl, by rw [upd_ne this]; exact hc, hz, hf'⟩
  · rcases hold_setR h1 with ⟨rfl, rfl, e1⟩ | ⟨n1, k1⟩ <;> rcases hold_setR h2 with ⟨rfl, rfl, e2⟩ | ⟨n2, k2⟩
    · rfl
    · rw [hv] at e1
      cases e1
      exact g.dis _ _ _ _ a hh k2 h0 o2
    · rw [hv] at e2
      cases e2
      exact g.dis _ _ _ _ a k1 hh o1 h0
    · exact g.dis x y q q' ad k1 k2 o1 o2
theorem own_writeR {r0 r : R} {a : Addr} (hr : getS ρ i = some r0) (h0 : r0.own = true) : Own (setS ρ i (some r)) σ a → Own ρ σ a := fun ⟨j, q, h, o⟩ => by
  rcases hold_setR h with ⟨rfl, rfl, e⟩ | ⟨_, e⟩
  · exact ⟨_, _, ⟨getS_eq.mp hr, e⟩, h0⟩
  · exact ⟨j, q, e, o⟩
/-- an own list written -/
theorem Good.write (g : Good K F H ρ σ) {xs ys : List D} {a : Addr} {vs : List V} (hr : getS ρ i = some (.l xs)) (hv : σ[i]? = some (some (.ref a))) (h : RpAll F vs ys) : Good K F (upd H a (.lst vs)) (setS ρ i (some (.l ys))) σ := g.writeR hr rfl hv fun hf => ⟨a, vs, rfl, upd_same, h, hf⟩
theorem own_write {xs ys : List D} {a : Addr} (hr : getS ρ i = some (.l xs)) : Own (setS ρ i (some (.l ys))) σ a → Own ρ σ a := own_writeR hr rfl
/-- an own list given up -/
theorem Good.freeze (g : Good K F H ρ σ) {xs : List D} {a : Addr} (hr : getS ρ i = some (.l xs)) (hv : σ[i]? = some (some (.ref a))) :
    ∃ F1, Step F H (Own ρ σ) F1 H (Own (setS ρ i (some (.v (.list xs)))) σ) ∧ Good K F1 H (setS ρ i (some (.v (.list xs)))) σ ∧ Rp F1 (.ref a) (.list xs) ∧ ¬ Own (setS ρ i (some (.v (.list xs)))) σ a := by
  have hh : Hold ρ σ i (.l xs) (.ref a) := ⟨getS_eq.mp hr, hv⟩
  obtain ⟨b, us, e, hb, hz, hf⟩ := g.rep _ _ _ hh
  cases e
  have ow : ∀ c, Own (setS ρ i (some (.v (.list xs)))) σ c → Own ρ σ c ∧ c ≠ a := fun c ⟨j, q, h, o⟩ => by
    rcases hold_setR h with ⟨rfl, rfl, e⟩ | ⟨ne, e⟩
    · cases o
    · exact ⟨⟨j, q, e, o⟩, fun z => by subst z; exact ne (g.dis j i _ _ c e hh o rfl)⟩
  have sb : Sub F (upd F a (.lst us)) := sub_upd hf
  refine ⟨upd F a (.lst us), Step.freeze ⟨i, _, hh, rfl⟩ hb hf fun c z => (ow c z).1, ⟨g.sub.updL hb, by rw [setS_len]; exact g.len, fun j q e => ?_, fun j q w e => ?_, fun x y q q' ad h1 h2 o1 o2 => ?_⟩, .lst upd_same (hz.mono sb), fun z => (ow a z).2 rfl⟩
  · rw [setS_eq] at e
    by_cases z : i = j
    · subst z
      exact ⟨_, hv⟩
    · rw [List.getElem?_set_ne z] at e
      exact g.has j q e
  · rcases hold_setR e with ⟨rfl, rfl, e9⟩ | ⟨ne, e⟩
    · rw [hv] at e9
      cases e9
      exact .lst upd_same (hz.mono sb)
    · have rp := g.rep j q w e
      cases q with
      | v d => exact Rp.mono sb rp
      | s ns =>
        obtain ⟨c, e', h⟩ := rp
        exact ⟨c, e', SqL.sub sb h⟩
      | l zs =>
        obtain ⟨c, us', e', hc, hz', hf'⟩ := rp
        subst e'
        have : c ≠ a := fun z => by
          subst z
          exact ne (g.dis j i _ _ c e hh rfl rfl)
        exact ⟨c, us', rfl, hc, hz'.mono sb, by rw [upd_ne this]; exact hf'⟩
      | m t zs =>
        obtain ⟨c, us', e', hc, hz', hf'⟩ := rp
        subst e'
        have : c ≠ a := fun z => by
          subst z
          exact ne (g.dis j i _ _ c e hh rfl rfl)
        exact ⟨c, us', rfl, hc, hz'.mono sb, by rw [upd_ne this]; exact hf'⟩
  · rcases hold_setR h1 with ⟨rfl, rfl, e1⟩ | ⟨n1, k1⟩
    · cases o1
    · rcases hold_setR h2 with ⟨rfl, rfl, e2⟩ | ⟨n2, k2⟩
      · cases o2
      · exact g.dis x y q q' ad k1 k2 o1 o2
end
/-- the last one given up -/
theorem Good.freezeTop {K : PySem.W.Frag} {F H : Hp} {ρ : Env} {σ : St} {r : R} {v : V} {d : D} (g : Good K F H (ρ ++ [some r]) (σ ++ [some v])) (hl : ρ.length = σ.length) (hd : frzO r = some d) :
    ∃ F1, Step F H (Own (ρ ++ [some r]) (σ ++ [some v])) F1 H (Own ρ σ) ∧ Good K F1 H ρ σ ∧ Rp F1 v d := by
  have top := hold_top (r := r) (v := v) hl
  cases r with
  | v d' =>
    cases hd
    exact ⟨F, Step.refl.weak fun a z => own_left z, g.left hl, g.rep _ _ _ top⟩
  | s _ => cases hd
  | m _ _ => cases hd
  | l xs =>
    cases hd
    obtain ⟨a, us, e, _⟩ := g.rep _ _ _ top
    subst e
    obtain ⟨F1, s, g1, rp, _⟩ := g.freeze (i := ρ.length) (getS_eq.mpr top.1) top.2
    have e : setS (ρ ++ [some (R.l xs)]) ρ.length (some (.v (.list xs))) = ρ ++ [some (.v (.list xs))] := by
      rw [setS_eq, List.set_append_right _ _ (Nat.le_refl _), Nat.sub_self]
      rfl
    rw [e] at s g1
    exact ⟨F1, s.weak fun a z => own_left z, g1.left hl, rp⟩
end Pv
namespace Pv
open PySem PySem.Spec L2
/-! ## readings by what the small language does -/
abbrev Phi := Str → List R → Option (R × List R)
section
variable (Φ : Phi) (K : PySem.W.Frag)
/-- a def's promise -/
def spF (f : Str) : Sp := fun vs H Q _ => ∃ F rs r outs, Good K F H (rs.map some) (vs.map some) ∧ Φ f rs = some (r, outs) ∧
  ∀ v F1 H1, Step F H (Own (rs.map some) (vs.map some)) F1 H1 (Own (outs.map some ++ [some r]) (vs.map some ++ [some v])) →
    Good K F1 H1 (outs.map some ++ [some r]) (vs.map some ++ [some v]) → Q v H1
def PostE (F H : Hp) (ρ : Env) (σ : St) (r : R) (ρ1 : Env) (Q : VK) : Prop := ∀ v F1 H1, Step F H (Own ρ σ) F1 H1 (Own (ρ1 ++ [some r]) (σ ++ [some v])) → Good K F1 H1 (ρ1 ++ [some r]) (σ ++ [some v]) → Q v H1
def tE (i : E) : TE := fun σ H Q => ∃ F ρ r ρ1, Good K F H ρ σ ∧ evE Φ i ρ = some (r, ρ1) ∧ PostE K F H ρ σ r ρ1 Q
/-- an operand's place -/
def RO (F : Hp) (σ : St) (v : V) : Op → Prop
  | .sl i => σ[i]? = some (some v)
  | .d d => Rp F v d
def tO (i : E) : TE := fun σ H Q => ∃ F ρ o ρ1, Good K F H ρ σ ∧ opd i (evE Φ i) ρ = some (o, ρ1) ∧ ∀ v F1 H1, Step F H (Own ρ σ) F1 H1 (Own ρ1 σ) → Good K F1 H1 ρ1 σ → RO F1 σ v o → Q v H1
def tT (i : E) : TT := fun σ H Q => ∃ F ρ b ρ1, Good K F H ρ σ ∧ evT Φ i ρ = some (b, ρ1) ∧ ∀ F1 H1, Step F H (Own ρ σ) F1 H1 (Own ρ1 σ) → Good K F1 H1 ρ1 σ → Q b H1
def ROs (F : Hp) (σ : St) : List V → List Op → Prop
  | [], [] => True
  | v :: vs, o :: os => RO F σ v o ∧ ROs F σ vs os
  | _, _ => False
def tOs (i : E) : TA := fun σ H Q => ∃ F ρ os ρ1, Good K F H ρ σ ∧ evOs Φ i ρ = some (os, ρ1) ∧ ∀ vs F1 H1, Step F H (Own ρ σ) F1 H1 (Own ρ1 σ) → Good K F1 H1 ρ1 σ → ROs F1 σ vs os → Q vs H1
def tF (i : E) : TA := fun σ H Q => ∃ F ρ ds ρ1, Good K F H ρ σ ∧ evF Φ i ρ = some (ds, ρ1) ∧ ∀ vs F1 H1, Step F H (Own ρ σ) F1 H1 (Own ρ1 σ) → Good K F1 H1 ρ1 σ → RpAll F1 vs ds → Q vs H1
def Tags (σ : St) : List (R × Option Nat) → List V → Prop
  | [], [] => True
  | (_, o) :: as, v :: vs => (∀ i, o = some i → σ[i]? = some (some v)) ∧ Tags σ as vs
  | _, _ => False
abbrev argE (as : List (R × Option Nat)) : Env := as.map fun p => some p.1
def tL (i : E) : TA := fun σ H Q => ∃ F ρ as ρ1, Good K F H ρ σ ∧ evL Φ i ρ = some (as, ρ1) ∧ ∀ vs F1 H1, Step F H (Own ρ σ) F1 H1 (Own (ρ1 ++ argE as) (σ ++ vs.map some)) →
  Good K F1 H1 (ρ1 ++ argE as) (σ ++ vs.map some) → ρ1.length = σ.length → Tags σ as vs → Q vs H1
def tBd (i : E) : TO := fun σ H Q => ∃ F ρ o ρ1, Good K F H ρ σ ∧ evB Φ i ρ = some (o, ρ1) ∧ ∀ F1 H1, Step F H (Own ρ σ) F1 H1 (Own ρ1 σ) → Good K F1 H1 ρ1 σ → Q o H1
/-- what is walked gives the items ds -/
structure Wk (J : It) (F0 : Hp) (ds : List D) : Prop where
  go : ∀ (i : Nat) (F H : Hp), i < ds.length → Sub F0 F → Sub F H → J.go i H
  stop : ∀ (F H : Hp), Sub F0 F → Sub F H → J.stop ds.length H
  yld : ∀ (i : Nat) (F H : Hp) (x : V) (H1 : Hp) (d : D), ds[i]? = some d → Sub F0 F → Sub F H → J.yld i H x H1 → ∃ F1, Step F H (fun _ => False) F1 H1 (fun _ => False) ∧ Sub F1 H1 ∧ Rp F1 x d
def tIt (i : E) : TI := fun σ H R => ∃ F ρ ds ρ1, Good K F H ρ σ ∧ evI Φ i ρ = some (ds, ρ1) ∧ ∀ J F1 H1, Step F H (Own ρ σ) F1 H1 (Own ρ1 σ) → Good K F1 H1 ρ1 σ → Wk J F1 ds → R J H1
end
/-- where one stands -/
structure COk (t : Tab) (Φ : Phi) (k : Nat) (c : Ctx) (X : Cx) : Prop where
  calm : X.calm = true
  hN : X.N = c.N
  nd : X.N.Nodup
  sc : X.env.scope = c.sc
  fn : X.fn = c.fnb
  xe : X.xe = fun _ _ => False
  room : Room k X.A
  cs : ∀ p ∈ t.cs, ∃ tk, X.mg p.1 = some (.int p.2 tk)
  fr : ∀ x ∈ t.fr, X.mg x = none
  fns : ∀ p ∈ t.fns, ∃ a fd ps, ps.length = p.2 ∧ X.mg p.1 = some (.ref a) ∧ PySem.W.keepIn X.K (.ref a) = true ∧ Binds X.K fd ps [] ∧ FnOk X.prog X.w X.K X.mg X.base (fun _ _ _ _ _ _ => False) k a fd ps (spF Φ X.K p.1)
theorem _root_.L2.PE.imp {X : Cx} {e : Expr} {t u : TE} (h : PE X e t) (w : ∀ σ H Q, u σ H Q → t σ H Q) : PE X e u := ⟨fun pins s σ H Q I q => h.run pins s σ H Q I (w _ _ _ q)⟩
theorem _root_.L2.PT.imp {X : Cx} {e : Expr} {t u : TT} (h : PT X e t) (w : ∀ σ H Q, u σ H Q → t σ H Q) : PT X e u := ⟨fun pins s σ H Q I q => h.run pins s σ H Q I (w _ _ _ q)⟩
theorem _root_.L2.PW.imp {X : Cx} {e : Expr} {t u : TT} (h : PW X e t) (w : ∀ σ H Q, u σ H Q → t σ H Q) : PW X e u := ⟨fun wh pins s σ H Q I q => h.run wh pins s σ H Q I (w _ _ _ q)⟩
theorem _root_.L2.PA.imp {X : Cx} {e : List Expr} {t u : TA} (h : PA X e t) (w : ∀ σ H Q, u σ H Q → t σ H Q) : PA X e u := ⟨fun pos pins s σ H Q I q => h.run pos pins s σ H Q I (w _ _ _ q)⟩
theorem _root_.L2.PI.imp {X : Cx} {tg e : Expr} {t u : TI} (h : PI X tg e t) (w : ∀ σ H Q, u σ H Q → t σ H Q) : PI X tg e u := ⟨fun pins s σ H Q I q => h.run pins s σ H Q I (w _ _ _ q)⟩
theorem _root_.L2.PO.imp {X : Cx} {e : Option Expr} {t u : TO} (h : PO X e t) (w : ∀ σ H Q, u σ H Q → t σ H Q) : PO X e u := ⟨fun pins s σ H Q I q => h.run pins s σ H Q I (w _ _ _ q)⟩
/-! ### the looks' words -/
theorem and_t {a b : Bool} (h : (a && b) = true) : a = true ∧ b = true := Bool.and_eq_true_iff.mp h
theorem sEq_t {a b : Str} (h : sEq a b = true) : a = b := of_decide_eq_true h
theorem kind_t {sc : Scope} {x : Str} {k : NameKind} (h : kindIs sc x k = true) : sc.names.lookup x = some k := of_decide_eq_true h
theorem vis_t {sc : Scope} {x : Str} (h : visB sc x = true) : Vis sc x := by
  unfold visB at h
  rcases Bool.or_eq_true_iff.mp h with h | h
  · rcases Bool.or_eq_true_iff.mp h with h | h
    · exact .inl (kind_t h)
    · exact .inr (.inl (kind_t h))
  · exact .inr (.inr (kind_t h))
theorem dbg_t {x : Str} (h : dbgB x = true) : (x == ("__debug__" : Str)) = false ∧ (x == ("__classdict__" : Str)) = false := by
  obtain ⟨h1, h2⟩ := and_t h
  exact ⟨by simpa using h1, by simpa using h2⟩
theorem noStar_cons {e : Expr} {es : List Expr} {env : PySem.Env} (h : isStar e = false) : starEach (e :: es) env = (false, eval e env) :: starEach es env := by
  cases e <;> first | rfl | exact nomatch h
section
variable {t : Tab} {Φ : Phi} {k : Nat} {c : Ctx} {X : Cx}
theorem COk.pvar (C : COk t Φ k c X) {i : Nat} {x : Str} {pos : Pos} (h : varB c i x = true) : PE X (.Name x pos) (tVar i) := by
  obtain ⟨h, h3⟩ := and_t h
  obtain ⟨h1, h2⟩ := and_t h
  obtain ⟨d1, d2⟩ := dbg_t h3
  exact pe_var (by rw [C.hN]; exact of_decide_eq_true h1) (by rw [C.sc]; exact vis_t h2) d1 d2
theorem COk.glob (C : COk t Φ k c X) {x : Str} (h : gloB c x = true) : Gl X x ∧ (x == ("__debug__" : Str)) = false := by
  obtain ⟨h1, h2⟩ := and_t h
  refine ⟨?_, (dbg_t h2).1⟩
  show X.env.scope.names.lookup x = _
  rw [C.sc]
  exact kind_t h1
theorem COk.blt (C : COk t Φ k c X) {x : Str} (h : bltB t c x = true) : Gl X x ∧ (x == ("__debug__" : Str)) = false ∧ X.mg x = none := by
  obtain ⟨h1, h2⟩ := and_t h
  obtain ⟨g1, g2⟩ := C.glob h1
  obtain ⟨y, hy, e⟩ := List.any_eq_true.mp h2
  rw [sEq_t e]
  exact ⟨by rw [← sEq_t e]; exact g1, by rw [← sEq_t e]; exact g2, C.fr y hy⟩
/-! ### values of operands -/
/-- what stands for d as far as one looks -/
def Vw (F H : Hp) (v : V) : D → Prop
  | .list ds => ∃ a vs, v = .ref a ∧ H a = some (.lst vs) ∧ RpAll F vs ds
  | .tuple ds => ∃ a vs, v = .ref a ∧ F a = some (.tup vs) ∧ RpAll F vs ds
  | d => Rp F v d
def VwS (K : PySem.W.Frag) (F H : Hp) (v : V) : D → Prop
  | .list ds => ∃ a vs, v = .ref a ∧ SqL K H a vs ∧ RpAll F vs ds
  | d => Vw F H v d
variable {K : PySem.W.Frag} {F H : Hp} {ρ : Env} {σ : St} {v : V} {o : Op} {d : D}
theorem Rp.vw (s : Sub F H) (h : Rp F v d) : Vw F H v d := by
  cases h with
  | lst e r => exact ⟨_, _, rfl, s _ _ e, r⟩
  | tup e r => exact ⟨_, _, rfl, e, r⟩
  | non => exact .non
  | bl b => exact .bl b
  | int i => exact .int i
  | str x => exact .str x
theorem Vw.rp (s : Sub F H) (h : Vw F H v d) : Rp H v d := by
  cases d with
  | list ds =>
    obtain ⟨a, vs, e, h1, h2⟩ := h
    subst e
    exact .lst h1 (h2.mono s)
  | tuple ds =>
    obtain ⟨a, vs, e, h1, h2⟩ := h
    subst e
    exact .tup (s _ _ h1) (h2.mono s)
  | none => exact Rp.mono s h
  | bool b => exact Rp.mono s h
  | int i => exact Rp.mono s h
  | str x => exact Rp.mono s h
  | dict _ => exact Rp.mono s h
theorem Vw.vws (h : Vw F H v d) : VwS K F H v d := by
  cases d with
  | list ds =>
    obtain ⟨a, vs, e, h1, h2⟩ := h
    exact ⟨a, vs, e, SqL.of h1, h2⟩
  | _ => exact h
theorem VwS.dp (s : Sub F H) (h : VwS K F H v d) : Dp K H v d := by
  cases d with
  | list ds =>
    obtain ⟨a, vs, e, h1, h2⟩ := h
    subst e
    exact .lst h1 (h2.mono s).dp
  | tuple ds => exact (Vw.rp (d := .tuple ds) s h).dp
  | none => exact (Vw.rp (d := .none) s h).dp
  | bool b => exact (Vw.rp (d := .bool b) s h).dp
  | int i => exact (Vw.rp (d := .int i) s h).dp
  | str x => exact (Vw.rp (d := .str x) s h).dp
  | dict x => exact (Vw.rp (d := .dict x) s h).dp
theorem RepR.vw {r : R} (s : Sub F H) (h : RepR K F H v r) (e : derR r = some d) : Vw F H v d := by
  cases r with
  | v d' =>
    cases e
    exact Rp.vw s h
  | l xs =>
    cases e
    obtain ⟨a, vs, e, h1, h2, _⟩ := h
    exact ⟨a, vs, e, h1, h2⟩
  | s ns => cases e
  | m _ _ => cases e
theorem RepR.vws {r : R} (s : Sub F H) (h : RepR K F H v r) (e : derA r = some d) : VwS K F H v d := by
  cases r with
  | v d' => exact (RepR.vw s h e).vws
  | l xs => exact (RepR.vw (r := .l xs) s h e).vws
  | m _ _ => cases e
  | s ns =>
    cases e
    obtain ⟨a, e, h1⟩ := h
    exact ⟨a, _, e, SqL.sub s h1, RpAll.ofInts ns⟩
theorem Good.at (g : Good K F H ρ σ) {i : Nat} {r : R} (h : getS ρ i = some r) (hv : σ[i]? = some (some v)) : RepR K F H v r := g.rep i r v ⟨getS_eq.mp h, hv⟩
theorem RO.vw (g : Good K F H ρ σ) (h : RO F σ v o) (e : der ρ o = some d) : Vw F H v d := by
  cases o with
  | d d' =>
    cases e
    exact Rp.vw g.sub h
  | sl i =>
    obtain ⟨r, hr, e⟩ := Option.bind_eq_some_iff.mp e
    exact RepR.vw g.sub (g.at hr h) e
theorem RO.vws (g : Good K F H ρ σ) (h : RO F σ v o) (e : derS ρ o = some d) : VwS K F H v d := by
  cases o with
  | d d' =>
    cases e
    exact (Rp.vw g.sub h).vws
  | sl i =>
    obtain ⟨r, hr, e⟩ := Option.bind_eq_some_iff.mp e
    exact RepR.vws g.sub (g.at hr h) e
theorem RO.mono {F1 : Hp} (s : Sub F F1) (h : RO F σ v o) : RO F1 σ v o := by
  cases o with
  | d d' => exact Rp.mono s h
  | sl i => exact h
theorem ROs.mono {F1 : Hp} (s : Sub F F1) : ∀ {vs : List V} {os : List Op}, ROs F σ vs os → ROs F1 σ vs os
  | [], [], _ => trivial
  | _ :: _, _ :: _, h => ⟨h.1.mono s, ROs.mono s h.2⟩
  | [], _ :: _, h => h.elim
  | _ :: _, [], h => h.elim
def VwAll (F H : Hp) : List V → List D → Prop
  | [], [] => True
  | v :: vs, d :: ds => Vw F H v d ∧ VwAll F H vs ds
  | _, _ => False
theorem ROs.vw (g : Good K F H ρ σ) : ∀ {vs : List V} {os : List Op} {ds : List D}, ROs F σ vs os → derAll ρ os = some ds → VwAll F H vs ds
  | [], [], ds, _, e => by
    cases e
    trivial
  | v :: vs, o :: os, ds, h, e => by
    obtain ⟨d, e1, e⟩ := Option.bind_eq_some_iff.mp e
    obtain ⟨es, e2, e⟩ := Option.bind_eq_some_iff.mp e
    cases e
    exact ⟨h.1.vw g e1, ROs.vw g h.2 e2⟩
  | [], _ :: _, _, h, _ => h.elim
  | _ :: _, [], _, h, _ => h.elim
/-! ### posts -/
variable {F1 H1 F2 H2 : Hp} {ρ1 ρ2 : Env} {σ1 : St}
/-- behind a step: a value that owns nothing -/
theorem post_v {Q : VK} {r : R} (s : Step F H (Own ρ σ) F1 H1 (Own ρ1 σ)) (g1 : Good K F1 H1 ρ1 σ) (q : PostE K F H ρ σ r ρ1 Q) (hr : r.own = false) {v : V} (h : RepR K F1 H1 v r) : Q v H1 :=
  q v F1 H1 (s.weak fun a z => own_more g1.len hr z) (g1.more hr h)
theorem post_d {Q : VK} {d : D} (s : Step F H (Own ρ σ) F1 H1 (Own ρ1 σ)) (g1 : Good K F1 H1 ρ1 σ) (q : PostE K F H ρ σ (.v d) ρ1 Q) {v : V} (h : Rp F1 v d) : Q v H1 := post_v s g1 q rfl h
/-- .. a new own list -/
theorem post_l {Q : VK} {xs : List D} (s : Step F H (Own ρ σ) F1 H1 (Own ρ1 σ)) (g1 : Good K F1 H1 ρ1 σ) (q : PostE K F H ρ σ (.l xs) ρ1 Q) {vs : List V} (h : RpAll F1 vs xs) (p : Addr) (hp : H1 p = none) : Q (.ref p) (upd H1 p (.lst vs)) :=
  q (.ref p) F1 _ ((s.trans (Step.freshOwn hp)).weak fun a z => own_newL g1.len z) (g1.newL hp h)
/-- .. a new tuple -/
theorem post_t {Q : VK} {xs : List D} (s : Step F H (Own ρ σ) F1 H1 (Own ρ1 σ)) (g1 : Good K F1 H1 ρ1 σ) (q : PostE K F H ρ σ (.v (.tuple xs)) ρ1 Q) {vs : List V} (h : RpAll F1 vs xs) (p : Addr) (hp : H1 p = none) : Q (.ref p) (upd H1 p (.tup vs)) :=
  post_d (s.trans (Step.fresh hp g1.sub)) (g1.newF hp) q (.tup upd_same (h.mono (sub_upd (g1.sub.none hp))))
/-! ### operands -/
theorem opd_ne {i : E} {f : Env → Option (R × Env)} (h : ∀ j, i ≠ .var j) : opd i f ρ = (f ρ).bind fun (r, ρ1) => (frzO r).bind fun d => some (.d d, ρ1) := by
  cases i <;> first | rfl | exact absurd rfl (h _)
theorem s_op {i : E} {e : Expr} (hE : PE X e (tE Φ X.K i)) (hv : ∀ j, i = .var j → PE X e (tVar j)) : PE X e (tO Φ X.K i) := by
  by_cases hi : ∃ j, i = .var j
  · obtain ⟨j, rfl⟩ := hi
    refine (hv j rfl).imp fun σ H Q h => ?_
    obtain ⟨F, ρ, o, ρ1, g, ev, q⟩ := h
    obtain ⟨r, hr, ev⟩ := Option.bind_eq_some_iff.mp ev
    cases ev
    obtain ⟨v, e⟩ := g.has j r (getS_eq.mp hr)
    exact ⟨v, e, q v F H Step.refl g e⟩
  · refine hE.imp fun σ H Q h => ?_
    obtain ⟨F, ρ, o, ρ1, g, ev, q⟩ := h
    rw [opd_ne fun j z => hi ⟨j, z⟩] at ev
    obtain ⟨⟨r, ρ2⟩, e1, ev⟩ := Option.bind_eq_some_iff.mp ev
    obtain ⟨d, e2, ev⟩ := Option.bind_eq_some_iff.mp ev
    cases ev
    refine ⟨F, ρ, r, ρ1, g, e1, fun v F1 H1 s g1 => ?_⟩
    have hl : ρ1.length = σ.length := by
      have := g1.len
      simp at this
      exact this
    obtain ⟨F2, s2, g2, rp⟩ := g1.freezeTop hl e2
    exact q v F2 H1 (s.trans s2) g2 rp
theorem len1 {r : R} (g : Good K F H (ρ ++ [some r]) (σ ++ [some v])) : ρ.length = σ.length := by
  have := g.len
  simp at this
  exact this
/-- a value given up -/
theorem s_frz {i : E} {Q : VK} {σ : St} {F H : Hp} {ρ ρ1 : Env} {r : R} {d : D} (g : Good K F H ρ σ) (ev : evE Φ i ρ = some (r, ρ1)) (e : frzO r = some d)
    (q : ∀ v F1 H1, Step F H (Own ρ σ) F1 H1 (Own ρ1 σ) → Good K F1 H1 ρ1 σ → Rp F1 v d → Q v H1) : tE Φ K i σ H Q :=
  ⟨F, ρ, r, ρ1, g, ev, fun v F1 H1 s g1 => by
    obtain ⟨F2, s2, g2, rp⟩ := g1.freezeTop (len1 g1) e
    exact q v F2 H1 (s.trans s2) g2 rp⟩
theorem two_read {a b : E} {x y : Op} {R : V → V → Hp → Prop} (g : Good K F H ρ σ) (e1 : opd a (evE Φ a) ρ = some (x, ρ1)) (e2 : opd b (evE Φ b) ρ1 = some (y, ρ2))
    (q : ∀ v w F2 H2, Step F H (Own ρ σ) F2 H2 (Own ρ2 σ) → Good K F2 H2 ρ2 σ → RO F2 σ v x → RO F2 σ w y → R v w H2) : tO Φ K a σ H fun v H1 => tO Φ K b σ H1 fun w H2 => R v w H2 :=
  ⟨F, ρ, x, ρ1, g, e1, fun v F1 H1 s1 g1 r1 => ⟨F1, ρ1, y, ρ2, g1, e2, fun w F2 H2 s2 g2 r2 => q v w F2 H2 (s1.trans s2) g2 (r1.mono s2.fz) r2⟩⟩
theorem bnd {α β : Type} {o : Option α} {f : α → Option β} {b : β} (h : o.bind f = some b) : ∃ a, o = some a ∧ f a = some b := Option.bind_eq_some_iff.mp h
end
end Pv
namespace Pv
open PySem PySem.Spec L2
/-! ## operators, built-in functions, methods by data -/
/-- what is wanted of a value that may be new -/
def NewR (F H : Hp) (r : R) (Q : VK) : Prop := match r with
  | .v d => ∀ v F1 H1, Step F H (fun _ => False) F1 H1 (fun _ => False) → Sub F1 H1 → Rp F1 v d → Q v H1
  | .l xs => ∀ p vs, H p = none → RpAll F vs xs → Q (.ref p) (upd H p (.lst vs))
  | .s _ => True
  | .m t kvs => ∀ p o, H p = none → RepM F t o kvs → Q (.ref p) (upd H p o)
section
variable {K : PySem.W.Frag} {F H F0 H0 : Hp} {ρ ρ1 : Env} {σ : St} {Q : VK} {d : D} {v : V}
theorem NewR.old (n : NewR F H (.v d) Q) (s : Sub F H) (h : Rp F v d) : Q v H := n v F H Step.refl s h
theorem NewR.tup {ds : List D} {vs : List V} (n : NewR F H (.v (.tuple ds)) Q) (s : Sub F H) (h : RpAll F vs ds) (p : Addr) (hp : H p = none) : Q (.ref p) (upd H p (.tup vs)) :=
  n (.ref p) _ _ (Step.fresh hp s) s.upd2 (.tup upd_same (h.mono (sub_upd (s.none hp))))
theorem NewR.lst {ds : List D} {vs : List V} (n : NewR F H (.l ds) Q) (h : RpAll F vs ds) (p : Addr) (hp : H p = none) : Q (.ref p) (upd H p (.lst vs)) := n p vs hp h
theorem step_none {F1 H1 : Hp} {O : Addr → Prop} (s : Step F H (fun _ => False) F1 H1 (fun _ => False)) : Step F H O F1 H1 O := by
  have z := s.frame (P := O)
  exact (z.wide fun a h => h.elim False.elim id).weak fun a h => .inr h
theorem NewR.of {r : R} (q : PostE K F0 H0 ρ σ r ρ1 Q) (s : Step F0 H0 (Own ρ σ) F H (Own ρ1 σ)) (g : Good K F H ρ1 σ) : NewR F H r Q := by
  cases r with
  | v d => exact fun v F1 H1 s1 b h => post_d (s.trans (step_none s1)) (g.grow s1 b) q h
  | l xs => exact fun p vs hp h => post_l s g q h p hp
  | s ns => trivial
  | m t kvs => exact fun p o hp h => q (.ref p) F _ ((s.trans (Step.freshOwn hp)).weak fun a z => own_newR g.len z) (g.newR hp fun hf => ⟨p, o, rfl, upd_same, h, hf⟩)
end
def rN2 (g : D → D → Option R) : R2 := fun x y H Q => ∃ F d e r, Sub F H ∧ Vw F H x d ∧ Vw F H y e ∧ g d e = some r ∧ NewR F H r Q
def rN2S (K : PySem.W.Frag) (g : D → D → Option R) : R2 := fun x y H Q => ∃ F d e r, Sub F H ∧ VwS K F H x d ∧ Vw F H y e ∧ g d e = some r ∧ NewR F H r Q
def rC2 (g : D → D → Option Bool) : R2 := fun x y H Q => ∃ F d e b, Sub F H ∧ Vw F H x d ∧ Vw F H y e ∧ g d e = some b ∧ Q (.bl b) H
def rN1 (g : D → Option R) : V → Hp → VK → Prop := fun x H Q => ∃ F d r, Sub F H ∧ Vw F H x d ∧ g d = some r ∧ NewR F H r Q
def rNs (g : List D → Option R) : List V → Hp → VK → Prop := fun xs H Q => ∃ F ds r, Sub F H ∧ VwAll F H xs ds ∧ g ds = some r ∧ NewR F H r Q
def rNsS (K : PySem.W.Frag) (g : D → Option R) : List V → Hp → VK → Prop := fun xs H Q => ∃ F x d r, xs = [x] ∧ Sub F H ∧ VwS K F H x d ∧ g d = some r ∧ NewR F H r Q
def rNm (g : D → List D → Option R) : V → List V → Hp → VK → Prop := fun x xs H Q => ∃ F d ds r, Sub F H ∧ Vw F H x d ∧ VwAll F H xs ds ∧ g d ds = some r ∧ NewR F H r Q
section
variable {X : Cx}
theorem opImp {f : Value → Value → Sem Value} {r r' : R2} (h : OpR X f r) (w : ∀ x y H Q, r' x y H Q → r x y H Q) : OpR X f r' := fun pins s σ H x y v u Q I rx ry q => h pins s σ H x y v u Q I rx ry (w _ _ _ _ q)
theorem opBy2 {f : Value → Value → Sem Value} {g : D → D → Option R} (h : ∀ d e r, g d e = some r → OpR X f (fun x y H Q => ∃ F, Sub F H ∧ Vw F H x d ∧ Vw F H y e ∧ NewR F H r Q)) : OpR X f (rN2 g) := fun pins s σ H x y v u Q I rx ry q => by
  obtain ⟨F, d, e, r, s1, h1, h2, h3, n⟩ := q
  exact h d e r h3 pins s σ H x y v u Q I rx ry ⟨F, s1, h1, h2, n⟩
theorem vw_int {F H : Hp} {x : V} {i : Int} (h : Vw F H x (.int i)) : x = .int i := by
  cases (show Rp F x (.int i) from h)
  rfl
theorem vw_bl {F H : Hp} {x : V} {i : Bool} (h : Vw F H x (.bool i)) : x = .bl i := by
  cases (show Rp F x (.bool i) from h)
  rfl
theorem vw_str {F H : Hp} {x : V} {i : Str} (h : Vw F H x (.str i)) : x = .str i := by
  cases (show Rp F x (.str i) from h)
  rfl
theorem vw_non {F H : Hp} {x : V} (h : Vw F H x .none) : x = .non := by
  cases (show Rp F x .none from h)
  rfl
/-- two ints to an int -/
theorem on_ints {f : Value → Value → Sem Value} {C : Int → Int → Prop} {g : Int → Int → Int} {a b : Int} (h : OpR X f (rI C fun i j => .int (g i j))) (hc : C a b) :
    OpR X f (fun x y H Q => ∃ F, Sub F H ∧ Vw F H x (.int a) ∧ Vw F H y (.int b) ∧ NewR F H (.v (.int (g a b))) Q) := opImp h fun x y H Q ⟨F, s, h1, h2, n⟩ => ⟨a, b, vw_int h1, vw_int h2, hc, n.old s (.int _)⟩
theorem on_ints0 {f : Value → Value → Sem Value} {g : Int → Int → Int} {a b : Int} (h : OpR X f (rI0 fun i j => .int (g i j))) :
    OpR X f (fun x y H Q => ∃ F, Sub F H ∧ Vw F H x (.int a) ∧ Vw F H y (.int b) ∧ NewR F H (.v (.int (g a b))) Q) := opImp h fun x y H Q ⟨F, s, h1, h2, n⟩ => ⟨a, b, vw_int h1, vw_int h2, n.old s (.int _)⟩
theorem ite_some {α : Type} {c : Prop} [Decidable c] {a b : α} (h : (if c then some a else none) = some b) : c ∧ a = b := by
  by_cases hc : c
  · rw [if_pos hc] at h
    exact ⟨hc, Option.some.inj h⟩
  · rw [if_neg hc] at h
    cases h
theorem on_cat {a b : List D} (hz : okN (a.length + b.length) = true) : OpR X (binaryOp .Add) (fun x y H Q => ∃ F, Sub F H ∧ Vw F H x (.list a) ∧ Vw F H y (.list b) ∧ NewR F H (.l (a ++ b)) Q) :=
  opImp op_cat fun x y H Q ⟨F, s, ⟨p, vs, e1, h1, r1⟩, ⟨q, us, e2, h2, r2⟩, n⟩ => ⟨p, q, vs, us, e1, e2, h1, h2, by rw [r1.len, r2.len]; exact okN_le hz, fun w hw => n.lst (r1.app r2) w hw⟩
theorem on_catT {a b : List D} (hz : okN (a.length + b.length) = true) : OpR X (binaryOp .Add) (fun x y H Q => ∃ F, Sub F H ∧ Vw F H x (.tuple a) ∧ Vw F H y (.tuple b) ∧ NewR F H (.v (.tuple (a ++ b))) Q) :=
  opImp op_catA fun x y H Q ⟨F, s, ⟨p, vs, e1, h1, r1⟩, ⟨q, us, e2, h2, r2⟩, n⟩ => by
    refine ⟨p, q, vs, us, e1, e2, SqT.of (s _ _ h1), SqT.of (s _ _ h2), by rw [r1.len, r2.len]; exact okN_le hz, fun e => ?_, fun _ e => ?_, fun _ _ w hw => n.tup s (r1.app r2) w hw⟩
    · subst e
      cases r1
      exact n.old s (.tup h2 r2)
    · subst e
      cases r2
      rw [List.append_nil] at n
      exact n.old s (.tup h1 r1)
theorem on_rep {a : List D} {k : Int} (hk : in62 k = true) (hz : okN (a.length * k.toNat) = true) : OpR X (binaryOp .Mult) (fun x y H Q => ∃ F, Sub F H ∧ Vw F H x (.list a) ∧ Vw F H y (.int k) ∧ NewR F H (.l (List.replicate k.toNat a).flatten) Q) :=
  opImp op_rep fun x y H Q ⟨F, s, ⟨p, vs, e1, h1, r1⟩, h2, n⟩ => by
    have hk : -4611686018427387904 ≤ k ∧ k < 4611686018427387904 := in62_b.mp hk
    exact ⟨p, k, vs, e1, vw_int h2, h1, by omega, by omega, by rw [r1.len]; exact okN_le hz, fun w hw => n.lst (r1.rep _) w hw⟩
section
open PyProof.Rows
open AutoSeq1 (wpAny_loadPart')
theorem tuple_mul1 (l : Addr) (items : Array Value) (n : Nat) (dd : Option Addr) (sl : Array (Option Value)) (u : Tok) :
    Meets (Builtin.«tuple.__mul__» ⟨[.ref l, .int 1 u], []⟩) (fun _ R s => s.heap.get? l = some { cls := .type "tuple", dict := dd, data := .seq items n, slots := sl } ∧
      R (.ok (.ret (Value.ref l))) s) :=
  .of_wp fun prog w A R s h => by
    obtain ⟨hp, g, d, tk, os⟩ := s
    obtain ⟨hl, h⟩ := h
    have f1 := AutoSeq1.idx_int
    have c0 : (decide ((1 : Int) < -(2 ^ 63)) || decide ((1 : Int) ≥ 2 ^ 63)) = false := by decide
    have c1 : (items.isEmpty || (1 : Int) == 1) = true := by rw [Bool.or_eq_true]; exact .inr rfl
    wp_walk using wpAny_loadPart' hl
    repeat (first
      | (refine wpAny_ite_false (decide_eq_false (by rw [c0]; exact Bool.false_ne_true)) ?_; wp_walk using wpAny_loadPart' hl)
      | (refine wpAny_ite_true (decide_eq_true c1) ?_; wp_walk using wpAny_loadPart' hl))
    all_goals exact ⟨_, rfl, h⟩
/-- t * 1 is t itself -/
theorem op_rep1 : OpR X (binaryOp .Mult) (fun x y H Q => ∃ l xs, x = .ref l ∧ y = .int 1 ∧ SqT X.K H l xs ∧ Q (.ref l) H) := by
  intro pins s σ H x y v u Q I rx ry h
  obtain ⟨l, xs, rfl, rfl, hT, q⟩ := h
  cases rx
  obtain ⟨t, rfl⟩ := ry
  obtain ⟨its, r, ⟨⟨cls, dd, data, sl⟩, ho, hc, n, hd⟩, hs⟩ := I.tuple hT
  simp only at hc hd
  subst hc hd
  refine wpAny_binaryOp_repeat_ref (T := "tuple") (U := "int") (by decide) ⟨_, ho, rfl⟩ (fun s' => typeIs_int s' 1 t) noFill_tuple_mul PySem.F.fills_int_mul PySem.F.slot_int_rmul repeat_tuple PySem.F.slot_int_index.lookup
    (call_meets PySem.F.slot_int_rmul (typeIs_int s 1 t) PySem.F.entry_int_rmul (PySem.F.args_int_rmul_2 _ _) (int_rmul_tuple 1 t l its.toArray n dd sl)
      ⟨ho, rfl, ⟨_, ho, rfl⟩, call_meets PySem.F.slot_tuple_mul ⟨_, ho, rfl⟩ PySem.F.entry_tuple_mul (PySem.F.args_tuple_mul_2 _ _) (tuple_mul1 l its.toArray n dd sl t) ⟨ho, ?_⟩⟩)
  exact ⟨.ref l, H, I, rfl, q⟩
end
theorem on_repT {a : List D} {k : Int} (hk : 1 ≤ k ∧ k ≤ 1000 ∧ 1 ≤ a.length ∧ a.length ≤ 1000) : OpR X (binaryOp .Mult) (fun x y H Q => ∃ F, Sub F H ∧ Vw F H x (.tuple a) ∧ Vw F H y (.int k) ∧ NewR F H (.v (.tuple (List.replicate k.toNat a).flatten)) Q) := by
  by_cases k1 : k = 1
  · subst k1
    exact opImp op_rep1 fun x y H Q ⟨F, s, ⟨p, vs, e1, h1, r1⟩, h2, n⟩ => by
      refine ⟨p, vs, e1, vw_int h2, SqT.of (s _ _ h1), ?_⟩
      subst e1
      have e : (List.replicate (1 : Int).toNat a).flatten = a := by simp
      rw [e] at n
      exact n.old s (.tup h1 r1)
  · exact opImp op_repT fun x y H Q ⟨F, s, ⟨p, vs, e1, h1, r1⟩, h2, n⟩ =>
      ⟨p, k, vs, e1, vw_int h2, SqT.of (s _ _ h1), fun e => by have := r1.len; rw [e] at this; simp at this; omega, by omega, by omega, by rw [r1.len]; omega, fun w hw => n.tup s (r1.rep _) w hw⟩
theorem on_bin (op : Operator) : OpR X (binaryOp op) (rN2 (binD op)) := by
  refine opBy2 fun d e r h => ?_
  unfold binD at h
  split at h
  · cases h
    exact on_ints0 op_add
  · cases h
    exact on_ints0 op_sub
  · obtain ⟨hc, rfl⟩ := ite_some h
    exact on_ints op_mul hc
  · obtain ⟨hc, rfl⟩ := ite_some h
    exact on_ints op_fdiv hc
  · obtain ⟨hc, rfl⟩ := ite_some h
    exact on_ints (C := fun _ j => 0 < j) (g := fun i j => i % j) op_mod hc
  · obtain ⟨hc, rfl⟩ := ite_some h
    exact on_ints (g := fun i j => i ^ j.toNat) op_pow hc
  · obtain ⟨hc, rfl⟩ := ite_some h
    exact on_ints (g := fun i j => i * 2 ^ j.toNat) op_shl hc
  · obtain ⟨hc, rfl⟩ := ite_some h
    exact on_ints (C := fun _ j => 0 ≤ j) (g := fun i j => i / 2 ^ j.toNat) op_shr hc
  · obtain ⟨hc, rfl⟩ := ite_some h
    exact on_cat hc
  · obtain ⟨hc, rfl⟩ := ite_some h
    exact on_catT hc
  · obtain ⟨hc, rfl⟩ := ite_some h
    exact on_rep hc.1 hc.2
  · obtain ⟨hc, rfl⟩ := ite_some h
    exact on_repT hc
  · cases h
theorem on_neg : UnR X (unaryOp .USub) (rN1 fun d => (negD d).map R.v) := fun pins s σ H x v Q I rx ⟨F, d, r, sb, h1, h2, n⟩ => by
  obtain ⟨e, h2', rfl⟩ := Option.map_eq_some_iff.mp h2
  unfold negD at h2'
  split at h2'
  · cases h2'
    exact un_neg pins s σ H x v Q I rx ⟨_, vw_int h1, n.old sb (.int _)⟩
  · cases h2'
/-! ### comparisons -/
theorem on_cmpI {op : CmpOp} {f : Int → Int → Bool} {a b : Int} (h : OpR X (compareOp op) (rI0 fun i j => .bl (f i j))) :
    OpR X (compareOp op) (fun x y H Q => ∃ F, Sub F H ∧ Vw F H x (.int a) ∧ Vw F H y (.int b) ∧ Q (.bl (f a b)) H) := opImp h fun x y H Q ⟨F, s, h1, h2, n⟩ => ⟨a, b, vw_int h1, vw_int h2, n⟩
def flatV_of {F H : Hp} {x : V} {d : D} (h : Vw F H x d) (f : flatD d = true) : flatV x = true := by
  cases d with
  | none => rw [vw_non h]; rfl
  | bool b => rw [vw_bl h]; rfl
  | int i => rw [vw_int h]; rfl
  | str i => rw [vw_str h]; rfl
  | list _ => cases f
  | tuple _ => cases f
  | dict _ => cases f
theorem eqV_of {F H F' H' : Hp} {x y : V} {d e : D} (h1 : Vw F H x d) (h2 : Vw F' H' y e) (f1 : flatD d = true) (f2 : flatD e = true) : eqV x y = PyData.eqv d e := by
  cases d with
  | none => rw [vw_non h1]; cases e with
    | none => rw [vw_non h2]; rfl
    | bool b => rw [vw_bl h2]; rfl
    | int i => rw [vw_int h2]; rfl
    | str i => rw [vw_str h2]; rfl
    | _ => cases f2
  | bool b => rw [vw_bl h1]; cases e with
    | none => rw [vw_non h2]; rfl
    | bool b => rw [vw_bl h2]; rfl
    | int i => rw [vw_int h2]; rfl
    | str i => rw [vw_str h2]; rfl
    | _ => cases f2
  | int i => rw [vw_int h1]; cases e with
    | none => rw [vw_non h2]; rfl
    | bool b => rw [vw_bl h2]; rfl
    | int i => rw [vw_int h2]; rfl
    | str i => rw [vw_str h2]; rfl
    | _ => cases f2
  | str i => rw [vw_str h1]; cases e with
    | none => rw [vw_non h2]; rfl
    | bool b => rw [vw_bl h2]; rfl
    | int i => rw [vw_int h2]; rfl
    | str i => rw [vw_str h2]; rfl
    | _ => cases f2
  | _ => cases f1
theorem flatAll_of {F : Hp} : ∀ {vs : List V} {ds : List D}, RpAll F vs ds → ds.all flatD = true → vs.all flatV = true
  | _, _, .nil, _ => rfl
  | _, _, .cons (v := v) (d := d) r t, h => by
    rw [List.all_cons] at h ⊢
    obtain ⟨h1, h2⟩ := and_t h
    rw [flatV_of (Rp.vw (H := F) Sub.rfl r) h1, flatAll_of t h2]
    rfl
theorem any_of {F H : Hp} {x : V} {d : D} (hx : Vw F H x d) (fx : flatD d = true) : ∀ {F : Hp} {vs : List V} {ds : List D}, RpAll F vs ds → ds.all flatD = true → (vs.any fun y => eqV y x) = ds.any fun z => PyData.eqv z d
  | _, _, _, .nil, _ => rfl
  | F', _, _, .cons (v := v) (d := e) r t, h => by
    rw [List.all_cons] at h
    obtain ⟨h1, h2⟩ := and_t h
    rw [List.any_cons, List.any_cons, eqV_of (Rp.vw (H := F') Sub.rfl r) hx h1 fx, any_of hx fx t h2]
theorem on_eqD (hu : X.A.units + 64 < cLine) {d e : D} {b : Bool} (h : eqD d e = some b) : OpR X (compareOp .Eq) (fun x y H Q => ∃ F, Sub F H ∧ Vw F H x d ∧ Vw F H y e ∧ Q (.bl b) H) := by
  unfold eqD at h
  split at h
  · cases h
    refine opImp op_eq fun x y H Q ⟨F, s, h1, h2, q⟩ => ?_
    rw [vw_int h1, vw_int h2]
    exact ⟨rfl, by rw [show decide (V.int _ = V.int _) = _ from decide_eq_decide.mpr ⟨V.int.inj, congrArg V.int⟩]; exact q⟩
  · cases h
    refine opImp op_eq fun x y H Q ⟨F, s, h1, h2, q⟩ => ?_
    rw [vw_bl h1, vw_bl h2]
    exact ⟨rfl, by rw [show decide (V.bl _ = V.bl _) = _ from decide_eq_decide.mpr ⟨V.bl.inj, congrArg V.bl⟩]; exact q⟩
  · cases h
    refine opImp op_eq fun x y H Q ⟨F, s, h1, h2, q⟩ => ?_
    rw [vw_str h1, vw_str h2]
    exact ⟨rfl, by rw [show decide (V.str _ = V.str _) = _ from decide_eq_decide.mpr ⟨V.str.inj, congrArg V.str⟩]; exact q⟩
  · obtain ⟨hc, rfl⟩ := ite_some h
    obtain ⟨c1, c2⟩ := and_t hc
    exact opImp (op_eqD hu) fun x y H Q ⟨F, s, h1, h2, q⟩ => ⟨_, _, (h1.vws).dp s, (h2.vws).dp s, c1, c2, q⟩
theorem on_neD (hu : X.A.units + 64 < cLine) {d e : D} {b : Bool} (h : eqD d e = some b) : OpR X (compareOp .NotEq) (fun x y H Q => ∃ F, Sub F H ∧ Vw F H x d ∧ Vw F H y e ∧ Q (.bl (!b)) H) := by
  unfold eqD at h
  split at h
  · cases h
    refine opImp op_ne fun x y H Q ⟨F, s, h1, h2, q⟩ => ?_
    rw [vw_int h1, vw_int h2]
    exact ⟨rfl, by rw [show decide (V.int _ = V.int _) = _ from decide_eq_decide.mpr ⟨V.int.inj, congrArg V.int⟩]; exact q⟩
  · cases h
    refine opImp op_ne fun x y H Q ⟨F, s, h1, h2, q⟩ => ?_
    rw [vw_bl h1, vw_bl h2]
    exact ⟨rfl, by rw [show decide (V.bl _ = V.bl _) = _ from decide_eq_decide.mpr ⟨V.bl.inj, congrArg V.bl⟩]; exact q⟩
  · cases h
    refine opImp op_ne fun x y H Q ⟨F, s, h1, h2, q⟩ => ?_
    rw [vw_str h1, vw_str h2]
    exact ⟨rfl, by rw [show decide (V.str _ = V.str _) = _ from decide_eq_decide.mpr ⟨V.str.inj, congrArg V.str⟩]; exact q⟩
  · obtain ⟨hc, rfl⟩ := ite_some h
    obtain ⟨c1, c2⟩ := and_t hc
    exact opImp (op_neD hu) fun x y H Q ⟨F, s, h1, h2, q⟩ => ⟨_, _, (h1.vws).dp s, (h2.vws).dp s, c1, c2, q⟩
theorem on_inB (hu : X.A.units + 65 < cLine) {d e : D} {b : Bool} (h : inD d e = some b) : OpR X (compareOp .In) (fun x y H Q => ∃ F, Sub F H ∧ Vw F H x d ∧ Vw F H y e ∧ Q (.bl b) H) ∧ OpR X (compareOp .NotIn) (fun x y H Q => ∃ F, Sub F H ∧ Vw F H x d ∧ Vw F H y e ∧ Q (.bl (!b)) H) := by
  unfold inD at h
  split at h
  · rename_i ys
    by_cases hc : (flatD d && ys.all flatD) = true
    · rw [if_pos hc] at h
      cases h
      obtain ⟨c1, c2⟩ := and_t hc
      refine ⟨opImp op_in_seq (fun x y H Q ⟨F, s, h1, ⟨p, vs, e1, e2, r⟩, q⟩ => ?_), opImp op_notIn_seq fun x y H Q ⟨F, s, h1, ⟨p, vs, e1, e2, r⟩, q⟩ => ?_⟩
      · refine ⟨p, vs, e1, .inl (SqL.of e2), flatV_of h1 c1, flatAll_of r c2, ?_⟩
        rw [if_neg (by decide)]
        unfold inV
        rw [any_of h1 c1 r c2]
        exact q
      · refine ⟨p, vs, e1, .inl (SqL.of e2), flatV_of h1 c1, flatAll_of r c2, ?_⟩
        rw [if_pos rfl]
        unfold inV
        rw [any_of h1 c1 r c2]
        exact q
    · rw [if_neg hc] at h
      obtain ⟨hc, rfl⟩ := ite_some h
      obtain ⟨c1, c2⟩ := and_t hc
      exact ⟨opImp (op_inD hu) (fun x y H Q ⟨F, s, h1, h2, q⟩ => ⟨_, _, (h1.vws).dp s, (h2.vws).dp s, c1, c2, q⟩), opImp (op_notInD hu) fun x y H Q ⟨F, s, h1, h2, q⟩ => ⟨_, _, (h1.vws).dp s, (h2.vws).dp s, c1, c2, q⟩⟩
  · rename_i ys
    obtain ⟨hc, rfl⟩ := ite_some h
    obtain ⟨c1, c2⟩ := and_t hc
    refine ⟨opImp op_in_seq (fun x y H Q ⟨F, s, h1, ⟨p, vs, e1, e2, r⟩, q⟩ => ?_), opImp op_notIn_seq fun x y H Q ⟨F, s, h1, ⟨p, vs, e1, e2, r⟩, q⟩ => ?_⟩
    · refine ⟨p, vs, e1, .inr (SqT.of (s _ _ e2)), flatV_of h1 c1, flatAll_of r c2, ?_⟩
      rw [if_neg (by decide)]
      unfold inV
      rw [any_of h1 c1 r c2]
      exact q
    · refine ⟨p, vs, e1, .inr (SqT.of (s _ _ e2)), flatV_of h1 c1, flatAll_of r c2, ?_⟩
      rw [if_pos rfl]
      unfold inV
      rw [any_of h1 c1 r c2]
      exact q
  · cases h
theorem isNon_of {F H : Hp} {x : V} {d : D} (h : Vw F H x d) : decide (x = .non) = isNonD d := by
  cases d with
  | none => rw [vw_non h]; rfl
  | bool b => rw [vw_bl h]; rfl
  | int i => rw [vw_int h]; rfl
  | str i => rw [vw_str h]; rfl
  | list _ =>
    obtain ⟨a, vs, e, _⟩ := h
    rw [e]
    rfl
  | tuple _ =>
    obtain ⟨a, vs, e, _⟩ := h
    rw [e]
    rfl
  | dict _ => cases (show Rp F x (.dict _) from h)
theorem on_cmp (hu : X.A.units + 65 < cLine) (op : CmpOp) : OpR X (compareOp op) (rC2 (cmpD op)) := by
  intro pins s σ H x y v u Q I rx ry ⟨F, d, e, b, sb, h1, h2, hb, q⟩
  unfold cmpD at hb
  split at hb
  · cases hb
    exact on_cmpI op_lt pins s σ H x y v u Q I rx ry ⟨F, sb, h1, h2, q⟩
  · cases hb
    exact on_cmpI op_le pins s σ H x y v u Q I rx ry ⟨F, sb, h1, h2, q⟩
  · cases hb
    exact on_cmpI (f := fun i j => decide (j < i)) op_gt pins s σ H x y v u Q I rx ry ⟨F, sb, h1, h2, q⟩
  · cases hb
    exact on_cmpI (f := fun i j => decide (j ≤ i)) op_ge pins s σ H x y v u Q I rx ry ⟨F, sb, h1, h2, q⟩
  · exact on_eqD (by omega) hb pins s σ H x y v u Q I rx ry ⟨F, sb, h1, h2, q⟩
  · obtain ⟨b', hb', rfl⟩ := Option.map_eq_some_iff.mp hb
    exact on_neD (by omega) hb' pins s σ H x y v u Q I rx ry ⟨F, sb, h1, h2, q⟩
  · cases hb
    exact op_isN pins s σ H x y v u Q I rx ry ⟨vw_non h2, by rw [isNon_of h1]; exact q⟩
  · cases hb
    exact op_notN pins s σ H x y v u Q I rx ry ⟨vw_non h2, by rw [isNon_of h1]; exact q⟩
  · exact (on_inB hu hb).1 pins s σ H x y v u Q I rx ry ⟨F, sb, h1, h2, q⟩
  · obtain ⟨b', hb', rfl⟩ := Option.map_eq_some_iff.mp hb
    exact (on_inB hu hb').2 pins s σ H x y v u Q I rx ry ⟨F, sb, h1, h2, q⟩
  · cases hb
/-! ### truth -/
theorem tru_of {K : PySem.W.Frag} {F H : Hp} {x : V} {d : D} {b : Bool} (s : Sub F H) (h : VwS K F H x d) (e : truD d = some b) : TruV K x H b := by
  cases d with
  | none =>
    rw [vw_non (H := H) (show Vw F H x .none from h)]
    cases e
    rfl
  | bool c =>
    rw [vw_bl (H := H) (show Vw F H x (.bool c) from h)]
    cases e
    rfl
  | int i =>
    rw [vw_int (H := H) (show Vw F H x (.int i) from h)]
    cases e
    show decide (i ≠ 0) = (i != 0)
    by_cases hi : i = 0
    · subst hi
      rfl
    · rw [decide_eq_true hi]
      exact (bne_iff_ne.mpr hi).symm
  | list xs =>
    obtain ⟨a, vs, e1, h1, r⟩ := h
    subst e1
    cases e
    exact .inl ⟨vs, h1, by cases r <;> rfl⟩
  | tuple xs =>
    obtain ⟨a, vs, e1, h1, r⟩ := h
    subst e1
    cases e
    exact .inr (.inl ⟨vs, SqT.of (s _ _ h1), by cases r <;> rfl⟩)
  | str _ => cases e
  | dict _ => cases e
/-! ### subscripts, slices -/
theorem atI_map {F : Hp} {vs : List V} {ds : List D} (r : RpAll F vs ds) {i : Int} {d : D} (h : atI ds i = some d) : ∃ v, atI vs i = some v ∧ Rp F v d := by
  unfold atI at h ⊢
  rw [r.len]
  obtain ⟨j, h1, h2⟩ := Option.bind_eq_some_iff.mp h
  obtain ⟨v, h3, h4⟩ := r.get h2
  exact ⟨v, by rw [h1]; exact h3, h4⟩
theorem on_ix : IxR X (rN2S X.K fun d e => (idxD d e).map R.v) := by
  intro value slice pins s σ H x y v u Q I rx ry ⟨F, d, e, r, sb, h1, h2, hb, n⟩ hsub
  obtain ⟨z, hb', rfl⟩ := Option.map_eq_some_iff.mp hb
  clear hb
  unfold idxD at hb'
  split at hb'
  · obtain ⟨a, vs, e1, h1, r⟩ := h1
    obtain ⟨w, hw, rw'⟩ := atI_map r hb'
    exact ix_list value slice pins s σ H x y v u Q I rx ry ⟨a, vs, _, w, e1, vw_int h2, h1, hw, n.old sb rw'⟩ hsub
  · obtain ⟨a, vs, e1, h1, r⟩ := (show Vw F H x (.tuple _) from h1)
    obtain ⟨w, hw, rw'⟩ := atI_map r hb'
    exact ix_tup value slice pins s σ H x y v u Q I rx ry ⟨a, vs, _, w, e1, vw_int h2, SqT.of (sb _ _ h1), hw, n.old sb rw'⟩ hsub
  · cases hb'
theorem cut_map {F : Hp} {vs : List V} {ds : List D} (r : RpAll F vs ds) (lo hi : Option Int) : RpAll F (cutV vs lo hi) (cutA ds lo hi) := by
  unfold cutV cutA
  rw [r.len]
  exact (r.drop _).take _
theorem cutA_all {α : Type} {xs : List α} {lo hi : Option Int} (h1 : HT.sIx xs.length 0 lo = 0) (h2 : HT.sIx xs.length xs.length hi = xs.length) : cutA xs lo hi = xs := by
  unfold cutA
  rw [h1, h2, List.drop_zero, Nat.sub_zero, List.take_length]
theorem on_sl : SlR X (fun x lo hi H Q => ∃ F d r, Sub F H ∧ VwS X.K F H x d ∧ slcD d lo hi = some r ∧ NewR F H r Q) := by
  intro pins s σ H x v vl vu lo hi sl Q I rx hs pl pu ⟨F, d, r, sb, h1, hb, n⟩
  unfold slcD at hb
  split at hb
  · cases hb
    obtain ⟨a, vs, e1, h1, r⟩ := h1
    exact sl_list pins s σ H x v vl vu lo hi sl Q I rx hs pl pu ⟨a, vs, e1, h1, fun p hp => n.lst (cut_map r lo hi) p hp⟩
  · cases hb
    obtain ⟨a, vs, e1, h1', r⟩ := (show Vw F H x (.tuple _) from h1)
    refine sl_tupA pins s σ H x v vl vu lo hi sl Q I rx hs pl pu ⟨a, vs, e1, SqT.of (sb _ _ h1'), fun ⟨q1, q2⟩ => ?_, fun _ p hp => n.tup sb (cut_map r lo hi) p hp⟩
    rw [r.len] at q1 q2
    rw [cutA_all q1 q2] at n
    subst e1
    exact n.old sb (.tup h1' r)
  · cases hb
end
end Pv
namespace Pv
open PySem PySem.Spec L2
/-! ## built-in functions and methods by data -/
section
variable {X : Cx}
theorem callImp {f : Value} {r r' : List V → Hp → VK → Prop} (h : CallR X f r) (w : ∀ xs H Q, r' xs H Q → r xs H Q) : CallR X f r' := fun pins s σ H xs us Q I rx q => h pins s σ H xs us Q I rx (w _ _ _ q)
theorem mtImp {id : String} {r r' : V → List V → Hp → VK → Prop} (h : MtR X id r) (w : ∀ x xs H Q, r' x xs H Q → r x xs H Q) : MtR X id r' := fun pins s σ H x xs v us Q I rx rxs q => h pins s σ H x xs v us Q I rx rxs (w _ _ _ _ q)
theorem all1 {F H : Hp} {xs : List V} {d : D} (h : VwAll F H xs [d]) : ∃ x, xs = [x] ∧ Vw F H x d := by
  match xs, h with
  | [x], h => exact ⟨x, rfl, h.1⟩
  | [], h => exact h.elim
  | _ :: _ :: _, h => exact h.2.elim
theorem all2 {F H : Hp} {xs : List V} {d e : D} (h : VwAll F H xs [d, e]) : ∃ x y, xs = [x, y] ∧ Vw F H x d ∧ Vw F H y e := by
  match xs, h with
  | [x, y], h => exact ⟨x, y, rfl, h.1, h.2.1⟩
  | [], h => exact h.elim
  | [_], h => exact h.2.elim
  | _ :: _ :: _ :: _, h => exact h.2.2.elim
theorem boolsOf_map : ∀ {ds : List D} {bs : List Bool}, boolsOf ds = some bs → ds = bs.map PyData.bool
  | [], bs, h => by
    cases h
    rfl
  | d :: ds, bs, h => by
    cases d with
    | bool b =>
      obtain ⟨cs, h1, h2⟩ := bnd h
      cases h2
      rw [boolsOf_map h1]
      rfl
    | _ => cases h
theorem intsOf_map : ∀ {ds : List D} {bs : List Int}, intsOf ds = some bs → ds = bs.map PyData.int
  | [], bs, h => by
    cases h
    rfl
  | d :: ds, bs, h => by
    cases d with
    | int b =>
      obtain ⟨cs, h1, h2⟩ := bnd h
      cases h2
      rw [intsOf_map h1]
      rfl
    | _ => cases h
theorem intsOf_of : ∀ ns : List Int, intsOf (ns.map PyData.int) = some ns
  | [] => rfl
  | n :: ns => by
    show (intsOf (ns.map PyData.int)).bind _ = _
    rw [intsOf_of ns]
    rfl
theorem boolsOf_of : ∀ ns : List Bool, boolsOf (ns.map PyData.bool) = some ns
  | [] => rfl
  | n :: ns => by
    show (boolsOf (ns.map PyData.bool)).bind _ = _
    rw [boolsOf_of ns]
    rfl
theorem foldl_max_ge : ∀ (xs : List Int) (a : Int), a ≤ xs.foldl max a ∧ (∀ y ∈ xs, y ≤ xs.foldl max a) ∧ (xs.foldl max a = a ∨ xs.foldl max a ∈ xs)
  | [], a => ⟨Int.le_refl _, by simp, .inl rfl⟩
  | x :: xs, a => by
    obtain ⟨h1, h2, h3⟩ := foldl_max_ge xs (max a x)
    rw [List.foldl_cons]
    refine ⟨by omega, fun y hy => ?_, ?_⟩
    · rcases List.mem_cons.mp hy with rfl | hy
      · omega
      · exact h2 y hy
    · rcases h3 with h3 | h3
      · by_cases e : a ≤ x
        · exact .inr (by rw [h3, show max a x = x by omega]; exact List.mem_cons_self)
        · exact .inl (by rw [h3]; omega)
      · exact .inr (List.mem_cons_of_mem _ h3)
theorem foldl_min_le : ∀ (xs : List Int) (a : Int), xs.foldl min a ≤ a ∧ (∀ y ∈ xs, xs.foldl min a ≤ y) ∧ (xs.foldl min a = a ∨ xs.foldl min a ∈ xs)
  | [], a => ⟨Int.le_refl _, by simp, .inl rfl⟩
  | x :: xs, a => by
    obtain ⟨h1, h2, h3⟩ := foldl_min_le xs (min a x)
    rw [List.foldl_cons]
    refine ⟨by omega, fun y hy => ?_, ?_⟩
    · rcases List.mem_cons.mp hy with rfl | hy
      · omega
      · exact h2 y hy
    · rcases h3 with h3 | h3
      · by_cases e : x ≤ a
        · exact .inr (by rw [h3, show min a x = x by omega]; exact List.mem_cons_self)
        · exact .inl (by rw [h3]; omega)
      · exact .inr (List.mem_cons_of_mem _ h3)
theorem maxL_of {ns : List Int} {m : Int} (h : maxL ns = some m) : 0 < ns.length ∧ m ∈ ns ∧ ∀ y ∈ ns, y ≤ m := by
  cases ns with
  | nil => cases h
  | cons x xs =>
    cases h
    obtain ⟨h1, h2, h3⟩ := foldl_max_ge xs x
    refine ⟨Nat.succ_pos _, ?_, fun y hy => ?_⟩
    · rcases h3 with h3 | h3
      · rw [h3]
        exact List.mem_cons_self
      · exact List.mem_cons_of_mem _ h3
    · rcases List.mem_cons.mp hy with rfl | hy
      · exact h1
      · exact h2 y hy
theorem minL_of {ns : List Int} {m : Int} (h : minL ns = some m) : 0 < ns.length ∧ m ∈ ns ∧ ∀ y ∈ ns, m ≤ y := by
  cases ns with
  | nil => cases h
  | cons x xs =>
    cases h
    obtain ⟨h1, h2, h3⟩ := foldl_min_le xs x
    refine ⟨Nat.succ_pos _, ?_, fun y hy => ?_⟩
    · rcases h3 with h3 | h3
      · rw [h3]
        exact List.mem_cons_self
      · exact List.mem_cons_of_mem _ h3
    · rcases List.mem_cons.mp hy with rfl | hy
      · exact h1
      · exact h2 y hy
theorem insI_perm (x : Int) : ∀ ys : List Int, (insI x ys).Perm (x :: ys)
  | [] => .refl _
  | y :: ys => by
    unfold insI
    split
    · exact .refl _
    · exact ((insI_perm x ys).cons y).trans (.swap x y ys)
theorem srtI_perm : ∀ xs : List Int, (srtI xs).Perm xs
  | [] => .refl _
  | x :: xs => (insI_perm x _).trans ((srtI_perm xs).cons x)
theorem insI_sorted (x : Int) : ∀ {ys : List Int}, ys.Pairwise (· ≤ ·) → (insI x ys).Pairwise (· ≤ ·)
  | [], _ => List.pairwise_singleton _ _
  | y :: ys, h => by
    unfold insI
    rw [List.pairwise_cons] at h
    split
    · rename_i hxy
      rw [List.pairwise_cons]
      refine ⟨fun z hz => ?_, List.pairwise_cons.mpr h⟩
      rcases List.mem_cons.mp hz with rfl | hz
      · exact hxy
      · exact Int.le_trans hxy (h.1 z hz)
    · rename_i hxy
      rw [List.pairwise_cons]
      refine ⟨fun z hz => ?_, insI_sorted x h.2⟩
      rcases List.mem_cons.mp ((insI_perm x ys).mem_iff.mp hz) with rfl | hz
      · omega
      · exact h.1 z hz
theorem srtI_sorted : ∀ xs : List Int, (srtI xs).Pairwise (· ≤ ·)
  | [] => List.Pairwise.nil
  | x :: xs => insI_sorted x (srtI_sorted xs)
theorem srt_same {a b : List Int} (h : a.Perm b) (h1 : a.Pairwise (· ≤ ·)) (h2 : b.Pairwise (· ≤ ·)) : a = b :=
  List.Perm.eq_of_pairwise (fun x y _ _ p q => Int.le_antisymm p q) h1 h2 h
def Bi.val : Bi → Value
  | .len => .builtin "len"
  | .tuple => .type "tuple"
  | .list => .type "list"
  | .all => .builtin "all"
  | .any => .builtin "any"
  | .int => .type "int"
  | .abs => .builtin "abs"
  | .min2 => .builtin "min"
  | .max2 => .builtin "max"
  | .sum => .builtin "sum"
  | .min => .builtin "min"
  | .max => .builtin "max"
  | .sorted => .builtin "sorted"
theorem on_len : CallR X (.builtin "len") (rNsS X.K fun d => biD .len [d]) := callImp call_len_seq fun xs H Q ⟨F, x, d, r, e, s, h, hb, n⟩ => by
  cases d with
  | list ys =>
    cases (show some _ = some r from hb)
    obtain ⟨a, vs, e1, h1, r⟩ := h
    rw [← r.len] at n
    exact ⟨a, vs, by rw [e, e1], .inl h1, n.old s (.int _)⟩
  | tuple ys =>
    cases (show some _ = some r from hb)
    obtain ⟨a, vs, e1, h1, r⟩ := (show Vw F H x (.tuple _) from h)
    rw [← r.len] at n
    exact ⟨a, vs, by rw [e, e1], .inr (SqT.of (s _ _ h1)), n.old s (.int _)⟩
  | none => exact nomatch (show (none : Option R) = some r from hb)
  | bool _ => exact nomatch (show (none : Option R) = some r from hb)
  | int _ => exact nomatch (show (none : Option R) = some r from hb)
  | str _ => exact nomatch (show (none : Option R) = some r from hb)
  | dict _ => exact nomatch (show (none : Option R) = some r from hb)
theorem on_list : CallR X (.type "list") (rNsS X.K fun d => biD .list [d]) := callImp call_list_of fun xs H Q ⟨F, x, d, r, e, s, h, hb, n⟩ => by
  cases d with
  | list ys =>
    cases (show some _ = some r from hb)
    obtain ⟨a, vs, e1, h1, r⟩ := h
    exact ⟨a, vs, by rw [e, e1], .inl h1, fun p hp => n.lst r p hp⟩
  | tuple ys =>
    cases (show some _ = some r from hb)
    obtain ⟨a, vs, e1, h1, r⟩ := (show Vw F H x (.tuple _) from h)
    exact ⟨a, vs, by rw [e, e1], .inr (SqT.of (s _ _ h1)), fun p hp => n.lst r p hp⟩
  | none => exact nomatch (show (none : Option R) = some r from hb)
  | bool _ => exact nomatch (show (none : Option R) = some r from hb)
  | int _ => exact nomatch (show (none : Option R) = some r from hb)
  | str _ => exact nomatch (show (none : Option R) = some r from hb)
  | dict _ => exact nomatch (show (none : Option R) = some r from hb)
theorem on_bi (hc : X.calm = true) (b : Bi) (hl : b ≠ .len) (hl2 : b ≠ .list) : CallR X b.val (rNs (biD b)) := by
  intro pins s σ H xs us Q I rx ⟨F, ds, r, sb, h, hb, n⟩
  unfold biD at hb
  split at hb
  · exact absurd rfl hl
  · exact absurd rfl hl
  · cases hb
    obtain ⟨x, rfl, a, vs, e1, h1, r⟩ := all1 h
    exact call_tuple_of pins s σ H _ us Q I rx ⟨a, vs, by rw [e1], .inl ⟨SqL.of h1, fun p hp => n.tup sb r p hp⟩⟩
  · cases hb
    obtain ⟨x, rfl, a, vs, e1, h1, r⟩ := all1 h
    exact call_tuple_of pins s σ H _ us Q I rx ⟨a, vs, by rw [e1], .inr ⟨SqT.of (sb _ _ h1), n.old sb (.tup h1 r)⟩⟩
  · exact absurd rfl hl2
  · exact absurd rfl hl2
  · obtain ⟨bs, h1, hb⟩ := bnd hb
    cases hb
    obtain ⟨x, rfl, a, vs, e1, h2, r⟩ := all1 h
    rw [boolsOf_map h1] at r
    have ev := r.bools
    subst ev
    exact cr_all hc pins s σ H _ us Q I rx ⟨a, bs, by rw [e1], SqL.of h2, n.old sb (.bl _)⟩
  · obtain ⟨bs, h1, hb⟩ := bnd hb
    cases hb
    obtain ⟨x, rfl, a, vs, e1, h2, r⟩ := all1 h
    rw [boolsOf_map h1] at r
    have ev := r.bools
    subst ev
    exact cr_any hc pins s σ H _ us Q I rx ⟨a, bs, by rw [e1], SqL.of h2, n.old sb (.bl _)⟩
  · cases hb
    obtain ⟨x, rfl, h1⟩ := all1 h
    exact call_int1 pins s σ H _ us Q I rx (.inl ⟨_, by rw [vw_int h1], n.old sb (.int _)⟩)
  · cases hb
    obtain ⟨x, rfl, h1⟩ := all1 h
    exact call_int1 pins s σ H _ us Q I rx (.inr ⟨_, by rw [vw_bl h1], n.old sb (.int _)⟩)
  · cases hb
    obtain ⟨x, rfl, h1⟩ := all1 h
    exact call_abs pins s σ H _ us Q I rx ⟨_, by rw [vw_int h1], n.old sb (.int _)⟩
  · cases hb
    obtain ⟨x, y, rfl, h1, h2⟩ := all2 h
    exact call_min2 hc pins s σ H _ us Q I rx ⟨_, _, by rw [vw_int h1, vw_int h2], n.old sb (.int _)⟩
  · cases hb
    obtain ⟨x, y, rfl, h1, h2⟩ := all2 h
    exact call_max2 hc pins s σ H _ us Q I rx ⟨_, _, by rw [vw_int h1, vw_int h2], n.old sb (.int _)⟩
  · obtain ⟨ns, h1, hb⟩ := bnd hb
    cases hb
    obtain ⟨x, rfl, a, vs, e1, h2, r⟩ := all1 h
    rw [intsOf_map h1] at r
    have ev := r.ints
    subst ev
    exact cr_sum hc pins s σ H _ us Q I rx ⟨a, ns, by rw [e1], SqL.of h2, n.old sb (.int _)⟩
  · obtain ⟨ns, h1, hb⟩ := bnd hb
    obtain ⟨m, h3, hb⟩ := bnd hb
    cases hb
    obtain ⟨x, rfl, a, vs, e1, h2, r⟩ := all1 h
    rw [intsOf_map h1] at r
    have ev := r.ints
    subst ev
    obtain ⟨m1, m2, m3⟩ := maxL_of h3
    refine cr_max hc pins s σ H _ us Q I rx ⟨a, ns, by rw [e1], SqL.of h2, m1, fun m' p1 p2 => ?_⟩
    rw [show m' = m from Int.le_antisymm (m3 m' p1) (p2 m m2)]
    exact n.old sb (.int _)
  · obtain ⟨ns, h1, hb⟩ := bnd hb
    obtain ⟨m, h3, hb⟩ := bnd hb
    cases hb
    obtain ⟨x, rfl, a, vs, e1, h2, r⟩ := all1 h
    rw [intsOf_map h1] at r
    have ev := r.ints
    subst ev
    obtain ⟨m1, m2, m3⟩ := minL_of h3
    refine cr_min hc pins s σ H _ us Q I rx ⟨a, ns, by rw [e1], SqL.of h2, m1, fun m' p1 p2 => ?_⟩
    rw [show m' = m from Int.le_antisymm (p2 m m2) (m3 m' p1)]
    exact n.old sb (.int _)
  · obtain ⟨ns, h1, hb⟩ := bnd hb
    cases hb
    obtain ⟨x, rfl, a, vs, e1, h2, r⟩ := all1 h
    rw [intsOf_map h1] at r
    have ev := r.ints
    subst ev
    refine cr_sortedI pins s σ H _ us Q I rx ⟨a, ns, by rw [e1], SqL.of h2, fun ns' p hp hs hn => ?_⟩
    rw [srt_same (hp.trans (srtI_perm ns).symm) hs (srtI_sorted ns)]
    have z := n.lst (vs := (srtI ns).map V.int) (RpAll.ofInts _) p hn
    exact z
  · cases hb
/-! ### isinstance -/
def tyId : D → String
  | .none => "NoneType"
  | .bool _ => "bool"
  | .int _ => "int"
  | .str _ => "str"
  | .list _ => "list"
  | .tuple _ => "tuple"
  | .dict _ => "dict"
def Ty.id : Ty → String
  | .int => "int"
  | .bool => "bool"
  | .str => "str"
  | .tuple => "tuple"
  | .list => "list"
theorem kit_all {K : PySem.W.Frag} (d : D) (y : Ty) : PySem.W.kitOne K (.type (tyId d)) (.type y.id) = some (isiD d y) := by
  cases d <;> cases y <;> (refine kit_ty ?_; simp only [tyId, Ty.id, isiD]; decide +kernel)
theorem tyX_of {K : PySem.W.Frag} {F H : Hp} {x : V} {d : D} (s : Sub F H) (h : Vw F H x d) : TyX K H x (.type (tyId d)) := by
  cases d with
  | none => rw [vw_non h]; exact .base .non
  | bool b => rw [vw_bl h]; exact .base (.bl _)
  | int i => rw [vw_int h]; exact .base (.int _)
  | str i => rw [vw_str h]; exact .base (.str _)
  | list _ =>
    obtain ⟨a, vs, e, h1, _⟩ := h
    rw [e]
    exact .base (.lst h1)
  | tuple _ =>
    obtain ⟨a, vs, e, h1, _⟩ := h
    rw [e]
    exact .base (.tup (s _ _ h1))
  | dict _ => cases (show Rp F x (.dict _) from h)
theorem kitAny_all {K : PySem.W.Frag} (d : D) : ∀ ys : List Ty, PySem.W.kitAny K (.type (tyId d)) (ys.map fun y => Value.type y.id) = some (ys.any (isiD d))
  | [] => kitAny_nil
  | y :: ys => by
    refine kitAny_cons (kit_all d y) (fun e => ?_) fun e => ?_
    · rw [kitAny_all d ys, List.any_cons, e, Bool.false_or]
    · rw [List.any_cons, e, Bool.true_or]
/-! ### methods -/
theorem ixOf_spec {x : D} : ∀ {xs : List D} {j : Nat}, ixOf x xs = some j → ∃ z, xs[j]? = some z ∧ PyData.eqv z x = true ∧ ∀ (m : Nat) (z' : D), m < j → xs[m]? = some z' → PyData.eqv z' x = false
  | [], j, h => by cases h
  | y :: ys, j, h => by
    unfold ixOf at h
    by_cases e : PyData.eqv y x = true
    · rw [if_pos e] at h
      cases h
      exact ⟨y, rfl, e, fun m z' hm => absurd hm (Nat.not_lt_zero _)⟩
    · rw [if_neg e] at h
      obtain ⟨i, h1, rfl⟩ := Option.map_eq_some_iff.mp h
      obtain ⟨z, a1, a2, a3⟩ := ixOf_spec h1
      refine ⟨z, a1, a2, fun m z' hm hz => ?_⟩
      cases m with
      | zero =>
        cases hz
        exact Bool.eq_false_iff.mpr e
      | succ m => exact a3 m z' (Nat.lt_of_succ_lt_succ hm) hz
theorem all_at {p : D → Bool} {ds : List D} (h : ds.all p = true) {i : Nat} {d : D} (e : ds[i]? = some d) : p d = true := List.all_eq_true.mp h d (List.mem_of_getElem? e)
def Mt.id : Mt → String
  | .index => "list.index"
  | .count => "list.count"
theorem on_mt (m : Mt) : MtR X m.id (rNm (mtD m)) := by
  intro pins s σ H x xs v us Q I rx rxs ⟨F, d, ds, r, sb, h1, h2, hb, n⟩
  unfold mtD at hb
  split at hb
  · rename_i ys e
    by_cases hc : (flatD e && ys.all flatD) = true
    · rw [if_pos hc] at hb
      obtain ⟨c1, c2⟩ := and_t hc
      obtain ⟨j, hj, hb⟩ := bnd hb
      cases hb
      obtain ⟨z, a1, a2, a3⟩ := ixOf_spec hj
      obtain ⟨y, rfl, h3⟩ := all1 h2
      obtain ⟨a, vs, e1, h1, r⟩ := h1
      obtain ⟨w, w1, w2⟩ := r.get a1
      refine mt_index pins s σ H x _ v us Q I rx rxs ⟨a, vs, y, j, w, e1, rfl, SqL.of h1, flatV_of h3 c1, flatAll_of r c2, w1, ?_, fun m z' hm hz => ?_, n.old sb (.int _)⟩
      · rw [eqV_of (Rp.vw (H := F) Sub.rfl w2) h3 (all_at c2 a1) c1]
        exact a2
      · obtain ⟨d', b1, b2⟩ := r.getV hz
        rw [eqV_of (Rp.vw (H := F) Sub.rfl b2) h3 (all_at c2 b1) c1]
        exact a3 m d' hm b1
    · rw [if_neg hc] at hb
      cases hb
  · obtain ⟨ns, q1, hb⟩ := bnd hb
    cases hb
    obtain ⟨y, rfl, h3⟩ := all1 h2
    obtain ⟨a, vs, e1, h1, r⟩ := h1
    rw [intsOf_map q1] at r
    have ev := r.ints
    subst ev
    exact mt_lcount pins s σ H x _ v us Q I rx rxs ⟨a, ns, _, e1, by rw [vw_int h3], SqL.of h1, n.old sb (.int _)⟩
  · cases hb
end
end Pv
namespace Pv
open PySem PySem.Spec L2
/-! ## each form, by the readings of its parts -/
section
variable {t : Tab} {Φ : Phi} {k : Nat} {c : Ctx} {X : Cx} {K : PySem.W.Frag} {F H F1 H1 : Hp} {ρ ρ1 ρ2 : Env} {σ : St}
theorem PostE.go {r : R} {Q : VK} (q : PostE K F H ρ σ r ρ2 Q) (s : Step F H (Own ρ σ) F1 H1 (Own ρ1 σ)) : PostE K F1 H1 ρ1 σ r ρ2 Q := fun v F2 H2 s2 g2 => q v F2 H2 (s.trans s2) g2
theorem s_con {e : Expr} {i : E} {v : V} {d : D} (hp : PE X e (tC v)) (hr : ∀ F, Rp F v d) (he : ∀ ρ, evE Φ i ρ = some (.v d, ρ)) : PE X e (tE Φ X.K i) := hp.imp fun σ H Q ⟨F, ρ, r, ρ1, g, ev, q⟩ => by
  rw [he] at ev
  cases ev
  exact post_d Step.refl g q (hr F)
theorem s_var {e : Expr} {j : Nat} (hp : PE X e (tVar j)) : PE X e (tE Φ X.K (.var j)) := hp.imp fun σ H Q ⟨F, ρ, r, ρ1, g, ev, q⟩ => by
  obtain ⟨r', hr, ev⟩ := bnd ev
  obtain ⟨v, hv⟩ := g.has j r' (getS_eq.mp hr)
  refine ⟨v, hv, ?_⟩
  have rep := g.at hr hv
  cases r' with
  | v d =>
    cases ev
    exact post_v Step.refl g q rfl rep
  | m _ _ => cases ev
  | s ns =>
    cases ev
    exact post_v Step.refl g q rfl rep
  | l xs =>
    cases ev
    obtain ⟨a, us, e1, _⟩ := rep
    subst e1
    obtain ⟨F2, s2, g2, rp, _⟩ := g.freeze hr hv
    exact post_d s2 g2 q rp
theorem s_mv {e : Expr} {j : Nat} (hp : PE X e (tVar j)) : PE X e (tE Φ X.K (.mv j)) := hp.imp fun σ H Q ⟨F, ρ, r, ρ1, g, ev, q⟩ => by
  obtain ⟨r', hr, ev⟩ := bnd ev
  cases ev
  obtain ⟨v, hv⟩ := g.has j r (getS_eq.mp hr)
  exact ⟨v, hv, q v F H (Step.refl.weak fun a z => own_move g.len hr hv z) (g.move hr hv)⟩
theorem s_bin {op : Operator} {a b : E} {ea eb : Expr} {pos : Pos} (ha : PE X ea (tO Φ X.K a)) (hb : PE X eb (tO Φ X.K b)) : PE X (.BinOp ea op eb pos) (tE Φ X.K (.bin op a b)) :=
  (pe_op (on_bin op) ha hb).imp fun σ H Q ⟨F, ρ, r, ρ1, g, ev, q⟩ => by
    obtain ⟨⟨x, ρa⟩, e1, ev⟩ := bnd ev
    obtain ⟨⟨y, ρb⟩, e2, ev⟩ := bnd ev
    obtain ⟨d, e3, ev⟩ := bnd ev
    obtain ⟨e, e4, ev⟩ := bnd ev
    obtain ⟨r', e5, ev⟩ := bnd ev
    cases ev
    exact two_read g e1 e2 fun v w F2 H2 s2 g2 r1 r2 => ⟨F2, d, e, r, g2.sub, r1.vw g2 e3, r2.vw g2 e4, e5, NewR.of q s2 g2⟩
theorem s_neg {a : E} {ea : Expr} {pos : Pos} (ha : PE X ea (tO Φ X.K a)) : PE X (.UnaryOp .USub ea pos) (tE Φ X.K (.neg a)) :=
  (pe_un on_neg ha).imp fun σ H Q ⟨F, ρ, r, ρ1, g, ev, q⟩ => by
    obtain ⟨⟨x, ρa⟩, e1, ev⟩ := bnd ev
    obtain ⟨d, e3, ev⟩ := bnd ev
    obtain ⟨r', e5, ev⟩ := bnd ev
    cases ev
    exact ⟨F, ρ, x, _, g, e1, fun v F2 H2 s2 g2 r1 => ⟨F2, d, _, g2.sub, r1.vw g2 e3, by show (negD d).map R.v = _; rw [e5]; rfl, NewR.of q s2 g2⟩⟩
theorem behind_of {op : CmpOp} {e : Expr} (h : noSet e = true) : behindInMarks op e = false := by
  cases e <;> first | rfl | exact nomatch h
theorem COk.u65 (C : COk t Φ k c X) : X.A.units + 65 < cLine := by
  have := C.room.un
  omega
theorem s_cmp (C : COk t Φ k c X) {op : CmpOp} {a b : E} {ea eb : Expr} {pos : Pos} (hm : noSet eb = true) (ha : PE X ea (tO Φ X.K a)) (hb : PE X eb (tO Φ X.K b)) : PE X (.Compare ea [op] [eb] pos) (tE Φ X.K (.cmp op a b)) :=
  (pe_cmpR (on_cmp C.u65 op) ha hb (behind_of hm)).imp fun σ H Q ⟨F, ρ, r, ρ1, g, ev, q⟩ => by
    obtain ⟨⟨x, ρa⟩, e1, ev⟩ := bnd ev
    obtain ⟨⟨y, ρb⟩, e2, ev⟩ := bnd ev
    obtain ⟨d, e3, ev⟩ := bnd ev
    obtain ⟨e, e4, ev⟩ := bnd ev
    obtain ⟨r', e5, ev⟩ := bnd ev
    cases ev
    exact two_read g e1 e2 fun v w F2 H2 s2 g2 r1 r2 => ⟨F2, d, e, r', g2.sub, r1.vw g2 e3, r2.vw g2 e4, e5, post_d s2 g2 q (.bl _)⟩
theorem t_cmp (C : COk t Φ k c X) {op : CmpOp} {a b : E} {ea eb : Expr} {pos : Pos} (hm : noSet eb = true) (ha : PE X ea (tO Φ X.K a)) (hb : PE X eb (tO Φ X.K b)) : PT X (.Compare ea [op] [eb] pos) (tT Φ X.K (.tcmp op a b)) :=
  (pt_cmpR (on_cmp C.u65 op) ha hb (behind_of hm)).imp fun σ H Q ⟨F, ρ, r, ρ1, g, ev, q⟩ => by
    obtain ⟨⟨x, ρa⟩, e1, ev⟩ := bnd ev
    obtain ⟨⟨y, ρb⟩, e2, ev⟩ := bnd ev
    obtain ⟨d, e3, ev⟩ := bnd ev
    obtain ⟨e, e4, ev⟩ := bnd ev
    obtain ⟨r', e5, ev⟩ := bnd ev
    cases ev
    exact two_read g e1 e2 fun v w F2 H2 s2 g2 r1 r2 => ⟨F2, d, e, r, g2.sub, r1.vw g2 e3, r2.vw g2 e4, e5, r, rfl, q F2 H2 s2 g2⟩
theorem s_chain (C : COk t Φ k c X) {p p' : CmpOp} {a b d : E} {ea eb ed : Expr} {pos : Pos} (hm : noSet eb = true) (hm2 : noSet ed = true) (ha : PE X ea (tO Φ X.K a)) (hb : PE X eb (tO Φ X.K b)) (hd : PE X ed (tO Φ X.K d))
    (pe : PE X (.Compare ea [p, p'] [eb, ed] pos) (tChain (rC2 (cmpD p)) (rC2 (cmpD p')) (tO Φ X.K a) (tO Φ X.K b) (tO Φ X.K d))) : PE X (.Compare ea [p, p'] [eb, ed] pos) (tE Φ X.K (.chain p p' a b d)) :=
  pe.imp fun σ H Q ⟨F, ρ, r, ρ1, g, ev, q⟩ => by
    obtain ⟨⟨x, ρa⟩, e1, ev⟩ := bnd ev
    obtain ⟨⟨y, ρb⟩, e2, ev⟩ := bnd ev
    obtain ⟨dx, e3, ev⟩ := bnd ev
    obtain ⟨dy, e4, ev⟩ := bnd ev
    obtain ⟨r', e5, ev⟩ := bnd ev
    refine two_read g e1 e2 fun v w F2 H2 s2 g2 r1 r2 => ⟨F2, dx, dy, r', g2.sub, r1.vw g2 e3, r2.vw g2 e4, e5, r', rfl, ?_⟩
    cases r' with
    | false =>
      cases ev
      exact post_d s2 g2 q (.bl _)
    | true =>
      obtain ⟨⟨z, ρc⟩, e6, ev⟩ := bnd ev
      obtain ⟨ey, e7, ev⟩ := bnd ev
      obtain ⟨ez, e8, ev⟩ := bnd ev
      obtain ⟨r3, e9, ev⟩ := bnd ev
      cases ev
      show tO Φ X.K d σ H2 _
      exact ⟨F2, _, z, _, g2, e6, fun u F3 H3 s3 g3 r3' => ⟨F3, ey, ez, r3, g3.sub, (r2.mono s3.fz).vw g3 e7, r3'.vw g3 e8, e9, post_d (s2.trans s3) g3 q (.bl _)⟩⟩
theorem t_chain (C : COk t Φ k c X) {p p' : CmpOp} {a b d : E} {ea eb ed : Expr} {pos : Pos} (ha : PE X ea (tO Φ X.K a)) (hb : PE X eb (tO Φ X.K b)) (hd : PE X ed (tO Φ X.K d))
    (pt : PT X (.Compare ea [p, p'] [eb, ed] pos) (tTest (tChain (rC2 (cmpD p)) (rC2 (cmpD p')) (tO Φ X.K a) (tO Φ X.K b) (tO Φ X.K d)))) : PT X (.Compare ea [p, p'] [eb, ed] pos) (tT Φ X.K (.tchain p p' a b d)) :=
  pt.imp fun σ H Q ⟨F, ρ, r, ρ1, g, ev, q⟩ => by
    obtain ⟨⟨x, ρa⟩, e1, ev⟩ := bnd ev
    obtain ⟨⟨y, ρb⟩, e2, ev⟩ := bnd ev
    obtain ⟨dx, e3, ev⟩ := bnd ev
    obtain ⟨dy, e4, ev⟩ := bnd ev
    obtain ⟨r', e5, ev⟩ := bnd ev
    refine two_read g e1 e2 fun v w F2 H2 s2 g2 r1 r2 => ⟨F2, dx, dy, r', g2.sub, r1.vw g2 e3, r2.vw g2 e4, e5, r', rfl, ?_⟩
    cases r' with
    | false =>
      cases ev
      exact ⟨false, rfl, q _ _ s2 g2⟩
    | true =>
      obtain ⟨⟨z, ρc⟩, e6, ev⟩ := bnd ev
      obtain ⟨ey, e7, ev⟩ := bnd ev
      obtain ⟨ez, e8, ev⟩ := bnd ev
      obtain ⟨r3, e9, ev⟩ := bnd ev
      cases ev
      show tO Φ X.K d σ H2 _
      exact ⟨F2, _, z, _, g2, e6, fun u F3 H3 s3 g3 r3' => ⟨F3, ey, ez, r, g3.sub, (r2.mono s3.fz).vw g3 e7, r3'.vw g3 e8, e9, r, rfl, q _ _ (s2.trans s3) g3⟩⟩
theorem truR_of {K : PySem.W.Frag} {F H : Hp} {r : R} {v : V} {b : Bool} (s : Sub F H) (h : RepR K F H v r) (e : truR r = some b) : TruV K v H b := by
  obtain ⟨d, e1, e2⟩ := bnd e
  exact tru_of s (RepR.vws s h e1) e2
theorem top_rep {r : R} {v : V} (g : Good K F H (ρ ++ [some r]) (σ ++ [some v])) : RepR K F H v r := g.rep _ _ _ (hold_top (len1 g))
theorem s_or {a b : E} {x y : Expr} {rest : List Expr} {pos : Pos} (ha : PE X x (tE Φ X.K a)) (hb : PE X (.BoolOp .Or (y :: rest) pos) (tE Φ X.K b)) : PE X (.BoolOp .Or (x :: y :: rest) pos) (tE Φ X.K (.or_ a b)) :=
  (pe_orT ha hb).imp fun σ H Q ⟨F, ρ, r, ρ1, g, ev, q⟩ => by
    obtain ⟨⟨r', ρa⟩, e1, ev⟩ := bnd ev
    obtain ⟨b', e2, ev⟩ := bnd ev
    refine ⟨F, ρ, r', ρa, g, e1, fun v F2 H2 s2 g2 => ⟨b', truR_of g2.sub (top_rep g2) e2, ?_⟩⟩
    cases b' with
    | true =>
      cases ev
      exact q v F2 H2 s2 g2
    | false => exact ⟨F2, ρa, r, ρ1, g2.left (len1 g2), ev, q.go (s2.weak fun a z => own_left z)⟩
theorem s_and {a b : E} {x y : Expr} {rest : List Expr} {pos : Pos} (ha : PE X x (tE Φ X.K a)) (hb : PE X (.BoolOp .And (y :: rest) pos) (tE Φ X.K b)) : PE X (.BoolOp .And (x :: y :: rest) pos) (tE Φ X.K (.and_ a b)) :=
  (pe_andT ha hb).imp fun σ H Q ⟨F, ρ, r, ρ1, g, ev, q⟩ => by
    obtain ⟨⟨r', ρa⟩, e1, ev⟩ := bnd ev
    obtain ⟨b', e2, ev⟩ := bnd ev
    refine ⟨F, ρ, r', ρa, g, e1, fun v F2 H2 s2 g2 => ⟨b', truR_of g2.sub (top_rep g2) e2, ?_⟩⟩
    cases b' with
    | false =>
      cases ev
      exact q v F2 H2 s2 g2
    | true => exact ⟨F2, ρa, r, ρ1, g2.left (len1 g2), ev, q.go (s2.weak fun a z => own_left z)⟩
theorem s_not {a : E} {ea : Expr} {pos : Pos} (ha : PE X ea (tO Φ X.K a)) : PE X (.UnaryOp .Not ea pos) (tE Φ X.K (.not_ a)) :=
  (pe_notT ha).imp fun σ H Q ⟨F, ρ, r, ρ1, g, ev, q⟩ => by
    obtain ⟨⟨x, ρa⟩, e1, ev⟩ := bnd ev
    obtain ⟨d, e3, ev⟩ := bnd ev
    obtain ⟨b, e5, ev⟩ := bnd ev
    cases ev
    exact ⟨F, ρ, x, _, g, e1, fun v F2 H2 s2 g2 r1 => ⟨b, tru_of g2.sub (r1.vws g2 e3) e5, post_d s2 g2 q (.bl _)⟩⟩
theorem s_ife {d a b : E} {ed ea eb : Expr} {pos : Pos} (hd : PT X ed (tT Φ X.K d)) (ha : PE X ea (tE Φ X.K a)) (hb : PE X eb (tE Φ X.K b)) : PE X (.IfExp ed ea eb pos) (tE Φ X.K (.ife d a b)) :=
  (pe_ifExp hd ha hb).imp fun σ H Q ⟨F, ρ, r, ρ1, g, ev, q⟩ => by
    obtain ⟨⟨b', ρa⟩, e1, ev⟩ := bnd ev
    refine ⟨F, ρ, b', ρa, g, e1, fun F2 H2 s2 g2 => ?_⟩
    cases b' with
    | true => exact ⟨F2, ρa, r, ρ1, g2, ev, q.go s2⟩
    | false => exact ⟨F2, ρa, r, ρ1, g2, ev, q.go s2⟩
theorem s_tup {a : E} {es : List Expr} {x1 : Nat} {pos : Pos} (ha : PA X es (tF Φ X.K a)) : PE X (.Tuple es x1 pos) (tE Φ X.K (.tup a)) :=
  (pe_tup ha).imp fun σ H Q ⟨F, ρ, r, ρ1, g, ev, q⟩ => by
    obtain ⟨⟨ds, ρa⟩, e1, ev⟩ := bnd ev
    obtain ⟨hz, ev⟩ := ite_some ev
    cases ev
    exact ⟨F, ρ, ds, _, g, e1, fun vs F2 H2 s2 g2 r2 => ⟨by rw [r2.len]; exact okN_le hz, fun p hp => post_t s2 g2 q r2 p hp⟩⟩
theorem s_lst {a : E} {es : List Expr} {pos : Pos} (ha : PA X es (tF Φ X.K a)) : PE X (.List es pos) (tE Φ X.K (.lst a)) :=
  (pe_lst ha).imp fun σ H Q ⟨F, ρ, r, ρ1, g, ev, q⟩ => by
    obtain ⟨⟨ds, ρa⟩, e1, ev⟩ := bnd ev
    obtain ⟨hz, ev⟩ := ite_some ev
    cases ev
    exact ⟨F, ρ, ds, _, g, e1, fun vs F2 H2 s2 g2 r2 => ⟨by rw [r2.len]; exact okN_le hz, fun p hp => post_l s2 g2 q r2 p hp⟩⟩
theorem plainIx_of {b : Expr} (h : plainIx b = true) : PlainIx b := by
  cases b with
  | Constant v k pos =>
    cases v <;> first | (exfalso; simp [plainIx] at h; done) | exact fun _ _ => rfl
  | _ => first | (exfalso; simp [plainIx] at h; done) | exact fun _ _ => rfl
theorem s_idx {a b : E} {ea eb : Expr} {pos : Pos} (hp : plainIx eb = true) (ha : PE X ea (tO Φ X.K a)) (hb : PE X eb (tO Φ X.K b)) : PE X (.Subscript ea eb pos) (tE Φ X.K (.idx a b)) :=
  (pe_ix on_ix ha hb (plainIx_of hp)).imp fun σ H Q ⟨F, ρ, r, ρ1, g, ev, q⟩ => by
    obtain ⟨⟨x, ρa⟩, e1, ev⟩ := bnd ev
    obtain ⟨⟨y, ρb⟩, e2, ev⟩ := bnd ev
    obtain ⟨d, e3, ev⟩ := bnd ev
    obtain ⟨e, e4, ev⟩ := bnd ev
    obtain ⟨r', e5, ev⟩ := bnd ev
    cases ev
    exact two_read g e1 e2 fun v w F2 H2 s2 g2 r1 r2 => ⟨F2, d, e, .v r', g2.sub, r1.vws g2 e3, r2.vw g2 e4, by show (idxD d e).map R.v = _; rw [e5]; rfl, NewR.of q s2 g2⟩
theorem s_slc {a lo hi : E} {ea : Expr} {u v : Option Expr} {pos pos' : Pos} (ha : PE X ea (tO Φ X.K a)) (hl : PO X u (tBd Φ X.K lo)) (hh : PO X v (tBd Φ X.K hi)) : PE X (.Subscript ea (.Slice u v none pos') pos) (tE Φ X.K (.slc a lo hi)) :=
  (pe_slice on_sl ha hl hh).imp fun σ H Q ⟨F, ρ, r, ρ1, g, ev, q⟩ => by
    obtain ⟨⟨x, ρa⟩, e1, ev⟩ := bnd ev
    obtain ⟨⟨l, ρb⟩, e2, ev⟩ := bnd ev
    obtain ⟨⟨h, ρc⟩, e3, ev⟩ := bnd ev
    obtain ⟨d, e4, ev⟩ := bnd ev
    obtain ⟨r', e5, ev⟩ := bnd ev
    cases ev
    exact ⟨F, ρ, x, ρa, g, e1, fun v F2 H2 s2 g2 r1 => ⟨F2, ρa, l, ρb, g2, e2, fun F3 H3 s3 g3 => ⟨F3, ρb, h, _, g3, e3, fun F4 H4 s4 g4 =>
      ⟨F4, d, r, g4.sub, ((r1.mono s3.fz).mono s4.fz).vws g4 e4, e5, NewR.of q ((s2.trans s3).trans s4) g4⟩⟩⟩⟩
/-! ### truth -/
theorem plainTest_of {e : Expr} {env : PySem.Env} (h : plainTest e = true) : ∀ whole, isTrue e env whole = (do let v ← whole; standAt e.pos; holding [v] (truthy v)) := by
  cases e <;> first | (exfalso; simp [plainTest] at h; done) | exact fun _ => rfl
theorem t_tt {a : E} {ea : Expr} (hp : plainTest ea = true) (ha : PE X ea (tO Φ X.K a)) : PT X ea (tT Φ X.K (.tt a)) :=
  (pt_truth ha (plainTest_of hp)).imp fun σ H Q ⟨F, ρ, b, ρ1, g, ev, q⟩ => by
    obtain ⟨⟨x, ρa⟩, e1, ev⟩ := bnd ev
    obtain ⟨d, e3, ev⟩ := bnd ev
    obtain ⟨b, e5, ev⟩ := bnd ev
    cases ev
    exact ⟨F, ρ, x, _, g, e1, fun v F2 H2 s2 g2 r1 => ⟨_, tru_of g2.sub (r1.vws g2 e3) e5, q F2 H2 s2 g2⟩⟩
theorem t_and {a b : E} {x y : Expr} {rest : List Expr} {pos : Pos} (ha : PT X x (tT Φ X.K a)) (hb : PW X (.BoolOp .And (y :: rest) pos) (tT Φ X.K b)) : PW X (.BoolOp .And (x :: y :: rest) pos) (tT Φ X.K (.tand a b)) :=
  (pw_and ha hb).imp fun σ H Q ⟨F, ρ, b, ρ1, g, ev, q⟩ => by
    obtain ⟨⟨b', ρa⟩, e1, ev⟩ := bnd ev
    refine ⟨F, ρ, b', ρa, g, e1, fun F2 H2 s2 g2 => ?_⟩
    cases b' with
    | true => exact ⟨F2, ρa, b, ρ1, g2, ev, fun F3 H3 s3 g3 => q F3 H3 (s2.trans s3) g3⟩
    | false =>
      cases ev
      exact q F2 H2 s2 g2
theorem t_or {a b : E} {x y : Expr} {rest : List Expr} {pos : Pos} (ha : PT X x (tT Φ X.K a)) (hb : PW X (.BoolOp .Or (y :: rest) pos) (tT Φ X.K b)) : PW X (.BoolOp .Or (x :: y :: rest) pos) (tT Φ X.K (.tor a b)) :=
  (pw_or ha hb).imp fun σ H Q ⟨F, ρ, b, ρ1, g, ev, q⟩ => by
    obtain ⟨⟨b', ρa⟩, e1, ev⟩ := bnd ev
    refine ⟨F, ρ, b', ρa, g, e1, fun F2 H2 s2 g2 => ?_⟩
    cases b' with
    | false => exact ⟨F2, ρa, b, ρ1, g2, ev, fun F3 H3 s3 g3 => q F3 H3 (s2.trans s3) g3⟩
    | true =>
      cases ev
      exact q F2 H2 s2 g2
theorem t_not {a : E} {x : Expr} {pos : Pos} (ha : PT X x (tT Φ X.K a)) : PT X (.UnaryOp .Not x pos) (tT Φ X.K (.tnot a)) :=
  (pt_not ha).imp fun σ H Q ⟨F, ρ, b, ρ1, g, ev, q⟩ => by
    obtain ⟨⟨b', ρa⟩, e1, ev⟩ := bnd ev
    cases ev
    exact ⟨F, ρ, b', _, g, e1, fun F2 H2 s2 g2 => q F2 H2 s2 g2⟩
/-! ### lists of expressions -/
theorem star_of {e : Expr} (h : (!isStar e) = true) : isStar e = false := by simpa using h
theorem o_nil : PA X [] (tOs Φ X.K .nil) := pa_nil.imp fun σ H Q ⟨F, ρ, os, ρ1, g, ev, q⟩ => by
  cases ev
  exact q [] F H Step.refl g trivial
theorem o_cons {a b : E} {e : Expr} {es : List Expr} (hs : (!isStar e) = true) (ha : PE X e (tO Φ X.K a)) (hb : PA X es (tOs Φ X.K b)) : PA X (e :: es) (tOs Φ X.K (.cons a b)) :=
  (pa_cons ha hb (noStar_cons (star_of hs))).imp fun σ H Q ⟨F, ρ, os, ρ1, g, ev, q⟩ => by
    obtain ⟨⟨x, ρa⟩, e1, ev⟩ := bnd ev
    obtain ⟨⟨xs, ρb⟩, e2, ev⟩ := bnd ev
    cases ev
    exact ⟨F, ρ, x, ρa, g, e1, fun v F2 H2 s2 g2 r1 => ⟨F2, ρa, xs, _, g2, e2, fun vs F3 H3 s3 g3 r3 => q (v :: vs) F3 H3 (s2.trans s3) g3 ⟨r1.mono s3.fz, r3⟩⟩⟩
theorem f_nil : PA X [] (tF Φ X.K .nil) := pa_nil.imp fun σ H Q ⟨F, ρ, os, ρ1, g, ev, q⟩ => by
  cases ev
  exact q [] F H Step.refl g .nil
theorem f_cons {a b : E} {e : Expr} {es : List Expr} (hs : (!isStar e) = true) (ha : PE X e (tE Φ X.K a)) (hb : PA X es (tF Φ X.K b)) : PA X (e :: es) (tF Φ X.K (.cons a b)) :=
  (pa_cons ha hb (noStar_cons (star_of hs))).imp fun σ H Q ⟨F, ρ, os, ρ1, g, ev, q⟩ => by
    obtain ⟨⟨r, ρa⟩, e1, ev⟩ := bnd ev
    obtain ⟨d, e2, ev⟩ := bnd ev
    obtain ⟨⟨xs, ρb⟩, e3, ev⟩ := bnd ev
    cases ev
    exact s_frz g e1 e2 fun v F2 H2 s2 g2 r2 => ⟨F2, ρa, xs, _, g2, e3, fun vs F3 H3 s3 g3 r3 => q (v :: vs) F3 H3 (s2.trans s3) g3 (.cons (r2.mono s3.fz) r3)⟩
theorem l_nil : PA X [] (tL Φ X.K .nil) := pa_nil.imp fun σ H Q ⟨F, ρ, os, ρ1, g, ev, q⟩ => by
  cases ev
  refine q [] F H ?_ ?_ g.len trivial
  · show Step _ _ _ _ _ (Own (ρ ++ []) (σ ++ []))
    rw [List.append_nil, List.append_nil]
    exact Step.refl
  · show Good _ _ _ (ρ ++ []) (σ ++ [])
    rw [List.append_nil, List.append_nil]
    exact g
/-- one more argument ahead of the others -/
theorem l_step {b : E} {r : R} {o : Option Nat} {v : V} {as : List (R × Option Nat)} {F0 H0 : Hp} {ρ0 : Env} {Q : List V → Hp → Prop} (s : Step F0 H0 (Own ρ0 σ) F H (Own (ρ ++ [some r]) (σ ++ [some v]))) (g : Good K F H (ρ ++ [some r]) (σ ++ [some v]))
    (ho : ∀ i, o = some i → σ[i]? = some (some v)) (ev : evL Φ b ρ = some (as, ρ1))
    (q : ∀ vs F1 H1, Step F0 H0 (Own ρ0 σ) F1 H1 (Own (ρ1 ++ argE ((r, o) :: as)) (σ ++ vs.map some)) → Good K F1 H1 (ρ1 ++ argE ((r, o) :: as)) (σ ++ vs.map some) → ρ1.length = σ.length → Tags σ ((r, o) :: as) vs → Q vs H1) :
    tL Φ K b σ H fun vs H1 => Q (v :: vs) H1 := by
  have hl := len1 g
  refine ⟨F, ρ, as, ρ1, g.left hl, ev, fun vs F2 H2 s2 g2 hl2 tg => ?_⟩
  have ea : (argE as).length = (vs.map some).length := by
    have := g2.len
    simp only [List.length_append] at this
    omega
  have z := g.frame hl s2 g2
  have hl3 : (ρ1 ++ argE as).length = (σ ++ vs.map some).length := g2.len
  have re : ∀ (i : Nat) (q : R) (w : V), Hold (ρ1 ++ argE ((r, o) :: as)) (σ ++ (v :: vs).map some) i q w → Hold ((ρ1 ++ argE as) ++ [some r]) ((σ ++ vs.map some) ++ [some v]) (if i < ρ1.length then i else if i = ρ1.length then (ρ1 ++ argE as).length else i - 1) q w := fun i q w h => by
    by_cases hi : i < ρ1.length
    · rw [if_pos hi]
      exact hold_app (hold_app ((hold_left hl2 hi).mp h))
    · have h := (hold_right hl2 (by omega)).mp h
      rw [if_neg hi]
      by_cases e : i = ρ1.length
      · rw [if_pos e]
        rw [e, Nat.sub_self] at h
        obtain ⟨h1, h2⟩ := h
        cases h1
        cases h2
        exact hold_top hl3
      · rw [if_neg e]
        obtain ⟨j, hj⟩ : ∃ j, i - ρ1.length = j + 1 := ⟨i - ρ1.length - 1, by omega⟩
        rw [hj] at h
        obtain ⟨h1, h2⟩ := h
        refine hold_app ((hold_right hl2 (by omega)).mpr ?_)
        rw [show i - 1 - ρ1.length = j by omega]
        exact ⟨by simpa [argE] using h1, by simpa using h2⟩
  refine q (v :: vs) F2 H2 ?_ ?_ hl2 ⟨ho, tg⟩
  · refine (s.trans (s2.app (τ := [some r]) (υ := [some v]) hl hl3)).weak fun a z => ?_
    exact Own.map _ re z
  · refine z.map (by simp only [argE, List.length_append, List.length_map, List.length_cons] at hl3 ea ⊢; omega) (fun i q h => ?_) _ re (fun i j q q' a h1 h2 o1 o2 e => ?_)
    · by_cases hi : i < ρ1.length
      · rw [List.getElem?_append_left hi] at h
        obtain ⟨w, e⟩ := (g2.left hl2).has i q h
        exact ⟨w, by rw [List.getElem?_append_left (by omega)]; exact e⟩
      · rw [List.getElem?_append_right (by omega)] at h
        rw [List.getElem?_append_right (by omega), ← hl2]
        cases e : i - ρ1.length with
        | zero => exact ⟨v, rfl⟩
        | succ j =>
          rw [e] at h
          obtain ⟨w, e2⟩ := (g2.right hl2 ea).has j q (by simpa [argE] using h)
          exact ⟨w, by simpa using e2⟩
    · have l1 := hold_lt h1
      have l2 := hold_lt h2
      simp only [argE, List.length_append, List.length_map, List.length_cons] at l1 l2 e
      (repeat' split at e) <;> omega
theorem l_cons {a b : E} {e : Expr} {es : List Expr} (hs : (!isStar e) = true) (ha : PE X e (tE Φ X.K a)) (hv : ∀ j, a = .var j → PE X e (tVar j)) (hb : PA X es (tL Φ X.K b)) : PA X (e :: es) (tL Φ X.K (.cons a b)) := by
  by_cases hi : ∃ j, a = .var j
  · obtain ⟨j, rfl⟩ := hi
    refine (pa_cons (hv j rfl) hb (noStar_cons (star_of hs))).imp fun σ H Q ⟨F, ρ, as0, ρ1, g, ev, q⟩ => ?_
    obtain ⟨r0, hr0, ev⟩ := bnd ev
    obtain ⟨⟨as, ρa⟩, e2, ev⟩ := bnd ev
    obtain ⟨r, hr, ev⟩ := bnd ev
    obtain ⟨v, hv'⟩ := g.has j r0 (getS_eq.mp hr0)
    refine ⟨v, hv', F, ρ, as, ρa, g, e2, fun vs F2 H2 s2 g2 hl2 tg => ?_⟩
    have ea : (argE as).length = (vs.map some).length := by
      have := g2.len
      simp only [List.length_append] at this
      omega
    have hj : Hold ρa σ j r v := ⟨getS_eq.mp hr, hv'⟩
    have jl := hold_lt hj
    -- the slots behind the call's look-up
    have key : ∀ (ρb : Env) (o : Option Nat), ρb.length = ρa.length → (∀ (i : Nat) (q : R), ρb[i]? = some (some q) → ρa[i]? = some (some q)) → (∀ i q w, Hold ρb σ i q w → Hold ρa σ i q w) → (∀ i q w, Hold ρb σ i q w → r.own = true → i ≠ j) → (∀ i, o = some i → σ[i]? = some (some v)) → as0 = (r, o) :: as → ρ1 = ρb → Q (v :: vs) H2 := by
      intro ρb o hlb hget hsub hne ho eas er
      subst eas er
      have hl3 : ρ1.length = σ.length := hlb.trans hl2
      have re : ∀ (i : Nat) (q : R) (w : V), Hold (ρ1 ++ argE ((r, o) :: as)) (σ ++ (v :: vs).map some) i q w → Hold (ρa ++ argE as) (σ ++ vs.map some) (if i < ρ1.length then i else if i = ρ1.length then j else i - 1) q w := fun i q w h => by
        by_cases hi : i < ρ1.length
        · rw [if_pos hi]
          exact hold_app (hsub i q w ((hold_left hl3 hi).mp h))
        · have h := (hold_right hl3 (by omega)).mp h
          rw [if_neg hi]
          by_cases e : i = ρ1.length
          · rw [if_pos e]
            rw [e, Nat.sub_self] at h
            obtain ⟨h1, h2⟩ := h
            cases h1
            cases h2
            exact hold_app hj
          · rw [if_neg e]
            obtain ⟨m, hm⟩ : ∃ m, i - ρ1.length = m + 1 := ⟨i - ρ1.length - 1, by omega⟩
            rw [hm] at h
            obtain ⟨h1, h2⟩ := h
            refine (hold_right hl2 (by omega)).mpr ?_
            rw [show i - 1 - ρa.length = m by omega]
            exact ⟨by simpa [argE] using h1, by simpa using h2⟩
      refine q (v :: vs) F2 H2 (s2.weak fun a z => Own.map _ re z) ?_ hl3 ⟨ho, tg⟩
      refine g2.map (by simp only [argE, List.length_append, List.length_map, List.length_cons] at ea ⊢; omega) (fun i q h => ?_) _ re (fun i m q q' a h1 h2 o1 o2 e => ?_)
      · by_cases hi : i < ρ1.length
        · rw [List.getElem?_append_left hi] at h
          rw [List.getElem?_append_left (by omega)]
          have hx := (g2.left hl2).has i q (hget i q h)
          exact hx
        · rw [List.getElem?_append_right (by omega)] at h
          rw [List.getElem?_append_right (by omega), ← hl3]
          cases e : i - ρ1.length with
          | zero => exact ⟨v, rfl⟩
          | succ m =>
            rw [e] at h
            obtain ⟨w, e2⟩ := (g2.right hl2 ea).has m q (by simpa [argE] using h)
            exact ⟨w, by simpa using e2⟩
      · have l1 := hold_lt h1
        have l2 := hold_lt h2
        by_cases c1 : i < ρ1.length <;> by_cases c2 : m < ρ1.length
        · rw [if_pos c1, if_pos c2] at e
          exact e
        · rw [if_pos c1, if_neg c2] at e
          by_cases d2 : m = ρ1.length
          · rw [if_pos d2] at e
            have h3 := (hold_left hl3 c1).mp h1
            have h4 := (hold_right hl3 (by omega)).mp h2
            rw [d2, Nat.sub_self] at h4
            obtain ⟨h5, _⟩ := h4
            cases h5
            exact absurd e (hne i _ _ h3 o2)
          · rw [if_neg d2] at e
            omega
        · rw [if_neg c1, if_pos c2] at e
          by_cases d1 : i = ρ1.length
          · rw [if_pos d1] at e
            have h3 := (hold_left hl3 c2).mp h2
            have h4 := (hold_right hl3 (by omega)).mp h1
            rw [d1, Nat.sub_self] at h4
            obtain ⟨h5, _⟩ := h4
            cases h5
            exact absurd e.symm (hne m _ _ h3 o1)
          · rw [if_neg d1] at e
            omega
        · rw [if_neg c1, if_neg c2] at e
          by_cases d1 : i = ρ1.length <;> by_cases d2 : m = ρ1.length
          · omega
          · rw [if_pos d1, if_neg d2] at e
            omega
          · rw [if_neg d1, if_pos d2] at e
            omega
          · rw [if_neg d1, if_neg d2] at e
            omega
    by_cases ho : r.own = true
    · have ev : (if r.own = true then some ((r, some j) :: as, setS ρa j none) else some ((r, none) :: as, ρa)) = some (as0, ρ1) := ev
      rw [if_pos ho] at ev
      cases ev
      exact key (setS ρa j none) (some j) (setS_len _ _ _) (fun i q h => by
        rw [setS_eq] at h
        by_cases z : j = i
        · subst z
          rw [List.getElem?_set_self jl] at h
          cases h
        · rw [List.getElem?_set_ne z] at h
          exact h) (fun i q w h => (hold_setN h).2) (fun i q w h _ => (hold_setN h).1) (fun i e => by cases e; exact hv') rfl rfl
    · have ev : (if r.own = true then some ((r, some j) :: as, setS ρa j none) else some ((r, none) :: as, ρa)) = some (as0, ρ1) := ev
      rw [if_neg ho] at ev
      cases ev
      exact key _ none rfl (fun i q h => h) (fun i q w h => h) (fun i q w _ z => absurd z ho) (fun i e => nomatch e) rfl rfl
  · refine (pa_cons ha hb (noStar_cons (star_of hs))).imp fun σ H Q ⟨F, ρ, os, ρ1, g, ev, q⟩ => ?_
    have eL : evL Φ (.cons a b) ρ = (evE Φ a ρ).bind fun (r, ρ1) => (evL Φ b ρ1).bind fun (as, ρ2) => some ((r, (none : Option Nat)) :: as, ρ2) := by
      cases a <;> first | rfl | exact absurd ⟨_, rfl⟩ hi
    rw [eL] at ev
    obtain ⟨⟨r, ρa⟩, e1, ev⟩ := bnd ev
    obtain ⟨⟨xs, ρb⟩, e2, ev⟩ := bnd ev
    cases ev
    exact ⟨F, ρ, r, ρa, g, e1, fun v F2 H2 s2 g2 => l_step (o := none) s2 g2 (fun i e => nomatch e) e2 q⟩
theorem b_nob : PO X none (tBd Φ X.K .nob) := po_none.imp fun σ H Q ⟨F, ρ, o, ρ1, g, ev, q⟩ => by
  cases ev
  exact q F H Step.refl g
theorem b_it {a : E} {e : Expr} (ha : PE X e (tO Φ X.K a)) : PO X (some e) (tBd Φ X.K (.it a)) := (po_some ha).imp fun σ H Q ⟨F, ρ, o, ρ1, g, ev, q⟩ => by
  obtain ⟨⟨x, ρa⟩, e1, ev⟩ := bnd ev
  obtain ⟨d, e2, ev⟩ := bnd ev
  cases d with
  | int i =>
    cases ev
    exact ⟨F, ρ, x, _, g, e1, fun v F2 H2 s2 g2 r1 => ⟨i, vw_int (r1.vw g2 e2), q F2 H2 s2 g2⟩⟩
  | _ => cases ev
end
end Pv
namespace Pv
open PySem PySem.Spec L2
/-! ## calls -/
section
variable {K : PySem.W.Frag} {F H F1 H1 : Hp} {ρ ρ1 τ : Env} {σ σ1 υ : St}
theorem hold_comm {i : Nat} {r : R} {v : V} (hl : ρ.length = σ.length) (hl2 : τ.length = υ.length) (h : Hold (τ ++ ρ) (υ ++ σ) i r v) : Hold (ρ ++ τ) (σ ++ υ) (if i < τ.length then ρ.length + i else i - τ.length) r v := by
  by_cases hi : i < τ.length
  · rw [if_pos hi]
    exact (hold_right hl (by omega)).mpr (by rw [Nat.add_sub_cancel_left]; exact (hold_left hl2 hi).mp h)
  · rw [if_neg hi]
    exact hold_app ((hold_right hl2 (by omega)).mp h)
theorem Good.comm (g : Good K F H (ρ ++ τ) (σ ++ υ)) (hl : ρ.length = σ.length) : Good K F H (τ ++ ρ) (υ ++ σ) := by
  have hl2 : τ.length = υ.length := by
    have := g.len
    simp only [List.length_append] at this
    omega
  refine g.map (by simp only [List.length_append]; omega) (fun i r h => ?_) _ (fun i r v h => hold_comm hl hl2 h) (fun i j r q a h1 h2 _ _ e => ?_)
  · by_cases hi : i < τ.length
    · rw [List.getElem?_append_left hi] at h
      obtain ⟨v, e⟩ := (g.right hl hl2).has i r h
      exact ⟨v, by rw [List.getElem?_append_left (by omega)]; exact e⟩
    · rw [List.getElem?_append_right (by omega)] at h
      obtain ⟨v, e⟩ := (g.left hl).has _ r h
      exact ⟨v, by rw [List.getElem?_append_right (by omega), ← hl2]; exact e⟩
  · have l1 := hold_lt h1
    have l2 := hold_lt h2
    simp only [List.length_append] at l1 l2
    (repeat' split at e) <;> omega
theorem own_comm {a : Addr} (hl : ρ.length = σ.length) (hl2 : τ.length = υ.length) : Own (τ ++ ρ) (υ ++ σ) a → Own (ρ ++ τ) (σ ++ υ) a := Own.map _ fun i r v h => hold_comm hl hl2 h
/-- one between left out -/
theorem hold_mid {x : Option R} {y : Option V} {i : Nat} {r : R} {v : V} (hl : ρ.length = σ.length) (h : Hold (ρ ++ τ) (σ ++ υ) i r v) : Hold (ρ ++ (x :: τ)) (σ ++ (y :: υ)) (if i < ρ.length then i else i + 1) r v := by
  by_cases hi : i < ρ.length
  · rw [if_pos hi]
    exact hold_app ((hold_left hl hi).mp h)
  · rw [if_neg hi]
    have h := (hold_right hl (by omega)).mp h
    refine (hold_right hl (by omega)).mpr ?_
    rw [show i + 1 - ρ.length = (i - ρ.length) + 1 by omega]
    exact h
theorem Good.midOut {x : Option R} {y : Option V} (g : Good K F H (ρ ++ (x :: τ)) (σ ++ (y :: υ))) (hl : ρ.length = σ.length) : Good K F H (ρ ++ τ) (σ ++ υ) := by
  have hl2 : τ.length = υ.length := by
    have := g.len
    simp only [List.length_append, List.length_cons] at this
    omega
  refine g.map (by simp only [List.length_append]; omega) (fun i r h => ?_) _ (fun i r v h => hold_mid hl h) (fun i j r q a h1 h2 _ _ e => by (repeat' split at e) <;> omega)
  by_cases hi : i < ρ.length
  · rw [List.getElem?_append_left hi] at h
    obtain ⟨v, e⟩ := (g.left hl).has i r h
    exact ⟨v, by rw [List.getElem?_append_left (by omega)]; exact e⟩
  · rw [List.getElem?_append_right (by omega)] at h
    obtain ⟨v, e⟩ := (g.right hl (by simp only [List.length_cons]; omega)).has (i - ρ.length + 1) r (by simpa using h)
    exact ⟨v, by rw [List.getElem?_append_right (by omega), ← hl]; simpa using e⟩
theorem hold_put {r : R} {v : V} {i j : Nat} {q : R} {w : V} (hl : ρ.length = σ.length) (hi : i < ρ.length) (hv : σ[i]? = some (some v)) (h : Hold (setS ρ i (some r) ++ τ) (σ ++ υ) j q w) :
    Hold (ρ ++ (some r :: τ)) (σ ++ (some v :: υ)) (if j = i then ρ.length else if j < ρ.length then j else j + 1) q w := by
  have hl' : (setS ρ i (some r)).length = σ.length := by rw [setS_len]; exact hl
  by_cases hj : j < ρ.length
  · have h := (hold_left hl' (by rw [setS_len]; exact hj)).mp h
    rcases hold_setR h with ⟨rfl, rfl, e⟩ | ⟨ne, e⟩
    · rw [if_pos rfl]
      rw [hv] at e
      cases e
      exact (hold_right hl (Nat.le_refl _)).mpr (by rw [Nat.sub_self]; exact ⟨rfl, rfl⟩)
    · rw [if_neg ne, if_pos hj]
      exact hold_app e
  · have h := (hold_right hl' (by rw [setS_len]; omega)).mp h
    rw [if_neg (by omega), if_neg hj]
    refine (hold_right hl (by omega)).mpr ?_
    rw [setS_len] at h
    rw [show j + 1 - ρ.length = (j - ρ.length) + 1 by omega]
    exact h
theorem Good.midPut {r : R} {v : V} {i : Nat} (g : Good K F H (ρ ++ (some r :: τ)) (σ ++ (some v :: υ))) (hl : ρ.length = σ.length) (hv : σ[i]? = some (some v)) : Good K F H (setS ρ i (some r) ++ τ) (σ ++ υ) := by
  have hi : i < ρ.length := by
    have := (List.getElem?_eq_some_iff.mp hv).1
    omega
  have g' := g.midOut hl
  have hl' : (setS ρ i (some r)).length = σ.length := by rw [setS_len]; exact hl
  refine g.map (by have := g'.len; simp only [List.length_append, setS_len] at this ⊢; omega) (fun j q h => ?_) _ (fun j q w h => hold_put hl hi hv h) (fun a b q q' ad h1 h2 _ _ e => by (repeat' split at e) <;> omega)
  by_cases hj : j < ρ.length
  · rw [List.getElem?_append_left (by omega)] at h
    rw [List.getElem?_append_left (by omega)]
    rw [setS_eq] at h
    by_cases e : i = j
    · subst e
      exact ⟨v, hv⟩
    · rw [List.getElem?_set_ne e] at h
      exact (g.left hl).has j q h
  · rw [List.getElem?_append_right (by omega), setS_len] at h
    obtain ⟨w, e⟩ := g'.has j q (by rw [List.getElem?_append_right (by omega)]; exact h)
    exact ⟨w, e⟩
theorem wb_good : ∀ (as : List (R × Option Nat)) (outs : List R) (vs : List V) (ρ : Env), Tags σ as vs → outs.length = as.length → ρ.length = σ.length → Good K F H (ρ ++ (outs.map some ++ τ)) (σ ++ (vs.map some ++ υ)) →
    Good K F H (wb ρ as outs ++ τ) (σ ++ υ) ∧ (∀ a, Own (wb ρ as outs ++ τ) (σ ++ υ) a → Own (ρ ++ (outs.map some ++ τ)) (σ ++ (vs.map some ++ υ)) a) ∧ (wb ρ as outs).length = ρ.length
  | [], [], [], ρ, _, _, _, g => ⟨g, fun _ h => h, rfl⟩
  | (_, some i) :: as, r :: rs, v :: vs, ρ, tg, hl, hs, g => by
    have hv := tg.1 i rfl
    have hi : i < ρ.length := by
      have := (List.getElem?_eq_some_iff.mp hv).1
      omega
    obtain ⟨g1, o1, l1⟩ := wb_good as rs vs (setS ρ i (some r)) tg.2 (by simpa using hl) (by rw [setS_len]; exact hs) (Good.midPut (r := r) (v := v) g hs hv)
    exact ⟨g1, fun a h => Own.map _ (fun j q w h => hold_put hs hi hv h) (o1 a h), by rw [← setS_len ρ i (some r)]; exact l1⟩
  | (_, none) :: as, r :: rs, v :: vs, ρ, tg, hl, hs, g => by
    obtain ⟨g1, o1, l1⟩ := wb_good as rs vs ρ tg.2 (by simpa using hl) hs (Good.midOut g hs)
    exact ⟨g1, fun a h => Own.map _ (fun j q w h => hold_mid hs h) (o1 a h), l1⟩
  | [], [], _ :: _, _, tg, _, _, _ => tg.elim
  | _ :: _, _, [], _, tg, _, _, _ => by
    unfold Tags at tg
    exact tg.elim
  | [], _ :: _, _, _, _, hl, _, _ => by simp at hl
  | _ :: _, [], _, _, _, hl, _, _ => by simp at hl
end
theorem noStar_any {pos : Pos} {env : PySem.Env} : ∀ {es : List Expr}, noStar es = true → (backTo pos (starEach es env)).any (·.1) = false
  | [], _ => rfl
  | e :: es, h => by
    unfold noStar at h
    rw [List.all_cons] at h
    obtain ⟨h1, h2⟩ := and_t h
    rw [noStar_cons (star_of h1)]
    show (false || (backTo pos (starEach es env)).any (·.1)) = false
    rw [noStar_any (es := es) h2]
    rfl
section
variable {t : Tab} {Φ : Phi} {k : Nat} {c : Ctx} {X : Cx} {K : PySem.W.Frag} {F H F1 H1 : Hp} {ρ ρ1 ρ2 : Env} {σ : St}
theorem s_call (C : COk t Φ k c X) {f x : Str} {a : E} {e : Expr} {es : List Expr} {p pos : Pos} (hx : x = f) (hg : gloB c x = true) (hf : (t.fns.any fun q => sEq q.1 x && decide (q.2 = (e :: es).length)) = true)
    (hs : noStar (e :: es) = true) (ha : PA X (e :: es) (tL Φ X.K a)) : PE X (.Call (.Name x p) (e :: es) [] pos) (tE Φ X.K (.call f a)) := by
  subst hx
  obtain ⟨q, hq, e1⟩ := List.any_eq_true.mp hf
  obtain ⟨e1, e2⟩ := and_t e1
  obtain ⟨ad, fd, ps, hl, hm, hk, hb, hF⟩ := C.fns q hq
  rw [sEq_t e1] at hm hF
  obtain ⟨g1, g2⟩ := C.glob hg
  have hs' := hs
  unfold noStar at hs'
  rw [List.all_cons] at hs'
  obtain ⟨n1, n2⟩ := and_t hs'
  refine (pe_call hF C.room g1 hm hk hb .nil (fun _ _ _ _ _ _ _ h => h.elim) ha g2 (noStar_cons (star_of n1)) (noStar_any n2) (E := fun _ _ _ => False)).imp fun σ H Q ⟨F, ρ, r, ρ1, g, ev, q⟩ => ?_
  obtain ⟨⟨as, ρa⟩, e3, ev⟩ := bnd ev
  obtain ⟨⟨r', outs⟩, e4, ev⟩ := bnd ev
  obtain ⟨hlen, ev⟩ := ite_some ev
  cases ev
  refine ⟨F, ρ, as, ρa, g, e3, fun vs F2 H2 s2 g2 hl2 tg => ?_⟩
  have hA : (argE as).length = (vs.map some).length := by
    have := g2.len
    simp only [List.length_append] at this
    omega
  have eA : argE as = (as.map (·.1)).map some := by simp [argE, List.map_map, Function.comp_def]
  have gA : Good X.K F2 H2 (argE as) (vs.map some) := g2.right hl2 hA
  refine ⟨F2, as.map (·.1), r, outs, ?_, e4, fun v F3 H3 s3 g3 => ?_⟩
  · rw [List.append_nil, ← eA]
    exact gA
  · rw [List.append_nil, ← eA] at s3
    rw [List.append_nil] at g3
    have gB := (g2.comm hl2).frame hA s3 g3
    have hO : (outs.map some ++ [some r]).length = (vs.map some ++ [some v]).length := g3.len
    have gC := gB.comm hO
    have sC : Step F2 H2 (Own (argE as ++ ρa) (vs.map some ++ σ)) F3 H3 (Own ((outs.map some ++ [some r]) ++ ρa) ((vs.map some ++ [some v]) ++ σ)) := s3.app hA hO
    obtain ⟨gD, oD, lD⟩ := wb_good as outs vs ρa tg hlen hl2 gC
    refine q v F3 H3 ?_ gD
    have sW : Step F2 H2 (Own (ρa ++ argE as) (σ ++ vs.map some)) F3 H3 (Own (wb ρa as outs ++ [some r]) (σ ++ [some v])) :=
      (sC.wide fun a z => own_comm hl2 hA z).weak fun a z => own_comm hO hl2 (oD a z)
    exact s2.trans sW
theorem boot_bi (b : Bi) : bootBuiltins b.nm = some b.val := by cases b <;> decide +kernel
theorem nm_ne (b : Bi) : b.nm ≠ "__name__" := by cases b <;> decide +kernel
theorem s_bi (C : COk t Φ k c X) {b : Bi} {x : Str} {a : E} {e : Expr} {es : List Expr} {p pos : Pos} (hx : x = b.nm) (hg : bltB t c x = true) (hs : noStar (e :: es) = true) (ha : PA X (e :: es) (tOs Φ X.K a)) (har : (e :: es).length = b.ar)
    (h1 : ∀ ρ os ρ1, evOs Φ a ρ = some (os, ρ1) → os.length = (e :: es).length) : PE X (.Call (.Name x p) (e :: es) [] pos) (tE Φ X.K (.bi b a)) := by
  subst hx
  have one : ∀ {σ : St} {vs : List V} {os : List Op} {F : Hp}, os.length = 1 → ROs F σ vs os → ∃ v o, vs = [v] ∧ os = [o] := fun {σ vs os F} hl h => by
    cases os with
    | nil => cases hl
    | cons o os =>
      cases os with
      | cons _ _ => cases hl
      | nil =>
        cases vs with
        | nil => exact h.elim
        | cons v vs =>
          cases vs with
          | nil => exact ⟨v, o, rfl, rfl⟩
          | cons _ _ => exact h.2.elim
  obtain ⟨g1, g2, g3⟩ := C.blt hg
  have hs' := hs
  unfold noStar at hs'
  rw [List.all_cons] at hs'
  obtain ⟨n1, n2⟩ := and_t hs'
  have star := noStar_cons (es := es) (env := X.env) (star_of n1)
  have ns := noStar_any (pos := pos) (env := X.env) n2
  have go : ∀ {r : List V → Hp → VK → Prop}, CallR X b.val r → PE X (.Call (.Name b.nm p) (e :: es) [] pos) (tCB r (tOs Φ X.K a)) := fun {r} hr => by
    have hv := boot_bi b
    have hn := nm_ne b
    cases b <;> first
      | exact pe_callB hr g1 g3 hv ha hn g2 star ns
      | exact pe_callTy hr g1 g3 hv ha hn g2 star ns
  by_cases hb : b = .len
  · subst hb
    refine (go on_len).imp fun σ H Q ⟨F, ρ, r, ρ1, g, ev, q⟩ => ?_
    obtain ⟨⟨os, ρa⟩, e3, ev⟩ := bnd ev
    refine ⟨F, ρ, os, ρa, g, e3, fun vs F2 H2 s2 g2 ro => ?_⟩
    obtain ⟨v, o, rfl, rfl⟩ := one ((h1 _ _ _ e3).trans har) ro
    obtain ⟨d, e4, ev⟩ := bnd ev
    obtain ⟨r', e5, ev⟩ := bnd ev
    cases ev
    exact ⟨F2, v, d, r, rfl, g2.sub, ro.1.vws g2 e4, e5, NewR.of q s2 g2⟩
  by_cases hb2 : b = .list
  · subst hb2
    refine (go on_list).imp fun σ H Q ⟨F, ρ, r, ρ1, g, ev, q⟩ => ?_
    obtain ⟨⟨os, ρa⟩, e3, ev⟩ := bnd ev
    refine ⟨F, ρ, os, ρa, g, e3, fun vs F2 H2 s2 g2 ro => ?_⟩
    obtain ⟨v, o, rfl, rfl⟩ := one ((h1 _ _ _ e3).trans har) ro
    obtain ⟨d, e4, ev⟩ := bnd ev
    obtain ⟨r', e5, ev⟩ := bnd ev
    cases ev
    exact ⟨F2, v, d, r, rfl, g2.sub, ro.1.vws g2 e4, e5, NewR.of q s2 g2⟩
  refine (go (on_bi C.calm b hb hb2)).imp fun σ H Q ⟨F, ρ, r, ρ1, g, ev, q⟩ => ?_
  obtain ⟨⟨os, ρa⟩, e3, ev⟩ := bnd ev
  refine ⟨F, ρ, os, ρa, g, e3, fun vs F2 H2 s2 g2 ro => ?_⟩
  have ev : ((derAll ρa os).bind fun ds => (biD b ds).bind fun r => some (r, ρa)) = some (r, ρ1) := by
    cases b <;> first | exact absurd rfl hb | exact absurd rfl hb2 | exact ev
  obtain ⟨ds, e4, ev⟩ := bnd ev
  obtain ⟨r', e5, ev⟩ := bnd ev
  cases ev
  exact ⟨F2, ds, r, g2.sub, ro.vw g2 e4, e5, NewR.of q s2 g2⟩
/-! ### isinstance -/
theorem boot_ty (y : Ty) : bootBuiltins y.nm = some (.type y.id) := by cases y <;> decide +kernel
theorem tyname_ne (y : Ty) : y.nm ≠ "__name__" := by cases y <;> decide +kernel
theorem s_ty (C : COk t Φ k c X) {y : Ty} {e : Expr} (h : chkTy t c y e = true) : PE X e (tC (.ty y.id)) ∧ isStar e = false := by
  cases e with
  | Name x pos =>
    obtain ⟨h1, h2⟩ := and_t h
    have hx := sEq_t h1
    subst hx
    obtain ⟨g1, g2, g3⟩ := C.blt h2
    exact ⟨pe_bltn g1 g3 (boot_ty y) rfl (tyname_ne y) g2, rfl⟩
  | _ => cases h
def tTys (ts : List Ty) : TA := fun _ H Q => Q (ts.map fun y => V.ty y.id) H
theorem a_tys (C : COk t Φ k c X) : ∀ {ts : List Ty} {es : List Expr}, chkTys t c ts es = true → PA X es (tTys ts)
  | [], [], _ => pa_nil.imp fun σ H Q h => h
  | y :: ts, e :: es, h => by
    obtain ⟨h1, h2⟩ := and_t h
    obtain ⟨p, st⟩ := s_ty C h1
    exact (pa_cons p (a_tys C h2) (noStar_cons st)).imp fun σ H Q h => h
  | [], _ :: _, h => by cases h
  | _ :: _, [], h => by cases h
theorem cls_all : ∀ ts : List Ty, Paired ClsV (ts.map fun y => V.ty y.id) (ts.map fun y => Value.type y.id)
  | [] => .nil
  | y :: ts => .cons (.ty _) (cls_all ts)
theorem tys_few : ∀ {ts : List Ty} {es : List Expr}, chkTys t c ts es = true → ts.length = es.length
  | [], [], _ => rfl
  | _ :: _, _ :: _, h => congrArg (· + 1) (tys_few (and_t h).2)
  | [], _ :: _, h => by cases h
  | _ :: _, [], h => by cases h
theorem boot_isi : bootBuiltins ("isinstance" : Str) = some (.builtin "isinstance") := by decide +kernel
theorem isi_ne : ("isinstance" : Str) ≠ "__name__" := by decide +kernel
theorem s_isi1 (C : COk t Φ k c X) {y : Ty} {x : Str} {a : E} {e f : Expr} {p pos : Pos} (hx : x = "isinstance") (hg : bltB t c x = true) (hs : (!isStar e) = true) (hy : chkTy t c y f = true) (ha : PE X e (tO Φ X.K a)) :
    PE X (.Call (.Name x p) [e, f] [] pos) (tE Φ X.K (.isi a [y])) := by
  subst hx
  obtain ⟨g1, g2, g3⟩ := C.blt hg
  obtain ⟨pf, sf⟩ := s_ty C hy
  refine (pe_callB call_isi g1 g3 boot_isi (pa_cons ha (pa_cons pf pa_nil (noStar_cons sf)) (noStar_cons (star_of hs))) isi_ne g2 (noStar_cons (star_of hs)) (by rw [noStar_cons sf]; rfl)).imp fun σ H Q ⟨F, ρ, r, ρ1, g, ev, q⟩ => ?_
  obtain ⟨⟨o, ρa⟩, e3, ev⟩ := bnd ev
  obtain ⟨d, e4, ev⟩ := bnd ev
  cases ev
  refine ⟨F, ρ, o, _, g, e3, fun v F2 H2 s2 g2 ro => ?_⟩
  refine ⟨v, .ty y.id, .type (tyId d), .type y.id, isiD d y, rfl, .ty _, tyX_of g2.sub (ro.vw g2 e4), kit_all d y, ?_⟩
  have e : [y].any (isiD d) = isiD d y := by simp
  rw [e] at q
  exact post_d s2 g2 q (.bl _)
theorem s_isiT (C : COk t Φ k c X) {ts : List Ty} {x : Str} {a : E} {e : Expr} {es : List Expr} {kk : Nat} {p pos pos' : Pos} (hx : x = "isinstance") (hg : bltB t c x = true) (hs : (!isStar e) = true) (hy : chkTys t c ts es = true) (hl : es.length ≤ 10)
    (ha : PE X e (tO Φ X.K a)) : PE X (.Call (.Name x p) [e, .Tuple es kk pos'] [] pos) (tE Φ X.K (.isi a ts)) := by
  subst hx
  obtain ⟨g1, g2, g3⟩ := C.blt hg
  refine (pe_callB call_isiT g1 g3 boot_isi (pa_cons ha (pa_cons (pe_tup (a_tys C hy)) pa_nil) (noStar_cons (star_of hs))) isi_ne g2 (noStar_cons (star_of hs)) (by rfl)).imp fun σ H Q ⟨F, ρ, r, ρ1, g, ev, q⟩ => ?_
  obtain ⟨⟨o, ρa⟩, e3, ev⟩ := bnd ev
  obtain ⟨d, e4, ev⟩ := bnd ev
  cases ev
  refine ⟨F, ρ, o, _, g, e3, fun v F2 H2 s2 g2 ro => ⟨?_, fun T hT => ?_⟩⟩
  · rw [List.length_map, tys_few hy]
    exact Nat.le_trans hl (by rw [sizeLine_eq]; decide)
  · have v1 := ro.vw g2 e4
    have sb : Sub F2 (upd H2 T (.tup (ts.map fun y => V.ty y.id))) := g2.sub.updR (g2.sub.none hT)
    have v2 : Vw F2 (upd H2 T (.tup (ts.map fun y => V.ty y.id))) v d := by
      cases d with
      | list ds =>
        obtain ⟨b, us, e1, h1, h2⟩ := v1
        exact ⟨b, us, e1, by rw [upd_ne (ne_of_none h1 hT)]; exact h1, h2⟩
      | _ => exact v1
    exact ⟨v, T, _, .type (tyId d), _, _, rfl, upd_same, cls_all ts, tyX_of sb v2, kitAny_all d ts, post_d (s2.trans (Step.junk hT)) (g2.junk hT) q (.bl _)⟩
/-! ### methods -/
theorem Mt.slot (m : Mt) : Slot "list" m.nm m.id := by
  cases m
  · exact PySem.F.slot_list_index
  · exact PySem.F.slot_list_count
theorem Mt.ty (m : Mt) : typeOf (.builtin m.id) = pure (.type "method_descriptor") := by
  cases m
  · exact PySem.F.type_list_index
  · exact PySem.F.type_list_count
theorem super_of {e : Expr} {m : Str} {env : PySem.Env} (h : notSuper e = true) : attributeBase e m env (eval e env) = eval e env := by
  cases e with
  | Call f args kws pos =>
    cases f with
    | Name x p =>
      cases args with
      | nil =>
        cases kws with
        | nil => cases h
        | cons _ _ => rfl
      | cons _ _ => rfl
    | _ => rfl
  | _ => rfl
theorem tyV_list {F H : Hp} {x : V} {ds : List D} (h : Vw F H x (.list ds)) : tyV K "list" x H := by
  obtain ⟨a, vs, e, h1, _⟩ := h
  subst e
  exact .inl ⟨rfl, vs, SqL.of h1⟩
theorem s_mt (C : COk t Φ k c X) {m : Mt} {x : Str} {o a : E} {l y : Expr} {apos cpos : Pos} (hx : x = m.nm) (hn : notSuper l = true) (hl : (apos.endLine == cpos.line) = true) (hs : (!isStar y) = true)
    (ho : PE X l (tO Φ X.K o)) (ha : PA X [y] (tOs Φ X.K a)) : PE X (.Call (.Attribute l x apos) [y] [] cpos) (tE Φ X.K (.mt m o a)) := by
  subst hx
  have star := noStar_cons (es := []) (env := X.env) (star_of hs)
  refine (pe_bm PySem.F.plainAttrs_list m.slot m.ty (on_mt m) ho ha (super_of hn) (by rw [star]; rfl) hl star (by rfl)).imp fun σ H Q ⟨F, ρ, r, ρ1, g, ev, q⟩ => ?_
  obtain ⟨⟨p, ρa⟩, e1, ev⟩ := bnd ev
  obtain ⟨d0, e0, ev⟩ := bnd ev
  have il : isLst d0 = true := by
    by_cases z : isLst d0 = true
    · exact z
    · rw [if_neg z] at ev
      cases ev
  rw [if_pos il] at ev
  obtain ⟨⟨os, ρb⟩, e2, ev⟩ := bnd ev
  obtain ⟨d, e3, ev⟩ := bnd ev
  obtain ⟨ds, e4, ev⟩ := bnd ev
  obtain ⟨r', e5, ev⟩ := bnd ev
  cases ev
  cases d0 with
  | list xs =>
    refine ⟨F, ρ, p, ρa, g, e1, fun v F2 H2 s2 g2 r1 => ⟨tyV_list (r1.vw g2 e0), F2, ρa, os, _, g2, e2, fun vs F3 H3 s3 g3 r3 => ?_⟩⟩
    exact ⟨F3, d, ds, r, g3.sub, (r1.mono s3.fz).vw g3 e3, r3.vw g3 e4, e5, NewR.of q (s2.trans s3) g3⟩
  | _ => cases il
theorem s_pop (C : COk t Φ k c X) {i : Nat} {x y : Str} {p apos cpos : Pos} (hx : x = "pop") (hv : varB c i y = true) (hl : (apos.endLine == cpos.line) = true) : PE X (.Call (.Attribute (.Name y p) x apos) [] [] cpos) (tE Φ X.K (.pop i)) := by
  subst hx
  refine (pe_bm0 PySem.F.plainAttrs_list PySem.F.slot_list_pop PySem.F.type_list_pop mt_pop (C.pvar hv) (super_of rfl) hl).imp fun σ H Q ⟨F, ρ, r, ρ1, g, ev, q⟩ => ?_
  obtain ⟨r', e1, ev⟩ := bnd ev
  obtain ⟨v, hv'⟩ := g.has i r' (getS_eq.mp e1)
  have rep := g.at e1 hv'
  cases r' with
  | v d => cases ev
  | s ns => cases ev
  | m _ _ => cases ev
  | l xs =>
    obtain ⟨d, e2, ev⟩ := bnd ev
    cases ev
    obtain ⟨a, vs, e3, h1, h2, h3⟩ := rep
    subst e3
    have e4 : xs[xs.length - 1]? = some d := by rw [← List.getLast?_eq_getElem?]; exact e2
    obtain ⟨w, w1, w2⟩ := h2.get e4
    refine ⟨_, hv', .inl ⟨rfl, vs, SqL.of h1⟩, ?_⟩
    refine ⟨a, vs, w, rfl, rfl, h1, by rw [h2.len]; exact w1, ?_⟩
    have s2 : Step F H (Own ρ σ) F (upd H a (.lst vs.dropLast)) (Own (setS ρ i (some (.l xs.dropLast))) σ) :=
      (Step.write (F := F) (H := H) (O := Own ρ σ) (p := a) (o := .lst vs.dropLast) ⟨i, _, ⟨getS_eq.mp e1, hv'⟩, rfl⟩).weak fun b z => own_write e1 z
    exact post_d s2 (g.write e1 hv' h2.dropLast) q w2
/-! ### list(range(..)), tuple(range(..)) -/
def tRg (Φ : Phi) (K : PySem.W.Frag) (i : E) : St → Hp → (Int → Int → Hp → Prop) → Prop := fun σ H Q => ∃ F ρ ds ρ1, Good K F H ρ σ ∧ evI Φ i ρ = some (ds, ρ1) ∧
  ∀ a b F1 H1, ds = rngD a b → in62 a = true → in62 b = true → Step F H (Own ρ σ) F1 H1 (Own ρ1 σ) → Good K F1 H1 ρ1 σ → Q a b H1
theorem rngD_len (i j : Int) : (rngD i j).length = (j - i).toNat := by simp [rngD]
theorem rng_all {F : Hp} (a b : Int) : RpAll F (rgV a b) (rngD a b) := by
  have e1 : rgV a b = ((List.range (b - a).toNat).map fun k => a + (k : Nat)).map V.int := by simp [rgV, List.map_map, Function.comp_def]
  have e2 : rngD a b = ((List.range (b - a).toNat).map fun k => a + (k : Nat)).map PyData.int := by simp [rngD, List.map_map, Function.comp_def]
  rw [e1, e2]
  exact RpAll.ofInts _
theorem in62_t {i : Int} (h : in62 i = true) : -(2 ^ 62) ≤ i ∧ i < 2 ^ 62 := by
  have := in62_b.mp h
  omega
theorem s_lrg (C : COk t Φ k c X) {b : Bool} {i : E} {x : Str} {e : Expr} {p pos : Pos} (hx : x = (if b then ("tuple" : Str) else "list")) (hg : bltB t c x = true) (hs : isStar e = false) (he : PRg X e (tRg Φ X.K i)) :
    PE X (.Call (.Name x p) [e] [] pos) (tE Φ X.K (.lrg b i)) := by
  obtain ⟨g1, g2, g3⟩ := C.blt hg
  have star := noStar_cons (es := []) (env := X.env) hs
  cases b with
  | true =>
    have hx : x = ("tuple" : Str) := hx
    subst hx
    refine (pe_tupRg C.calm g1 g3 he star).imp fun σ H Q ⟨F, ρ, r, ρ1, g, ev, q⟩ => ?_
    obtain ⟨⟨ds, ρa⟩, e1, ev⟩ := bnd ev
    obtain ⟨hz, ev⟩ := ite_some ev
    cases ev
    refine ⟨F, ρ, ds, _, g, e1, fun a b F2 H2 e2 ha hb s2 g2 => ?_⟩
    subst e2
    refine ⟨?_, fun w hw => post_t s2 g2 q (rng_all a b) w hw⟩
    have z := okN_le hz
    rw [rngD_len, sizeLine_eq] at z
    exact ⟨(in62_t ha).1, (in62_t ha).2, (in62_t hb).1, (in62_t hb).2, z⟩
  | false =>
    have hx : x = ("list" : Str) := hx
    subst hx
    refine (pe_listRg C.calm g1 g3 he star).imp fun σ H Q ⟨F, ρ, r, ρ1, g, ev, q⟩ => ?_
    obtain ⟨⟨ds, ρa⟩, e1, ev⟩ := bnd ev
    obtain ⟨hz, ev⟩ := ite_some ev
    cases ev
    refine ⟨F, ρ, ds, _, g, e1, fun a b F2 H2 e2 ha hb s2 g2 => ?_⟩
    subst e2
    refine ⟨?_, fun w hw => post_l s2 g2 q (rng_all a b) w hw⟩
    have z := okN_le hz
    rw [rngD_len, sizeLine_eq] at z
    exact ⟨(in62_t ha).1, (in62_t ha).2, (in62_t hb).1, (in62_t hb).2, z⟩
theorem PRg.imp {e : Expr} {t u : St → Hp → (Int → Int → Hp → Prop) → Prop} (h : PRg X e t) (w : ∀ σ H Q, u σ H Q → t σ H Q) : PRg X e u := by
  intro pins s σ H Q I q
  exact h pins s σ H Q I (w _ _ _ q)
theorem r_1 (C : COk t Φ k c X) {a : E} {x : Str} {e : Expr} {p pos : Pos} (hx : x = "range") (hg : bltB t c x = true) (hs : (!isStar e) = true) (ha : PE X e (tO Φ X.K a)) : PRg X (.Call (.Name x p) [e] [] pos) (tRg Φ X.K (.rng1 a)) := by
  subst hx
  obtain ⟨g1, g2, g3⟩ := C.blt hg
  refine PRg.imp (prg_1 g1 g3 ha (noStar_cons (star_of hs))) fun σ H Q ⟨F, ρ, ds, ρ1, g, ev, q⟩ => ?_
  obtain ⟨⟨o, ρa⟩, e1, ev⟩ := bnd ev
  obtain ⟨d, e2, ev⟩ := bnd ev
  cases d with
  | int j =>
    obtain ⟨h1, ev⟩ := ite_some ev
    cases ev
    exact ⟨F, ρ, o, _, g, e1, fun v F2 H2 s2 g2 ro => ⟨j, vw_int (ro.vw g2 e2), q 0 j F2 H2 rfl (by decide) h1 s2 g2⟩⟩
  | _ => cases ev
theorem r_2 (C : COk t Φ k c X) {a b : E} {x : Str} {e f : Expr} {p pos : Pos} (hx : x = "range") (hg : bltB t c x = true) (hs : (!isStar e) = true) (hs2 : (!isStar f) = true) (ha : PE X e (tO Φ X.K a)) (hb : PE X f (tO Φ X.K b)) :
    PRg X (.Call (.Name x p) [e, f] [] pos) (tRg Φ X.K (.rng2 a b)) := by
  subst hx
  obtain ⟨g1, g2, g3⟩ := C.blt hg
  refine PRg.imp (prg_2 g1 g3 ha hb (noStar_cons (star_of hs)) (noStar_cons (star_of hs2)) (by rw [noStar_cons (star_of hs2)]; rfl)) fun σ H Q ⟨F, ρ, ds, ρ1, g, ev, q⟩ => ?_
  obtain ⟨⟨o, ρa⟩, e1, ev⟩ := bnd ev
  obtain ⟨⟨y, ρb⟩, e2, ev⟩ := bnd ev
  obtain ⟨d, e3, ev⟩ := bnd ev
  obtain ⟨e, e4, ev⟩ := bnd ev
  cases d with
  | int i =>
    cases e with
    | int j =>
      obtain ⟨h1, ev⟩ := ite_some ev
      cases ev
      exact two_read g e1 e2 fun v w F2 H2 s2 g2 r1 r2 => ⟨i, j, vw_int (r1.vw g2 e3), vw_int (r2.vw g2 e4), q i j F2 H2 rfl h1.1 h1.2 s2 g2⟩
    | _ => cases ev
  | _ => cases e <;> cases ev
end
end Pv
namespace Pv
open PySem PySem.Spec L2
/-! ## targets, what is walked, comprehensions -/
section
variable (K : PySem.W.Frag)
def gT (tg : Tg) : TG := fun v σ H Q => ∃ F d ρ ρ1, Good K F H ρ σ ∧ Rp F v d ∧ bindT tg d ρ = some ρ1 ∧
  ∀ σ1, (∀ i, i ∉ tg.sl → σ1[i]? = σ[i]?) → Good K F H ρ1 σ1 → (∀ a, Own ρ1 σ1 a → Own ρ σ a) → Q σ1 H
def gTL (tg : Tg) : TGs := fun vs σ H Q => ∃ F ds ρ ρ1, Good K F H ρ σ ∧ RpAll F vs ds ∧ bindTs tg ds ρ = some ρ1 ∧
  ∀ σ1, (∀ i, i ∉ tg.sl → σ1[i]? = σ[i]?) → Good K F H ρ1 σ1 → (∀ a, Own ρ1 σ1 a → Own ρ σ a) → Q σ1 H
end
theorem _root_.L2.PG.imp {X : Cx} {e : Expr} {t u : TG} (h : PG X e t) (w : ∀ v σ H Q, u v σ H Q → t v σ H Q) : PG X e u := ⟨fun pins s σ H v x Q I r q => h.run pins s σ H v x Q I r (w _ _ _ _ q)⟩
theorem _root_.L2.PGs.imp {X : Cx} {e : List Expr} {t u : TGs} (h : PGs X e t) (w : ∀ v σ H Q, u v σ H Q → t v σ H Q) : PGs X e u := ⟨fun pins s σ H v x Q I r q => h.run pins s σ H v x Q I r (w _ _ _ _ q)⟩
theorem assign_cons {e : Expr} {es : List Expr} {env : PySem.Env} (h : isStar e = false) : assignEach (e :: es) env = (false, assign e env) :: assignEach es env := by
  cases e <;> first | rfl | exact nomatch h
theorem assign_len {env : PySem.Env} : ∀ {es : List Expr}, noStar es = true → (assignEach es env).length = es.length ∧ (assignEach es env).findIdx? (·.1) = none
  | [], _ => ⟨rfl, rfl⟩
  | e :: es, h => by
    unfold noStar at h
    rw [List.all_cons] at h
    obtain ⟨h1, h2⟩ := and_t h
    obtain ⟨i1, i2⟩ := assign_len (env := env) (es := es) h2
    rw [assign_cons (star_of h1)]
    refine ⟨by rw [List.length_cons, List.length_cons, i1], ?_⟩
    rw [List.findIdx?_cons, i2]
    rfl
theorem Good.storeD {K : PySem.W.Frag} {F H : Hp} {ρ : Env} {σ : St} {i : Nat} {v : V} {d : D} (g : Good K F H ρ σ) (h : Rp F v d) : Good K F H (setS ρ i (some (.v d))) (σ.set i (some v)) ∧ (∀ a, Own (setS ρ i (some (.v d))) (σ.set i (some v)) a → Own ρ σ a) :=
  ⟨(g.more (r := .v d) rfl h).put g.len i, fun a z => own_more g.len rfl (own_put g.len z)⟩
theorem tgs_len {c : Ctx} : ∀ {tg : Tg} {es : List Expr}, chkTgs c tg es = true → ∀ {ds : List D} {ρ ρ1 : Env}, bindTs tg ds ρ = some ρ1 → ds.length = es.length
  | .nil, [], _, [], _, _, _ => rfl
  | .cons a b, e :: es, h, d :: ds, ρ, ρ1, ev => by
    obtain ⟨ρ2, _, ev⟩ := bnd ev
    have h := (and_t (show (chkTg c a e && chkTgs c b es) = true from h)).2
    exact congrArg (· + 1) (tgs_len h ev)
  | .nil, [], _, _ :: _, _, _, ev => nomatch (show (none : Option Env) = some _ from ev)
  | .cons _ _, _ :: _, _, [], _, _, ev => nomatch (show (none : Option Env) = some _ from ev)
  | .nil, _ :: _, h, _, _, _, _ => nomatch (show false = true from h)
  | .cons _ _, [], h, _, _, _, _ => nomatch (show false = true from h)
  | .nm _, _, h, _, _, _, _ => nomatch (show false = true from h)
  | .tp _, _, h, _, _, _, _ => nomatch (show false = true from h)
section
variable {t : Tab} {Φ : Phi} {k : Nat} {c : Ctx} {X : Cx}
theorem COk.loc (C : COk t Φ k c X) {i : Nat} {x : Str} (h : stoB c i x = true) : X.N[i]? = some x ∧ Loc X.env.scope x ∧ (X.fn x = true ∨ X.env.scope.names.lookup x = some .local) := by
  obtain ⟨h1, h2⟩ := and_t h
  rw [C.hN, C.sc, C.fn]
  refine ⟨of_decide_eq_true h1, ?_⟩
  rcases Bool.or_eq_true_iff.mp h2 with h2 | h2
  · exact ⟨.inl (kind_t h2), .inr (kind_t h2)⟩
  · obtain ⟨h3, h4⟩ := and_t h2
    exact ⟨.inr (kind_t h3), .inl h4⟩
theorem g_all (C : COk t Φ k c X) (tg : Tg) : (∀ e, chkTg c tg e = true → PG X e (gT X.K tg)) ∧ (∀ es, chkTgs c tg es = true → noStar es = true → PGs X es (gTL X.K tg)) := by
  induction tg with
  | nm i =>
    refine ⟨fun e h => ?_, fun es h _ => ?_⟩
    · cases e with
      | Name x pos =>
        obtain ⟨h1, h2, h3⟩ := C.loc (show stoB c i x = true from h)
        refine (pg_name C.nd h1 h2 h3).imp fun v σ H Q ⟨F, d, ρ, ρ1, g, r, ev, q⟩ => ?_
        cases ev
        obtain ⟨g1, o1⟩ := g.storeD (i := i) r
        exact q _ (fun j hj => List.getElem?_set_ne fun e => hj (by rw [← e]; exact List.mem_singleton.mpr rfl)) g1 o1
      | _ => exact nomatch (show false = true from h)
    · exact nomatch (show false = true from h)
  | nil =>
    refine ⟨fun e h => ?_, fun es h _ => ?_⟩
    · exact nomatch (show false = true from h)
    · cases es with
      | nil =>
        refine pgs_nil.imp fun v σ H Q ⟨F, d, ρ, ρ1, g, r, ev, q⟩ => ?_
        cases d with
        | nil =>
          cases r
          cases ev
          exact ⟨rfl, q σ (fun _ _ => rfl) g fun _ z => z⟩
        | cons _ _ => exact nomatch (show (none : Option Env) = some _ from ev)
      | cons _ _ => exact nomatch (show false = true from h)
  | cons a b iha ihb =>
    refine ⟨fun e h => ?_, fun es h hs => ?_⟩
    · exact nomatch (show false = true from h)
    · cases es with
      | nil => exact nomatch (show false = true from h)
      | cons e es =>
        obtain ⟨h1, h2⟩ := and_t (show (chkTg c a e && chkTgs c b es) = true from h)
        unfold noStar at hs
        rw [List.all_cons] at hs
        obtain ⟨n1, n2⟩ := and_t hs
        refine (pgs_cons (iha.1 e h1) (ihb.2 es h2 n2) (by rw [assign_cons (star_of n1)]; rfl)).imp fun vs σ H Q ⟨F, ds, ρ, ρ1, g, r, ev, q⟩ => ?_
        cases ds with
        | nil => exact nomatch (show (none : Option Env) = some _ from ev)
        | cons d ds =>
          obtain ⟨ρ2, e1, ev⟩ := bnd ev
          cases r with
          | cons r rr =>
            refine ⟨_, _, rfl, F, d, ρ, ρ2, g, r, e1, fun σ1 k1 g1 o1 => ⟨F, ds, ρ2, ρ1, g1, rr, ev, fun σ2 k2 g2 o2 => q σ2 (fun i hi => ?_) g2 fun z hz => o1 z (o2 z hz)⟩⟩
            have hi : i ∉ a.sl ++ b.sl := hi
            rw [List.mem_append, not_or] at hi
            rw [k2 i hi.2, k1 i hi.1]
  | tp a iha =>
    refine ⟨fun e h => ?_, fun es h _ => ?_⟩
    · cases e with
      | Tuple es kk pos =>
        obtain ⟨h1, h2⟩ := and_t (show (chkTgs c a es && noStar es) = true from h)
        obtain ⟨a1, a2⟩ := assign_len (env := X.env) h2
        refine ⟨fun pins s σ H v u Q I r q => ?_⟩
        obtain ⟨F, d, ρ, ρ1, g, r1, ev, q⟩ := q
        cases d with
        | tuple ds =>
          have hl := tgs_len h1 (show bindTs a ds ρ = some ρ1 from ev)
          cases r1 with
          | tup e1 r2 => exact (pg_tup C.calm (iha.2 es h1 h2) rfl a2).run pins s σ H _ u Q I r ⟨_, _, rfl, SqT.of (g.sub _ _ e1), by rw [a1, r2.len, hl], F, ds, ρ, ρ1, g, r2, ev, q⟩
        | list ds =>
          have hl := tgs_len h1 (show bindTs a ds ρ = some ρ1 from ev)
          cases r1 with
          | lst e1 r2 => exact (pg_unl C.calm (iha.2 es h1 h2) rfl a2).run pins s σ H _ u Q I r ⟨_, _, rfl, SqL.of (g.sub _ _ e1), by rw [a1, r2.len, hl], F, ds, ρ, ρ1, g, r2, ev, q⟩
        | _ => exact nomatch (show (none : Option Env) = some _ from ev)
      | _ => exact nomatch (show false = true from h)
    · exact nomatch (show false = true from h)
end
/-! ### what is walked -/
section
variable {K : PySem.W.Frag}
theorem wk_list {F : Hp} {a : Addr} {vs : List V} {ds : List D} (h : F a = some (.lst vs)) (r : RpAll F vs ds) : Wk (Itl K a) F ds where
  go := fun i G H hi s1 s2 => ⟨vs, vs[i]'(by rw [r.len]; exact hi), SqL.of (s2 _ _ (s1 _ _ h)), List.getElem?_eq_getElem _⟩
  stop := fun G H s1 s2 => ⟨vs, SqL.of (s2 _ _ (s1 _ _ h)), by rw [r.len]; exact Nat.le_refl _⟩
  yld := fun i G H x H1 d hd s1 s2 y => by
    obtain ⟨rfl, y⟩ := y
    obtain ⟨v, e1, e2⟩ := r.get hd
    have := y vs (SqL.of (s2 _ _ (s1 _ _ h)))
    rw [e1] at this
    cases this
    exact ⟨G, Step.refl, s2, e2.mono s1⟩
theorem wk_tup {F : Hp} {a : Addr} {vs : List V} {ds : List D} (h : F a = some (.tup vs)) (r : RpAll F vs ds) : Wk (Itt K a) F ds where
  go := fun i G H hi s1 s2 => ⟨vs, vs[i]'(by rw [r.len]; exact hi), SqT.of (s2 _ _ (s1 _ _ h)), List.getElem?_eq_getElem _⟩
  stop := fun G H s1 s2 => ⟨vs, SqT.of (s2 _ _ (s1 _ _ h)), by rw [r.len]; exact Nat.le_refl _⟩
  yld := fun i G H x H1 d hd s1 s2 y => by
    obtain ⟨rfl, y⟩ := y
    obtain ⟨v, e1, e2⟩ := r.get hd
    have := y vs (SqT.of (s2 _ _ (s1 _ _ h)))
    rw [e1] at this
    cases this
    exact ⟨G, Step.refl, s2, e2.mono s1⟩
theorem rngD_get {i j : Int} {m : Nat} {d : D} (h : (rngD i j)[m]? = some d) : d = .int (i + (m : Nat)) := by
  unfold rngD at h
  rw [List.getElem?_map] at h
  obtain ⟨q, h1, rfl⟩ := Option.map_eq_some_iff.mp h
  obtain ⟨h2, h3⟩ := List.getElem?_eq_some_iff.mp h1
  rw [List.getElem_range] at h3
  rw [h3]
theorem rngC_get {i c : Int} {n m : Nat} {d : D} (h : (rngC i c n)[m]? = some d) : d = .int (i + (m : Nat) * c) := by
  unfold rngC at h
  rw [List.getElem?_map] at h
  obtain ⟨q, h1, rfl⟩ := Option.map_eq_some_iff.mp h
  obtain ⟨h2, h3⟩ := List.getElem?_eq_some_iff.mp h1
  rw [List.getElem_range] at h3
  rw [h3]
theorem wk_rng {F : Hp} (i j : Int) : Wk (Itr i (j - i).toNat) F (rngD i j) where
  go := fun m G H hm _ _ => by
    rw [rngD_len] at hm
    exact hm
  stop := fun G H _ _ => by
    rw [rngD_len]
    exact Nat.le_refl _
  yld := fun m G H x H1 d hd s1 s2 y => by
    obtain ⟨rfl, rfl⟩ := y
    rw [rngD_get hd]
    exact ⟨G, Step.refl, s2, .int _⟩
theorem wk_rngC {F : Hp} (i c : Int) (n : Nat) : Wk (Itc i c n) F (rngC i c n) where
  go := fun m G H hm _ _ => by
    simp only [rngC, List.length_map, List.length_range] at hm
    exact hm
  stop := fun G H _ _ => by
    simp only [rngC, List.length_map, List.length_range]
    exact Nat.le_refl _
  yld := fun m G H x H1 d hd s1 s2 y => by
    obtain ⟨rfl, rfl⟩ := y
    rw [rngC_get hd]
    exact ⟨G, Step.refl, s2, .int _⟩
theorem enumD_len (xs : List D) : (enumD xs).length = xs.length := by simp [enumD]
theorem enumD_get {xs : List D} {i : Nat} {d : D} (h : (enumD xs)[i]? = some d) : ∃ x, xs[i]? = some x ∧ d = .tuple [.int (i : Nat), x] := by
  unfold enumD at h
  rw [List.getElem?_map, List.getElem?_zipIdx] at h
  obtain ⟨p, h1, rfl⟩ := Option.map_eq_some_iff.mp h
  obtain ⟨x, h2, rfl⟩ := Option.map_eq_some_iff.mp h1
  exact ⟨x, h2, by simp⟩
theorem wk_enum {F : Hp} {a : Addr} {vs : List V} {ds : List D} (h : F a = some (.lst vs)) (r : RpAll F vs ds) : Wk (Ite K a) F (enumD ds) where
  go := fun i G H hi s1 s2 => ⟨vs, vs[i]'(by rw [r.len, ← enumD_len]; exact hi), SqL.of (s2 _ _ (s1 _ _ h)), List.getElem?_eq_getElem _⟩
  stop := fun G H s1 s2 => ⟨vs, SqL.of (s2 _ _ (s1 _ _ h)), by rw [r.len, enumD_len]; exact Nat.le_refl _⟩
  yld := fun i G H x H1 d hd s1 s2 y => by
    obtain ⟨T, x', rfl, hT, rfl, y⟩ := y
    obtain ⟨z, z1, rfl⟩ := enumD_get hd
    obtain ⟨v, e1, e2⟩ := r.get z1
    have := y vs (SqL.of (s2 _ _ (s1 _ _ h)))
    rw [e1] at this
    cases this
    refine ⟨_, Step.fresh hT s2, s2.upd2, .tup upd_same (.cons (.int _) (.cons ((e2.mono s1).mono (sub_upd (s2.none hT))) .nil))⟩
theorem zipD_len (xs ys : List D) : (zipD xs ys).length = min xs.length ys.length := by simp [zipD]
theorem zipD_get {xs ys : List D} {i : Nat} {d : D} (h : (zipD xs ys)[i]? = some d) : ∃ x y, xs[i]? = some x ∧ ys[i]? = some y ∧ d = .tuple [x, y] := by
  unfold zipD at h
  rw [List.getElem?_map] at h
  obtain ⟨p, h1, rfl⟩ := Option.map_eq_some_iff.mp h
  obtain ⟨h2, h3⟩ := List.getElem?_zip_eq_some.mp h1
  exact ⟨p.1, p.2, h2, h3, rfl⟩
theorem wk_zip {F : Hp} {a b : Addr} {vs us : List V} {ds es : List D} (h : F a = some (.lst vs)) (h' : F b = some (.lst us)) (r : RpAll F vs ds) (r' : RpAll F us es) : Wk (Itz K a b) F (zipD ds es) where
  go := fun i G H hi s1 s2 => by
    rw [zipD_len] at hi
    exact ⟨vs, us, vs[i]'(by rw [r.len]; omega), us[i]'(by rw [r'.len]; omega), SqL.of (s2 _ _ (s1 _ _ h)), SqL.of (s2 _ _ (s1 _ _ h')), List.getElem?_eq_getElem _, List.getElem?_eq_getElem _⟩
  stop := fun G H s1 s2 => ⟨vs, us, SqL.of (s2 _ _ (s1 _ _ h)), SqL.of (s2 _ _ (s1 _ _ h')), by rw [r.len, r'.len, zipD_len]; omega⟩
  yld := fun i G H x H1 d hd s1 s2 y => by
    obtain ⟨T, x', y', rfl, hT, rfl, k1, k2⟩ := y
    obtain ⟨z, w, z1, w1, rfl⟩ := zipD_get hd
    obtain ⟨v, e1, e2⟩ := r.get z1
    obtain ⟨u, f1, f2⟩ := r'.get w1
    have m1 := k1 vs (SqL.of (s2 _ _ (s1 _ _ h)))
    have m2 := k2 us (SqL.of (s2 _ _ (s1 _ _ h')))
    rw [e1] at m1
    rw [f1] at m2
    cases m1
    cases m2
    exact ⟨_, Step.fresh hT s2, s2.upd2, .tup upd_same (.cons ((e2.mono s1).mono (sub_upd (s2.none hT))) (.cons ((f2.mono s1).mono (sub_upd (s2.none hT))) .nil))⟩
theorem wk_zipT {F : Hp} {a b : Addr} {vs us : List V} {ds es : List D} (h : F a = some (.tup vs)) (h' : F b = some (.tup us)) (r : RpAll F vs ds) (r' : RpAll F us es) : Wk (RZ.ItzT K a b) F (zipD ds es) where
  go := fun i G H hi s1 s2 => by
    rw [zipD_len] at hi
    exact ⟨vs, us, vs[i]'(by rw [r.len]; omega), us[i]'(by rw [r'.len]; omega), SqT.of (s2 _ _ (s1 _ _ h)), SqT.of (s2 _ _ (s1 _ _ h')), List.getElem?_eq_getElem _, List.getElem?_eq_getElem _⟩
  stop := fun G H s1 s2 => ⟨vs, us, SqT.of (s2 _ _ (s1 _ _ h)), SqT.of (s2 _ _ (s1 _ _ h')), by rw [r.len, r'.len, zipD_len]; omega⟩
  yld := fun i G H x H1 d hd s1 s2 y => by
    obtain ⟨T, x', y', rfl, hT, rfl, k1, k2⟩ := y
    obtain ⟨z, w, z1, w1, rfl⟩ := zipD_get hd
    obtain ⟨v, e1, e2⟩ := r.get z1
    obtain ⟨u, f1, f2⟩ := r'.get w1
    have m1 := k1 vs (SqT.of (s2 _ _ (s1 _ _ h)))
    have m2 := k2 us (SqT.of (s2 _ _ (s1 _ _ h')))
    rw [e1] at m1
    rw [f1] at m2
    cases m1
    cases m2
    exact ⟨_, Step.fresh hT s2, s2.upd2, .tup upd_same (.cons ((e2.mono s1).mono (sub_upd (s2.none hT))) (.cons ((f2.mono s1).mono (sub_upd (s2.none hT))) .nil))⟩
end
section
variable {t : Tab} {Φ : Phi} {k : Nat} {c : Ctx} {X : Cx} {F H F1 H1 : Hp} {ρ ρ1 : Env} {σ : St}
theorem i_it {a : E} {tg e : Expr} (ha : PE X e (tE Φ X.K a)) : PI X tg e (tIt Φ X.K (.it a)) := by
  refine ⟨fun pins s σ H R I q => ?_⟩
  obtain ⟨F, ρ, ds, ρ1, g, ev, q⟩ := q
  obtain ⟨⟨r, ρa⟩, e1, ev⟩ := bnd ev
  obtain ⟨d, e2, ev⟩ := bnd ev
  obtain ⟨ds', e3, ev⟩ := bnd ev
  cases ev
  cases d with
  | list xs =>
    cases e3
    refine (pi_list ha).run pins s σ H R I (s_frz g e1 e2 fun v F2 H2 s2 g2 rp => ?_)
    cases rp with
    | lst h1 h2 => exact ⟨_, rfl, ⟨_, SqL.of (g2.sub _ _ h1)⟩, q _ F2 H2 s2 g2 (wk_list h1 h2)⟩
  | tuple xs =>
    cases e3
    refine (pi_tup ha).run pins s σ H R I (s_frz g e1 e2 fun v F2 H2 s2 g2 rp => ?_)
    cases rp with
    | tup h1 h2 => exact ⟨_, rfl, ⟨_, SqT.of (g2.sub _ _ h1)⟩, q _ F2 H2 s2 g2 (wk_tup h1 h2)⟩
  | _ => cases e3
theorem i_r1 (C : COk t Φ k c X) {a : E} {x : Str} {tg e : Expr} {p pos : Pos} (hx : x = "range") (hg : bltB t c x = true) (hs : (!isStar e) = true) (ha : PE X e (tO Φ X.K a)) : PI X tg (.Call (.Name x p) [e] [] pos) (tIt Φ X.K (.rng1 a)) := by
  subst hx
  obtain ⟨g1, g2, g3⟩ := C.blt hg
  refine (pi_range1 g1 g3 (pa_cons ha pa_nil (noStar_cons (star_of hs))) (noStar_cons (star_of hs))).imp fun σ H R ⟨F, ρ, ds, ρ1, g, ev, q⟩ => ?_
  obtain ⟨⟨o, ρa⟩, e1, ev⟩ := bnd ev
  obtain ⟨d, e2, ev⟩ := bnd ev
  cases d with
  | int j =>
    obtain ⟨h1, ev⟩ := ite_some ev
    cases ev
    refine ⟨F, ρ, o, _, g, e1, fun v F2 H2 s2 g2 ro => ⟨j, by rw [vw_int (ro.vw g2 e2)], (in62_t h1).1, (in62_t h1).2, ?_⟩⟩
    have z := q (Itr 0 (j - 0).toNat) F2 H2 s2 g2 (wk_rng 0 j)
    rw [Int.sub_zero] at z
    exact z
  | _ => cases ev
theorem i_r2 (C : COk t Φ k c X) {a b : E} {x : Str} {tg e f : Expr} {p pos : Pos} (hx : x = "range") (hg : bltB t c x = true) (hs : (!isStar e) = true) (hs2 : (!isStar f) = true) (ha : PE X e (tO Φ X.K a)) (hb : PE X f (tO Φ X.K b)) :
    PI X tg (.Call (.Name x p) [e, f] [] pos) (tIt Φ X.K (.rng2 a b)) := by
  subst hx
  obtain ⟨g1, g2, g3⟩ := C.blt hg
  have n1 := noStar_cons (es := [f]) (env := X.env) (star_of hs)
  have n2 := noStar_cons (es := []) (env := X.env) (star_of hs2)
  refine (pi_range2 g1 g3 (pa_cons ha (pa_cons hb pa_nil n2) n1) (by rw [n1, n2]; rfl) n2).imp fun σ H R ⟨F, ρ, ds, ρ1, g, ev, q⟩ => ?_
  obtain ⟨⟨o, ρa⟩, e1, ev⟩ := bnd ev
  obtain ⟨⟨y, ρb⟩, e2, ev⟩ := bnd ev
  obtain ⟨d, e3, ev⟩ := bnd ev
  obtain ⟨e, e4, ev⟩ := bnd ev
  cases d with
  | int i =>
    cases e with
    | int j =>
      obtain ⟨h1, ev⟩ := ite_some ev
      cases ev
      exact two_read g e1 e2 fun v w F2 H2 s2 g2 r1 r2 => ⟨i, j, by rw [vw_int (r1.vw g2 e3), vw_int (r2.vw g2 e4)], ⟨(in62_t h1.1).1, (in62_t h1.1).2, (in62_t h1.2).1, (in62_t h1.2).2⟩, q _ F2 H2 s2 g2 (wk_rng i j)⟩
    | _ => cases ev
  | _ => cases e <;> cases ev
theorem i_r3 (C : COk t Φ k c X) {a b m : E} {x : Str} {tg e f h : Expr} {p pos : Pos} (hx : x = "range") (hg : bltB t c x = true) (hs : (!isStar e) = true) (hs2 : (!isStar f) = true) (hs3 : (!isStar h) = true) (ha : PE X e (tO Φ X.K a)) (hb : PE X f (tO Φ X.K b)) (hm : PE X h (tO Φ X.K m)) :
    PI X tg (.Call (.Name x p) [e, f, h] [] pos) (tIt Φ X.K (.rng3 a b m)) := by
  subst hx
  obtain ⟨g1, g2, g3⟩ := C.blt hg
  have n1 := noStar_cons (es := [f, h]) (env := X.env) (star_of hs)
  have n2 := noStar_cons (es := [h]) (env := X.env) (star_of hs2)
  have n3 := noStar_cons (es := []) (env := X.env) (star_of hs3)
  refine (pi_range3 g1 g3 (pa_cons ha (pa_cons hb (pa_cons hm pa_nil n3) n2) n1) n1 (by rw [n2, n3]; rfl)).imp fun σ H R ⟨F, ρ, ds, ρ1, g, ev, q⟩ => ?_
  obtain ⟨⟨o, ρa⟩, e1, ev⟩ := bnd ev
  obtain ⟨⟨y, ρb⟩, e2, ev⟩ := bnd ev
  obtain ⟨⟨z, ρc⟩, e3, ev⟩ := bnd ev
  obtain ⟨d, e4, ev⟩ := bnd ev
  obtain ⟨e, e5, ev⟩ := bnd ev
  obtain ⟨u, e6, ev⟩ := bnd ev
  cases d with
  | int i =>
    cases e with
    | int j =>
      cases u with
      | int l =>
        obtain ⟨h1, ev⟩ := ite_some ev
        cases ev
        obtain ⟨h1, h2, h3⟩ := h1
        subst h3
        exact two_read (R := fun v w H2 => tO Φ X.K m σ H2 _) g e1 e2 fun v w F2 H2 s2 g2 r1 r2 => ⟨F2, ρb, z, _, g2, e3, fun u F3 H3 s3 g3 r3 => ⟨i, j, -1, (i - j).toNat,
          by rw [vw_int ((r1.mono s3.fz).vw g3 e4), vw_int ((r2.mono s3.fz).vw g3 e5), vw_int (r3.vw g3 e6)], RgC.neg (in62_t h1).1 (in62_t h1).2 (in62_t h2).1 (in62_t h2).2, q _ F3 H3 (s2.trans s3) g3 (wk_rngC i (-1) _)⟩⟩
      | _ => cases ev
    | _ => cases u <;> cases ev
  | _ => cases e <;> cases u <;> cases ev
theorem i_enum (C : COk t Φ k c X) {a : E} {x : Str} {tg e : Expr} {p pos : Pos} (hx : x = "enumerate") (hg : bltB t c x = true) (hs : (!isStar e) = true) (ht : tgTup tg = true) (ha : PE X e (tE Φ X.K a)) : PI X tg (.Call (.Name x p) [e] [] pos) (tIt Φ X.K (.enum a)) := by
  subst hx
  obtain ⟨g1, g2, g3⟩ := C.blt hg
  cases tg with
  | Tuple elts kk tpos =>
    refine (pi_enum g1 g3 (pa_cons ha pa_nil (noStar_cons (star_of hs))) (noStar_cons (star_of hs))).imp fun σ H R ⟨F, ρ, ds, ρ1, g, ev, q⟩ => ?_
    obtain ⟨⟨r, ρa⟩, e1, ev⟩ := bnd ev
    obtain ⟨d, e2, ev⟩ := bnd ev
    cases d with
    | list xs =>
      cases ev
      refine s_frz g e1 e2 fun v F2 H2 s2 g2 rp => ?_
      cases rp with
      | lst h1 h2 => exact ⟨_, _, rfl, SqL.of (g2.sub _ _ h1), q _ F2 H2 s2 g2 (wk_enum h1 h2)⟩
    | _ => cases ev
  | _ => exact nomatch (show false = true from ht)
theorem i_zip (C : COk t Φ k c X) {a b : E} {x : Str} {tg e f : Expr} {p pos : Pos} (hx : x = "zip") (hg : bltB t c x = true) (hs : (!isStar e) = true) (hs2 : (!isStar f) = true) (ht : tgTup tg = true) (ha : PE X e (tE Φ X.K a)) (hb : PE X f (tE Φ X.K b)) :
    PI X tg (.Call (.Name x p) [e, f] [] pos) (tIt Φ X.K (.zip a b)) := by
  subst hx
  obtain ⟨g1, g2, g3⟩ := C.blt hg
  have n1 := noStar_cons (es := [f]) (env := X.env) (star_of hs)
  have n2 := noStar_cons (es := []) (env := X.env) (star_of hs2)
  cases tg with
  | Tuple elts kk tpos =>
    refine (RZ.pi_zipA g1 g3 (pa_cons ha (pa_cons hb pa_nil n2) n1) n1 (by rw [n2]; rfl)).imp fun σ H R ⟨F, ρ, ds, ρ1, g, ev, q⟩ => ?_
    obtain ⟨⟨r, ρa⟩, e1, ev⟩ := bnd ev
    obtain ⟨d, e2, ev⟩ := bnd ev
    obtain ⟨⟨r', ρb⟩, e3, ev⟩ := bnd ev
    obtain ⟨d', e4, ev⟩ := bnd ev
    refine s_frz g e1 e2 fun v F2 H2 s2 g2 rp => s_frz g2 e3 e4 fun w F3 H3 s3 g3 rq => ?_
    have rp := rp.mono s3.fz
    cases d with
    | list xs =>
      cases d' with
      | list ys =>
        cases ev
        cases rp with
        | lst h1 h2 => cases rq with
          | lst h3 h4 => exact ⟨_, _, _, _, rfl, .inl ⟨SqL.of (g3.sub _ _ h1), SqL.of (g3.sub _ _ h3), q _ F3 H3 (s2.trans s3) g3 (wk_zip h1 h3 h2 h4)⟩⟩
      | _ => cases ev
    | tuple xs =>
      cases d' with
      | tuple ys =>
        cases ev
        cases rp with
        | tup h1 h2 => cases rq with
          | tup h3 h4 => exact ⟨_, _, _, _, rfl, .inr ⟨SqT.of (g3.sub _ _ h1), SqT.of (g3.sub _ _ h3), q _ F3 H3 (s2.trans s3) g3 (wk_zipT h1 h3 h2 h4)⟩⟩
      | _ => cases ev
    | _ => cases d' <;> cases ev
  | _ => exact nomatch (show false = true from ht)
end
end Pv
namespace Pv
open PySem PySem.Spec L2
/-! ## list comprehensions -/
theorem wipe_out {σ : St} {j : Nat} : ∀ {vs : List Nat}, j ∉ vs → (wipe σ vs)[j]? = σ[j]?
  | [], _ => rfl
  | v :: vs, h => by
    rw [List.mem_cons, not_or] at h
    unfold wipe
    rw [List.getElem?_set_ne (Ne.symm h.1)]
    exact wipe_out h.2
theorem wipe_in {σ : St} {j : Nat} : ∀ {vs : List Nat}, j ∈ vs → ∀ v, (wipe σ vs)[j]? ≠ some (some v)
  | [], h, _ => absurd h (by simp)
  | v :: vs, h, w => by
    unfold wipe
    by_cases e : v = j
    · subst e
      intro z
      by_cases hl : v < (wipe σ vs).length
      · rw [List.getElem?_set_self hl] at z
        cases z
      · rw [List.getElem?_eq_none (by simpa using hl)] at z
        cases z
    · rw [List.getElem?_set_ne e]
      exact wipe_in ((List.mem_cons.mp h).resolve_left fun z => e z.symm) w
theorem wipeE_len (ρ : Env) : ∀ vs : List Nat, (wipeE ρ vs).length = ρ.length
  | [] => rfl
  | v :: vs => by
    unfold wipeE
    rw [setS_len, wipeE_len ρ vs]
theorem wipeE_out {ρ : Env} {j : Nat} : ∀ {vs : List Nat}, j ∉ vs → (wipeE ρ vs)[j]? = ρ[j]?
  | [], _ => rfl
  | v :: vs, h => by
    rw [List.mem_cons, not_or] at h
    unfold wipeE
    rw [setS_eq, List.getElem?_set_ne (Ne.symm h.1)]
    exact wipeE_out h.2
theorem wipeE_in {ρ : Env} {j : Nat} : ∀ {vs : List Nat}, j ∈ vs → ∀ r, (wipeE ρ vs)[j]? ≠ some (some r)
  | [], h, _ => absurd h (by simp)
  | v :: vs, h, w => by
    unfold wipeE
    rw [setS_eq]
    by_cases e : v = j
    · subst e
      intro z
      by_cases hl : v < (wipeE ρ vs).length
      · rw [List.getElem?_set_self hl] at z
        cases z
      · rw [List.getElem?_eq_none (by simpa using hl)] at z
        cases z
    · rw [List.getElem?_set_ne e]
      exact wipeE_in ((List.mem_cons.mp h).resolve_left fun z => e z.symm) w
theorem wipe_ext {σ σ2 : St} {vs : List Nat} (hl : σ2.length = σ.length) (h : ∀ j, j ∉ vs → σ2[j]? = σ[j]?) : wipe σ2 vs = wipe σ vs := by
  apply List.ext_getElem?
  intro j
  by_cases hj : j ∈ vs
  · have z1 := wipe_in (σ := σ2) hj
    have z2 := wipe_in (σ := σ) hj
    have l1 := wipe_length σ2 vs
    have l2 := wipe_length σ vs
    by_cases lt : j < σ.length
    · have e1 : j < (wipe σ2 vs).length := by omega
      have e2 : j < (wipe σ vs).length := by omega
      rw [List.getElem?_eq_getElem e1, List.getElem?_eq_getElem e2] at *
      cases c1 : (wipe σ2 vs)[j] with
      | some v => exact absurd (by rw [c1]) (z1 v)
      | none => cases c2 : (wipe σ vs)[j] with
        | some v => exact absurd (by rw [c2]) (z2 v)
        | none => rfl
    · rw [List.getElem?_eq_none (by omega), List.getElem?_eq_none (by omega)]
  · rw [wipe_out hj, wipe_out hj, h j hj]
theorem back_len (ρ ρ' : Env) : ∀ vs : List Nat, (back ρ ρ' vs).length = ρ'.length
  | [] => rfl
  | v :: vs => by
    show (setS (back ρ ρ' vs) v (getS ρ v)).length = _
    rw [setS_len, back_len ρ ρ' vs]
theorem back_out {ρ ρ' : Env} {j : Nat} : ∀ {vs : List Nat}, j ∉ vs → (back ρ ρ' vs)[j]? = ρ'[j]?
  | [], _ => rfl
  | v :: vs, h => by
    rw [List.mem_cons, not_or] at h
    show (setS (back ρ ρ' vs) v (getS ρ v))[j]? = _
    rw [setS_eq, List.getElem?_set_ne (Ne.symm h.1)]
    exact back_out h.2
theorem back_in {ρ ρ' : Env} {j : Nat} : ∀ {vs : List Nat}, j ∈ vs → ∀ {r : R}, (back ρ ρ' vs)[j]? = some (some r) → getS ρ j = some r
  | [], h, _, _ => absurd h (by simp)
  | v :: vs, h, r, e => by
    have e : (setS (back ρ ρ' vs) v (getS ρ v))[j]? = some (some r) := e
    rw [setS_eq] at e
    by_cases q : v = j
    · subst q
      have hl : v < (back ρ ρ' vs).length := by
        have := (List.getElem?_eq_some_iff.mp e).1
        rw [List.length_set] at this
        exact this
      rw [List.getElem?_set_self hl] at e
      exact Option.some.inj e
    · rw [List.getElem?_set_ne q] at e
      exact back_in ((List.mem_cons.mp h).resolve_left fun z => q z.symm) e
abbrev savE (ρ : Env) (vs : List Nat) : Env := vs.map fun v => getS ρ v
abbrev savS (σ : St) (vs : List Nat) : St := vs.map fun v => (σ[v]?).join
theorem sav_hold {ρ : Env} {σ : St} {vs : List Nat} {j : Nat} {r : R} {v : V} (h : Hold (savE ρ vs) (savS σ vs) j r v) : ∃ i, vs[j]? = some i ∧ Hold ρ σ i r v := by
  obtain ⟨h1, h2⟩ := h
  rw [List.getElem?_map] at h1 h2
  obtain ⟨i, e1, e2⟩ := Option.map_eq_some_iff.mp h1
  rw [e1] at h2
  have h2 : some ((σ[i]?).join) = some (some v) := h2
  refine ⟨i, e1, getS_eq.mp e2, ?_⟩
  have h3 := Option.some.inj h2
  cases q : σ[i]? with
  | none =>
    rw [q] at h3
    cases h3
  | some o =>
    rw [q] at h3
    have : o = some v := h3
    rw [this]
section
variable {K : PySem.W.Frag} {F H : Hp} {ρ ρ1 ρ2 τ : Env} {σ σ2 υ : St} {vs : List Nat}
/-- the slots vs set aside -/
theorem Good.aside (g : Good K F H ρ σ) (nd : vs.Nodup) : Good K F H (wipeE ρ vs ++ savE ρ vs) (wipe σ vs ++ savS σ vs) ∧ ∀ a, Own (wipeE ρ vs ++ savE ρ vs) (wipe σ vs ++ savS σ vs) a → Own ρ σ a := by
  have hl : (wipeE ρ vs).length = (wipe σ vs).length := by rw [wipeE_len, wipe_length]; exact g.len
  have re : ∀ i r v, Hold (wipeE ρ vs ++ savE ρ vs) (wipe σ vs ++ savS σ vs) i r v → Hold ρ σ (if i < ρ.length then i else vs.getD (i - ρ.length) 0) r v ∧ (i < ρ.length → i ∉ vs) ∧ (¬ i < ρ.length → ∃ j, vs[i - ρ.length]? = some j) := fun i r v h => by
    by_cases hi : i < ρ.length
    · have h := (hold_left hl (by rw [wipeE_len]; exact hi)).mp h
      have hn : i ∉ vs := fun z => wipeE_in z r h.1
      rw [if_pos hi]
      exact ⟨⟨by rw [← wipeE_out hn]; exact h.1, by rw [← wipe_out hn]; exact h.2⟩, fun _ => hn, fun z => absurd hi z⟩
    · have h := (hold_right hl (by rw [wipeE_len]; omega)).mp h
      rw [wipeE_len] at h
      obtain ⟨j, e1, e2⟩ := sav_hold h
      have eg : vs.getD (i - ρ.length) 0 = j := by rw [List.getD_eq_getElem?_getD, e1]; rfl
      rw [if_neg hi, eg]
      exact ⟨e2, fun z => absurd z hi, fun _ => ⟨j, e1⟩⟩
  refine ⟨g.map (by simp only [List.length_append, List.length_map]; omega) (fun i r h => ?_) _ (fun i r v h => (re i r v h).1) (fun i j r q a h1 h2 _ _ e => ?_), fun a => Own.map _ fun i r v h => (re i r v h).1⟩
  · by_cases hi : i < (wipeE ρ vs).length
    · rw [List.getElem?_append_left hi] at h
      have hn : i ∉ vs := fun z => wipeE_in z r h
      rw [wipeE_out hn] at h
      obtain ⟨v, e⟩ := g.has i r h
      exact ⟨v, by rw [List.getElem?_append_left (by omega), wipe_out hn]; exact e⟩
    · rw [List.getElem?_append_right (by omega), List.getElem?_map] at h
      obtain ⟨m, e1, e2⟩ := Option.map_eq_some_iff.mp h
      obtain ⟨v, e⟩ := g.has m r (getS_eq.mp e2)
      refine ⟨v, ?_⟩
      rw [List.getElem?_append_right (by omega), ← hl, List.getElem?_map, e1]
      show some ((σ[m]?).join) = _
      rw [e]
      rfl
  · obtain ⟨_, a1, b1⟩ := re i r _ h1
    obtain ⟨_, a2, b2⟩ := re j q _ h2
    have gd : ∀ {m x : Nat}, vs[m]? = some x → vs.getD m 0 = x := fun {m x} e => by rw [List.getD_eq_getElem?_getD, e]; rfl
    by_cases c1 : i < ρ.length <;> by_cases c2 : j < ρ.length
    · rw [if_pos c1, if_pos c2] at e
      exact e
    · rw [if_pos c1, if_neg c2] at e
      obtain ⟨m, hm⟩ := b2 c2
      rw [gd hm] at e
      exact absurd (List.mem_of_getElem? hm) (by rw [← e]; exact a1 c1)
    · rw [if_neg c1, if_pos c2] at e
      obtain ⟨m, hm⟩ := b1 c1
      rw [gd hm] at e
      exact absurd (List.mem_of_getElem? hm) (by rw [e]; exact a2 c2)
    · rw [if_neg c1, if_neg c2] at e
      obtain ⟨m, hm⟩ := b1 c1
      obtain ⟨n, hn⟩ := b2 c2
      rw [gd hm, gd hn] at e
      subst e
      obtain ⟨l1, e1⟩ := List.getElem?_eq_some_iff.mp hm
      obtain ⟨l2, e2⟩ := List.getElem?_eq_some_iff.mp hn
      have := (List.getElem_inj nd).mp (e1.trans e2.symm)
      omega
/-- a turn's own slots forgotten -/
theorem Good.wiped (g : Good K F H (ρ ++ τ) (σ2 ++ υ)) (hl : ρ.length = σ2.length) (hw : wipe σ2 vs = wipe σ vs) : Good K F H (wipeE ρ vs ++ τ) (wipe σ vs ++ υ) ∧ ∀ a, Own (wipeE ρ vs ++ τ) (wipe σ vs ++ υ) a → Own (ρ ++ τ) (σ2 ++ υ) a := by
  have hl1 : (wipeE ρ vs).length = (wipe σ vs).length := by rw [wipeE_len, ← hw, wipe_length]; exact hl
  have re : ∀ i r v, Hold (wipeE ρ vs ++ τ) (wipe σ vs ++ υ) i r v → Hold (ρ ++ τ) (σ2 ++ υ) i r v := fun i r v h => by
    by_cases hi : i < ρ.length
    · have h := (hold_left hl1 (by rw [wipeE_len]; exact hi)).mp h
      have hn : i ∉ vs := fun z => wipeE_in z r h.1
      refine hold_app ⟨by rw [← wipeE_out hn]; exact h.1, ?_⟩
      rw [← wipe_out (σ := σ2) hn, hw]
      exact h.2
    · have h := (hold_right hl1 (by rw [wipeE_len]; omega)).mp h
      rw [wipeE_len] at h
      exact (hold_right hl (by omega)).mpr h
  have hl2 : τ.length = υ.length := by
    have := g.len
    simp only [List.length_append] at this
    omega
  refine ⟨g.map (by simp only [List.length_append]; omega) (fun i r h => ?_) id re (fun _ _ _ _ _ _ _ _ _ e => e), fun a => Own.map id re⟩
  by_cases hi : i < (wipeE ρ vs).length
  · rw [List.getElem?_append_left hi] at h
    have hn : i ∉ vs := fun z => wipeE_in z r h
    rw [wipeE_out hn] at h
    obtain ⟨v, e⟩ := (g.left hl).has i r h
    refine ⟨v, ?_⟩
    rw [List.getElem?_append_left (by omega), ← hw, wipe_out hn]
    exact e
  · rw [List.getElem?_append_right (by omega), wipeE_len] at h
    obtain ⟨v, e⟩ := (g.right hl hl2).has _ r h
    refine ⟨v, ?_⟩
    rw [List.getElem?_append_right (by omega), ← hl1, wipeE_len]
    exact e
/-- the slots set aside come back -/
theorem Good.aback {r : R} {v : V} (g : Good K F H (ρ2 ++ (savE ρ1 vs ++ [some r])) (wipe σ vs ++ (savS σ vs ++ [some v]))) (hl : ρ2.length = (wipe σ vs).length) (nd : vs.Nodup) :
    Good K F H (back ρ1 ρ2 vs ++ [some r]) (σ ++ [some v]) ∧ ∀ a, Own (back ρ1 ρ2 vs ++ [some r]) (σ ++ [some v]) a → Own (ρ2 ++ (savE ρ1 vs ++ [some r])) (wipe σ vs ++ (savS σ vs ++ [some v])) a := by
  have hs : ρ2.length = σ.length := by rw [hl, wipe_length]
  have hb : (back ρ1 ρ2 vs).length = σ.length := by rw [back_len]; exact hs
  have hsv : (savE ρ1 vs).length = (savS σ vs).length := by simp
  have re : ∀ i q w, Hold (back ρ1 ρ2 vs ++ [some r]) (σ ++ [some v]) i q w → Hold (ρ2 ++ (savE ρ1 vs ++ [some r])) (wipe σ vs ++ (savS σ vs ++ [some v])) (if i = ρ2.length then ρ2.length + vs.length else if i ∈ vs then ρ2.length + vs.idxOf i else i) q w := fun i q w h => by
    rcases hold_last (τ := []) (υ := []) hb h with ⟨e, rfl, rfl⟩ | ⟨lt, h⟩
    · rw [back_len] at e
      rw [if_pos e]
      refine (hold_right hl (by omega)).mpr ?_
      rw [Nat.add_sub_cancel_left]
      have z := hold_top (ρ := savE ρ1 vs) (σ := savS σ vs) (r := q) (v := w) hsv
      rw [List.length_map] at z
      exact z
    · rw [back_len] at lt
      rw [if_neg (by omega)]
      by_cases hi : i ∈ vs
      · rw [if_pos hi]
        refine (hold_right hl (by omega)).mpr ?_
        rw [Nat.add_sub_cancel_left]
        refine hold_app ⟨?_, ?_⟩
        · rw [List.getElem?_map, List.getElem?_eq_getElem (List.idxOf_lt_length_iff.mpr hi), List.getElem_idxOf]
          show some (getS ρ1 i) = _
          rw [back_in hi h.1]
        · rw [List.getElem?_map, List.getElem?_eq_getElem (List.idxOf_lt_length_iff.mpr hi), List.getElem_idxOf]
          show some ((σ[i]?).join) = _
          rw [h.2]
          rfl
      · rw [if_neg hi]
        refine hold_app ⟨by rw [← back_out hi]; exact h.1, by rw [wipe_out hi]; exact h.2⟩
  refine ⟨g.map (by simp only [List.length_append, List.length_cons, List.length_nil]; omega) (fun i q h => ?_) _ re (fun i j q q' a h1 h2 _ _ e => ?_), fun a => Own.map _ re⟩
  · by_cases hi : i < (back ρ1 ρ2 vs).length
    · rw [List.getElem?_append_left hi] at h
      rw [List.getElem?_append_left (by omega)]
      by_cases hm : i ∈ vs
      · have z := back_in hm h
        have hk : vs.idxOf i < vs.length := List.idxOf_lt_length_iff.mpr hm
        obtain ⟨w, e⟩ := ((g.right hl (by simp only [List.length_append, List.length_cons, List.length_nil]; omega)).left hsv).has (vs.idxOf i) q (by rw [List.getElem?_map, List.getElem?_eq_getElem hk, List.getElem_idxOf]; exact congrArg some z)
        rw [List.getElem?_map, List.getElem?_eq_getElem hk, List.getElem_idxOf] at e
        have e : some ((σ[i]?).join) = some (some w) := e
        have e := Option.some.inj e
        cases c : σ[i]? with
        | none =>
          rw [c] at e
          cases e
        | some o =>
          rw [c] at e
          exact ⟨w, congrArg some e⟩
      · rw [back_out hm] at h
        obtain ⟨w, e⟩ := (g.left hl).has i q h
        exact ⟨w, by rw [← wipe_out hm]; exact e⟩
    · rw [List.getElem?_append_right (by omega)] at h
      have := (List.getElem?_eq_some_iff.mp h).1
      simp at this
      exact ⟨v, by rw [List.getElem?_append_right (by omega), show i - σ.length = 0 by omega]; rfl⟩
  · have l1 := hold_lt h1
    have l2 := hold_lt h2
    simp only [List.length_append, back_len, List.length_cons, List.length_nil] at l1 l2
    by_cases c1 : i = ρ2.length <;> by_cases c2 : j = ρ2.length
    · omega
    · rw [if_pos c1, if_neg c2] at e
      by_cases d2 : j ∈ vs
      · rw [if_pos d2] at e
        have := List.idxOf_lt_length_iff.mpr d2
        omega
      · rw [if_neg d2] at e
        omega
    · rw [if_neg c1, if_pos c2] at e
      by_cases d1 : i ∈ vs
      · rw [if_pos d1] at e
        have := List.idxOf_lt_length_iff.mpr d1
        omega
      · rw [if_neg d1] at e
        omega
    · rw [if_neg c1, if_neg c2] at e
      by_cases d1 : i ∈ vs <;> by_cases d2 : j ∈ vs
      · rw [if_pos d1, if_pos d2] at e
        have e2 : vs.idxOf i = vs.idxOf j := by omega
        have k1 := List.getElem_idxOf (List.idxOf_lt_length_iff.mpr d1)
        have k2 := List.getElem_idxOf (List.idxOf_lt_length_iff.mpr d2)
        rw [← k1, ← k2]
        simp only [e2]
      · rw [if_pos d1, if_neg d2] at e
        omega
      · rw [if_neg d1, if_pos d2] at e
        omega
      · rw [if_neg d1, if_neg d2] at e
        exact e
end
section
variable {t : Tab} {Φ : Phi} {k : Nat} {c : Ctx} {X : Cx} {K : PySem.W.Frag} {F H F1 H1 : Hp} {ρ ρ1 ρ2 : Env} {σ : St}
theorem COk.blk (C : COk t Φ k c X) (s : Shared) (H : Hp) (scope : Scope) (Cd : Addr) (cl : List (Str × Addr)) (fp : List Addr) : COk t Φ k (blkCtx c scope) (X.blk s H scope (compEnvC scope cl Cd X.env) fp) where
  calm := C.calm
  hN := C.hN
  nd := C.nd
  sc := by
    show relS scope X.env.scope = relS scope c.sc
    rw [C.sc]
  fn := rfl
  xe := rfl
  room := C.room
  cs := C.cs
  fr := C.fr
  fns := C.fns
/-- one turn of a comprehension -/
def turnE (Φ : Phi) (elt : E) (tg : Tg) (ifs : E) (d : D) (ρ : Env) : Option (Option D × Env) := (bindT tg d ρ).bind fun ρa => (evT Φ ifs ρa).bind fun (k, ρb) => match k with
  | true => (evE Φ elt ρb).bind fun (r, ρc) => (frzO r).bind fun x => some (some x, ρc)
  | false => some (none, ρb)
theorem lc_read {elt it ifs : E} {tg : Tg} {vs : List Nat} (nd : vs.Nodup) (hsub : ∀ i, i ∈ tg.sl → i ∈ vs) {σ : St} {H : Hp} {Q : VK} (h : tE Φ K (.comp elt tg it ifs vs) σ H Q) :
    tLc (tIt Φ K it) (gT K tg) (tT Φ K ifs) (tE Φ K elt) vs σ H Q := by
  obtain ⟨F, ρ, r, ρz, g, ev, q⟩ := h
  obtain ⟨⟨ds, ρ1⟩, e1, ev⟩ := bnd ev
  obtain ⟨hz, ev⟩ : okN ds.length = true ∧ ((compL (turnE Φ elt tg ifs) vs ds (wipeE ρ1 vs)).bind fun (xs, ρ2) => some (R.l xs, back ρ1 ρ2 vs)) = some (r, ρz) := by
    by_cases z : okN ds.length = true
    · exact ⟨z, by
        have ev : (if okN ds.length = true then (compL (turnE Φ elt tg ifs) vs ds (wipeE ρ1 vs)).bind fun (xs, ρ2) => some (R.l xs, back ρ1 ρ2 vs) else none) = some (r, ρz) := ev
        rw [if_pos z] at ev
        exact ev⟩
    · have ev : (if okN ds.length = true then (compL (turnE Φ elt tg ifs) vs ds (wipeE ρ1 vs)).bind fun (xs, ρ2) => some (R.l xs, back ρ1 ρ2 vs) else none) = some (r, ρz) := ev
      rw [if_neg z] at ev
      cases ev
  obtain ⟨⟨xs, ρ2⟩, e2, ev⟩ := bnd ev
  cases ev
  refine ⟨F, ρ, ds, ρ1, g, e1, fun J F1 H1 s1 g1 wk Dd hD => ?_⟩
  have hlw : (wipeE ρ1 vs).length = (wipe σ vs).length := by rw [wipeE_len, wipe_length]; exact g1.len
  let P : Nat → Hp → Prop := fun i H => ∃ F ρc acc rest, ρc.length = (wipe σ vs).length ∧ Good K F H (ρc ++ (savE ρ1 vs ++ [some (.l acc)])) (wipe σ vs ++ (savS σ vs ++ [some (.ref Dd)])) ∧
    Step F1 H1 (Own ρ1 σ) F H (Own (ρc ++ (savE ρ1 vs ++ [some (.l acc)])) (wipe σ vs ++ (savS σ vs ++ [some (.ref Dd)]))) ∧
    compL (turnE Φ elt tg ifs) vs (ds.drop i) ρc = some (rest, ρ2) ∧ acc ++ rest = xs ∧ acc.length ≤ i
  refine ⟨fun i m H => m = ds.length - i ∧ i ≤ ds.length ∧ P i H, ⟨ds.length, by simp, Nat.zero_le _, ?_⟩, ?_⟩
  · obtain ⟨ga, oa⟩ := g1.aside nd
    have gb := ga.newL (p := Dd) hD (xs := []) (vs := []) .nil
    have sb : Step F1 H1 (Own ρ1 σ) F1 (upd H1 Dd (.lst [])) (Own ((wipeE ρ1 vs ++ savE ρ1 vs) ++ [some (.l [])]) ((wipe σ vs ++ savS σ vs) ++ [some (.ref Dd)])) :=
      (Step.freshOwn (F := F1) (O := Own ρ1 σ) (o := .lst []) hD).weak fun a z => (own_newL ga.len z).imp (oa a) id
    rw [List.append_assoc, List.append_assoc] at gb sb
    exact ⟨F1, _, [], xs, hlw, gb, sb, e2, rfl, Nat.le_refl _⟩
  · rintro i m H ⟨rfl, hi, F, ρc, acc, rest, hl, gg, sg, ec, ex, al⟩
    have sb := sg.fz
    by_cases lt : i < ds.length
    · refine .inr ⟨wk.go i F H lt sb gg.sub, P (i + 1), fun H' p' => ⟨ds.length - (i + 1), by omega, rfl, lt, p'⟩, fun x H' y => ?_⟩
      have hd : ds[i]? = some ds[i] := List.getElem?_eq_getElem lt
      obtain ⟨F', s2, sub2, rp⟩ := wk.yld i F H x H' _ hd sb gg.sub y
      have g2 := gg.grow s2 sub2
      have sg2 := sg.trans (step_none s2)
      rw [List.drop_eq_getElem_cons lt] at ec
      obtain ⟨⟨o, ρx⟩, e3, ec⟩ := bnd ec
      obtain ⟨⟨xs', ρy⟩, e4, ec⟩ := bnd ec
      have ery : ρy = ρ2 := by
        cases o <;> (cases ec; rfl)
      subst ery
      obtain ⟨ρa, e5, e3⟩ := bnd e3
      obtain ⟨⟨b, ρb⟩, e6, e3⟩ := bnd e3
      refine ⟨F', ds[i], ρc, ρa, g2.left hl, rp, e5, fun σ2 hk g3 o3 => ?_⟩
      have hl2 : σ2.length = (wipe σ vs).length := by
        have l1 := g3.len
        have l2 : ∀ (tg : Tg) (d : D) (ρ ρ' : Env), (bindT tg d ρ = some ρ' → ρ'.length = ρ.length) ∧ (∀ dl, bindTs tg dl ρ = some ρ' → ρ'.length = ρ.length) := by
          intro tg
          induction tg with
          | nm i => exact fun d ρ ρ' => ⟨fun e => by cases e; exact setS_len _ _ _, fun dl e => nomatch (show (none : Option Env) = some _ from e)⟩
          | nil => exact fun d ρ ρ' => ⟨fun e => (nomatch (show (none : Option Env) = some _ from e)), fun dl e => by
              cases dl with
              | nil => cases e; rfl
              | cons _ _ => exact nomatch (show (none : Option Env) = some _ from e)⟩
          | cons a b iha ihb => exact fun d ρ ρ' => ⟨fun e => (nomatch (show (none : Option Env) = some _ from e)), fun dl e => by
              cases dl with
              | nil => exact nomatch (show (none : Option Env) = some _ from e)
              | cons d dl =>
                obtain ⟨ρ2, e1, e2⟩ := bnd e
                rw [(ihb d ρ2 ρ').2 dl e2, (iha d ρ ρ2).1 e1]⟩
          | tp a iha => exact fun d ρ ρ' => ⟨fun e => by
              cases d with
              | tuple dl => exact (iha .none ρ ρ').2 dl e
              | list dl => exact (iha .none ρ ρ').2 dl e
              | _ => exact (nomatch (show (none : Option Env) = some _ from e)), fun dl e => nomatch (show (none : Option Env) = some _ from e)⟩
        rw [← l1, (l2 tg ds[i] ρc ρa).1 e5, hl]
      have hla : ρa.length = σ2.length := g3.len
      have hw : wipe σ2 vs = wipe σ vs := by
        rw [wipe_ext (σ := wipe σ vs) (σ2 := σ2) hl2 fun j hj => hk j fun z => hj (hsub j z)]
        exact wipe_ext (wipe_length σ vs) fun j hj => wipe_out hj
      have g4 := g2.frame hl (Step.refl.weak o3) g3
      have s4 : Step F1 H1 (Own ρ1 σ) F' H' (Own (ρa ++ (savE ρ1 vs ++ [some (.l acc)])) (σ2 ++ (savS σ vs ++ [some (.ref Dd)]))) :=
        sg2.trans ((Step.refl.weak o3).app hl hla)
      refine ⟨hw, F', ρa, b, ρb, g3, e6, fun F5 H5 s5 g5 => ?_⟩
      have g6 := g4.frame hla s5 g5
      have s6 := s4.trans (s5.app (τ := savE ρ1 vs ++ [some (.l acc)]) (υ := savS σ vs ++ [some (.ref Dd)]) hla g5.len)
      cases b with
      | false =>
        show P (i + 1) H5
        cases e3
        cases ec
        obtain ⟨g7, o7⟩ := g6.wiped (vs := vs) (σ := σ) g5.len hw
        exact ⟨F5, _, acc, rest, by rw [wipeE_len, g5.len, hl2], g7, s6.weak o7, e4, ex, Nat.le_succ_of_le al⟩
      | true =>
        show tE Φ K elt σ2 H5 _
        obtain ⟨⟨r, ρd⟩, e7, e3⟩ := bnd e3
        obtain ⟨x', e8, e3⟩ := bnd e3
        cases e3
        cases ec
        refine s_frz g5 e7 e8 fun y F7 H7 s7 g7 rp7 => ?_
        have g8 := g6.frame g5.len s7 g7
        have s8 := s6.trans (s7.app (τ := savE ρ1 vs ++ [some (.l acc)]) (υ := savS σ vs ++ [some (.ref Dd)]) g5.len g7.len)
        have hsv : (savE ρ1 vs).length = (savS σ vs).length := by simp
        have top : Hold (ρx ++ (savE ρ1 vs ++ [some (.l acc)])) (σ2 ++ (savS σ vs ++ [some (.ref Dd)])) (ρx.length + vs.length) (.l acc) (.ref Dd) := by
          refine (hold_right g7.len (by omega)).mpr ?_
          rw [Nat.add_sub_cancel_left]
          have z := hold_top (ρ := savE ρ1 vs) (σ := savS σ vs) (r := .l acc) (v := .ref Dd) hsv
          rw [List.length_map] at z
          exact z
        obtain ⟨a, accV, ea, h1, h2, h3⟩ := g8.rep _ _ _ top
        cases ea
        have hw8 := g8.write (ys := acc ++ [x']) (vs := accV ++ [y]) (getS_eq.mpr top.1) top.2 (h2.app (.one rp7))
        have eset : setS (ρx ++ (savE ρ1 vs ++ [some (R.l acc)])) (ρx.length + vs.length) (some (.l (acc ++ [x']))) = ρx ++ (savE ρ1 vs ++ [some (.l (acc ++ [x']))]) := by
          rw [setS_eq, List.set_append_right _ _ (by omega), Nat.add_sub_cancel_left, List.set_append_right _ _ (by simp), List.length_map, Nat.sub_self]
          rfl
        rw [eset] at hw8
        have s9 : Step F7 H7 (Own (ρx ++ (savE ρ1 vs ++ [some (.l acc)])) (σ2 ++ (savS σ vs ++ [some (.ref Dd)]))) F7 (upd H7 Dd (.lst (accV ++ [y]))) (Own (ρx ++ (savE ρ1 vs ++ [some (.l (acc ++ [x']))])) (σ2 ++ (savS σ vs ++ [some (.ref Dd)]))) :=
          (Step.write (F := F7) (H := H7) (o := .lst (accV ++ [y])) ⟨_, _, top, rfl⟩).weak fun b z => by
            rw [← eset] at z
            exact own_write (getS_eq.mpr top.1) z
        obtain ⟨g10, o10⟩ := hw8.wiped (vs := vs) (σ := σ) g7.len hw
        refine ⟨accV, h1, ?_, F7, _, acc ++ [x'], _, by rw [wipeE_len, g7.len, hl2], g10, (s8.trans s9).weak o10, e4, by rw [← ex, List.append_assoc]; rfl, by rw [List.length_append, List.length_singleton]; omega⟩
        have z := okN_le hz
        rw [h2.len]
        omega
    · have e : i = ds.length := by omega
      subst e
      rw [List.drop_length] at ec
      cases ec
      rw [List.append_nil] at ex
      subst ex
      obtain ⟨g3, o3⟩ := gg.aback hl nd
      exact .inl ⟨wk.stop F H sb gg.sub, q (.ref Dd) F H ((s1.trans sg).weak o3) g3⟩
end
end Pv
namespace HT
open PySem PySem.Spec PyProof.Rows
section
variable {prog : Program} {w : World} {A : Around} {E : Value → Shared → Prop} {s : Shared}
theorem rv_adjust (n : Nat) : Builtin.Slice.sliceAdjust none none (-1) (n : Int) = ((n : Int) - 1, -1) := rfl
theorem rv_places (n : Nat) : Builtin.Slice.slicePlaces ((n : Int) - 1) (-1) (-1) = n := by
  unfold Builtin.Slice.slicePlaces
  have h1 : ¬ ((-1 : Int) > 0) := by omega
  have h2 : (- -1 : Int) = 1 := by decide
  simp only [h1, if_false, h2, Int.ediv_one]
  split <;> omega
theorem rv_applied {sl : Addr} {vk : Value} {n : Nat} {Q : Int × Int × Nat → Shared → Prop} (hs : s.heap.IsSliceOf sl .none .none vk) (pk : IsPart vk (some (-1))) (h : Q ((n : Int) - 1, -1, n) s) :
    wpAny (model prog w) A (Builtin.Slice.sliceApplied (.ref sl) (pure (n : Int))) Q E s := by
  obtain ⟨os, hos, hcs, hds⟩ := id hs
  unfold Builtin.Slice.sliceApplied Builtin.Slice.sliceFields
  refine wpAny_bind (wpAny_bind (wpAny_field hos hds (x := .none) rfl (wpAny_bind (wpAny_field hos hds (x := .none) rfl (wpAny_bind (wpAny_field hos hds (x := vk) rfl (wpAny_pure ?_)))))))
  refine wpAny_bind (slicePart_ pk ?_)
  show wpAny _ _ (if ((-1 : Int) == 0) = true then _ else _) _ _ s
  rw [if_neg (by decide)]
  refine wpAny_bind (slicePart_none (wpAny_bind (slicePart_none (wpAny_bind (wpAny_pure ?_)))))
  show wpAny _ _ (match Builtin.Slice.sliceAdjust none none (-1) (n : Int) with | (lo, hi) => pure (lo, (-1 : Int), Builtin.Slice.slicePlaces lo hi (-1))) _ _ s
  rw [rv_adjust n]
  show wpAny _ _ (pure ((n : Int) - 1, (-1 : Int), Builtin.Slice.slicePlaces ((n : Int) - 1) (-1) (-1))) _ _ s
  rw [rv_places]
  exact wpAny_pure h
theorem fm_congr {α β : Type} {f g : α → Option β} : ∀ {l : List α}, (∀ x ∈ l, f x = g x) → l.filterMap f = l.filterMap g
  | [], _ => rfl
  | x :: l, h => by
    rw [List.filterMap_cons, List.filterMap_cons, h x (List.mem_cons_self ..), fm_congr fun y hy => h y (List.mem_cons_of_mem _ hy)]
theorem rv_pick (xs : Array Value) : ((List.range xs.size).filterMap fun (m : Nat) => xs[((xs.size : Int) - 1 + (m : Int) * -1).toNat]?) = xs.toList.reverse := by
  have e : (List.range xs.size).filterMap (fun (m : Nat) => xs[((xs.size : Int) - 1 + (m : Int) * -1).toNat]?) = ((List.range xs.size).map fun k => xs.size - 1 - k).filterMap (xs[·]?) := by
    rw [List.filterMap_map]
    apply fm_congr
    intro k hk
    have := List.mem_range.mp hk
    show xs[_]? = xs[_]?
    rw [show ((xs.size : Int) - 1 + (k : Int) * -1).toNat = xs.size - 1 - k by omega]
  rw [e, PySem.W.krv_range, List.filterMap_reverse, PySem.W.krv_all]
theorem getItem_tuple_rev {t sl : Addr} {items : Array Value} {vk : Value} {Q : Value → Shared → Prop} (ht : IsTup s.heap t items) (hs : s.heap.IsSliceOf sl .none .none vk) (pk : IsPart vk (some (-1)))
    (h : Q (.ref s.heap.objs.size) { s with heap := s.heap.push { cls := .type "tuple", data := .seq items.toList.reverse.toArray } })
    (hsz : items.size ≤ sizeLine) : wpAny (model prog w) A (getItem (.ref t) (.ref sl)) Q E s := by
  have htake : sizeOk (.seq items.toList.reverse.toArray) := by
    show items.toList.reverse.toArray.size ≤ sizeLine
    rw [List.size_toArray, List.length_reverse, Array.length_toList]
    omega
  obtain ⟨os, hos, hcs, hds⟩ := id hs
  have hTs : s.TypeIs (.ref sl) "slice" := ⟨os, hos, hcs⟩
  unfold getItem
  try with_reducible refine wpAny_holding ?_
  first | refine wpAny_bind (wpAny_pure ?_) | skip
  refine wpAny_bind (wpAny_sequenceKey ht.typeIs (by decide) ?_)
  refine wpAny_bind (wpAny_callSpecial?_slot (name := Str.ofString "__getitem__") ht.typeIs PyProof.Rows.slot_tuple_getitem
    (wpAny_call_entry PyProof.Rows.slot_tuple_getitem ht.typeIs entry_tuple_getitem ?_ (args_tuple_getitem _ _)))
  show wpAny _ _ (Builtin.Tuple.tupleItemsOf (.ref t) >>= _) _ _ s
  refine wpAny_bind (tupleItemsOf_ ht ?_)
  refine wpAny_bind (wpAny_typeOf hTs ?_)
  rw [if_pos (by decide)]
  refine wpAny_bind (rv_applied hs pk ?_)
  have hno : ¬ ((((items.size : Int) - 1 == 0) && (-1 : Int) == 1 && items.size == items.size) = true) := by
    rw [show ((-1 : Int) == 1) = false by decide, Bool.and_false, Bool.false_and]
    decide
  show wpAny _ _ (if ((((items.size : Int) - 1 == 0) && (-1 : Int) == 1 && items.size == items.size) = true) then _ else _) _ _ s
  rw [if_neg hno, rv_pick]
  first
    | exact wpAny_bind (m := Builtin.Tuple.tupleExact _) (wpAny_newObj_type (wpAny_pure ⟨_, rfl, wpAny_pure h⟩) htake)
    | exact wpAny_bind (m := Builtin.Tuple.tupleExact _) (wpAny_newObj_type (wpAny_bind (wpAny_pure (wpAny_pure ⟨_, rfl, wpAny_pure h⟩))) htake)
    | exact wpAny_bind (wpAny_bind (m := Builtin.Tuple.tupleExact _) (wpAny_newObj_type (wpAny_pure (wpAny_pure ⟨_, rfl, wpAny_pure h⟩)) htake))
    | exact wpAny_bind (wpAny_bind (m := Builtin.Tuple.tupleExact _) (wpAny_newObj_type (wpAny_pure ⟨_, rfl, wpAny_pure h⟩) htake))
end
end HT
namespace Pv
open PySem PySem.Spec L2 PyProof.Rows
section
variable {t : Tab} {Φ : Phi} {k : Nat} {c : Ctx} {X : Cx}
theorem vals_app : ∀ {xs ys : List V} {us ws : List Value}, Vals xs us → Vals ys ws → Vals (xs ++ ys) (us ++ ws)
  | _, _, _, _, .nil, h => h
  | _, _, _, _, .cons a b, h => .cons a (vals_app b h)
theorem vals_rev : ∀ {xs : List V} {us : List Value}, Vals xs us → Vals xs.reverse us.reverse
  | _, _, .nil => .nil
  | _, _, .cons a b => by
    rw [List.reverse_cons, List.reverse_cons]
    exact vals_app (vals_rev b) (.cons a .nil)
theorem pe_m1 {kk} {q1 q2 : Pos} : PE X (.UnaryOp .USub (.Constant (.int 1) kk q1) q2) (tC (.int (-1))) := (pe_un un_neg pe_int).imp fun σ H Q q => ⟨1, rfl, q⟩
theorem s_rev {a : E} {ea : Expr} {kk} {q1 q2 p2 pos : Pos} (ha : PE X ea (tO Φ X.K a)) : PE X (.Subscript ea (.Slice none none (some (.UnaryOp .USub (.Constant (.int 1) kk q1) q2)) p2) pos) (tE Φ X.K (.rev a)) := by
  refine ⟨fun pins s σ H Q I ⟨F, ρ, r, ρ1, g, ev, q⟩ => ?_⟩
  obtain ⟨⟨x, ρa⟩, e1, ev⟩ := bnd ev
  obtain ⟨d, e2, ev⟩ := bnd ev
  obtain ⟨r', e3, ev⟩ := bnd ev
  cases ev
  refine Subscript_ (thn (ha.run pins s σ H (fun v H2 => ∃ F2, Step F H (Own ρ σ) F2 H2 (Own ρ1 σ) ∧ Good X.K F2 H2 ρ1 σ ∧ RO F2 σ v x) I ⟨F, ρ, x, ρ1, g, e1, fun v F2 H2 s2 g2 r2 => ⟨F2, s2, g2, r2⟩⟩) fun v s1 ⟨y, H2, I2, r2, F2, st2, g2, ro⟩ => ?_)
  refine wpAny_Slice ?_
  rw [evalPart_none]
  refine wpAny_pure (wpAny_pure ?_)
  refine thn ((po_some pe_m1).run pins s1 σ H2 (fun o H3 => o = some (-1) ∧ H3 = H2) I2 ⟨-1, rfl, rfl, rfl⟩) fun vk s3 ⟨o, H3, I3, pk, eo, eh⟩ => ?_
  subst eo eh
  have I4 : Inv X pins σ H3 { s3 with heap := s3.heap.push { cls := .type "slice", data := .fields #[.none, .none, vk] } } := I3.kept (t' := s3.toks) fun b ob q => Heap.get?_push_of_some _ q
  have nr : NewR F2 H3 r Q := NewR.of q st2 g2
  have vw := ro.vw g2 e2
  have hsl : Heap.IsSliceOf (s3.heap.push { cls := .type "slice", data := .fields #[.none, .none, vk] }) s3.heap.objs.size .none .none vk := Heap.IsSliceOf.new ..
  show wpAny (model X.prog X.w) X.A (subscriptTail ea (.Slice none none (some (.UnaryOp .USub (.Constant (.int 1) kk q1) q2)) p2) v (.ref s3.heap.objs.size)) (EP X pins σ Q) X.xe { s3 with heap := s3.heap.push { cls := .type "slice", data := .fields #[.none, .none, vk] } }
  cases d with
  | list ds =>
    cases e3
    obtain ⟨ad, us, ea, h1, h2⟩ := vw
    subst ea
    cases r2
    obtain ⟨its, r, ht, hz⟩ := I4.list (SqL.of h1)
    have hlen := r.length
    refine tail_any (ops := [.ref ad, .ref s3.heap.objs.size]) ht.isList.typeIs slot_list_getitem.lookup ?_ (by with_unfolding_all rfl)
    refine wpAny_getItem_list_slice ht.isList hsl .none .none pk (by simp) ?_ (by rw [List.size_toArray] <;> omega)
    rw [PySem.W.krv_pick]
    refine ⟨.ref (s3.heap.push { cls := .type "slice", data := .fields #[.none, .none, vk] }).objs.size, _, I4.laid (t' := s3.toks) (o := .lst us.reverse) (fun b ob q => Heap.get?_push_of_some _ q) (Nat.le_refl _) ?_, rfl, nr.lst h2.rev _ (I4.hok.fresh (Nat.le_refl _))⟩
    exact ⟨by rw [List.length_reverse]; exact hz, its.reverse, 0, by
      have : Vals us.reverse its.reverse := by
        exact vals_rev r
      exact this, Heap.get?_push_size _ rfl⟩
  | tuple ds =>
    cases e3
    obtain ⟨ad, us, ea, h1, h2⟩ := (show Vw F2 H3 _ (.tuple _) from vw)
    subst ea
    cases r2
    obtain ⟨its, r, ht, hz⟩ := I4.tuple (SqT.of (g2.sub _ _ h1))
    have hlen := r.length
    refine tail_any (ops := [.ref ad, .ref s3.heap.objs.size]) ht.typeIs PyProof.Rows.slot_tuple_getitem.lookup ?_ (by with_unfolding_all rfl)
    refine HT.getItem_tuple_rev ht hsl pk ?_ (by rw [List.size_toArray] <;> omega)
    refine ⟨.ref (s3.heap.push { cls := .type "slice", data := .fields #[.none, .none, vk] }).objs.size, _, I4.laid (t' := s3.toks) (o := .tup us.reverse) (fun b ob q => Heap.get?_push_of_some _ q) (Nat.le_refl _) ?_, rfl, nr.tup g2.sub h2.rev _ (I4.hok.fresh (Nat.le_refl _))⟩
    exact ⟨by rw [List.length_reverse]; exact hz, its.reverse, by
      have : Vals us.reverse its.reverse := by
        exact vals_rev r
      exact this, IsTup.new _ _⟩
  | _ => cases e3
end
end Pv
namespace Pv
open PySem PySem.Spec L2
/-! ## dicts, by their pairs -/
section
variable {κ : Type} [DecidableEq κ] {e : List Int → κ} {F : Hp} {ok : List Int → Prop}
theorem getM_nil {k : List Int} : getM [] k = none := rfl
theorem getM_cons {p : List Int × D} {r : MP} {k : List Int} : getM (p :: r) k = if p.1 = k then some p.2 else getM r k := by
  unfold getM
  rw [List.find?_cons]
  by_cases h : p.1 = k
  · rw [if_pos h, decide_eq_true h]
    rfl
  · rw [if_neg h, decide_eq_false h]
theorem MRel.val (inj : ∀ k k', ok k → ok k' → e k = e k' → k = k') {k : List Int} (hk : ok k) : ∀ {ks : List (κ × V)} {kvs : MP}, MRel e F ks kvs → (∀ p ∈ kvs, ok p.1) →
    (valV ks (e k) = none ∧ getM kvs k = none) ∨ ∃ v d, valV ks (e k) = some v ∧ getM kvs k = some d ∧ Rp F v d
  | _, _, .nil, _ => .inl ⟨rfl, rfl⟩
  | _, _, .cons (k := j) (v := v) (d := d) r t, h => by
    rw [getM_cons]
    by_cases q : j = k
    · subst q
      exact .inr ⟨v, d, valV_pos (p := (e j, v)) rfl, if_pos rfl, r⟩
    · have hj : ok j := h (j, d) (List.mem_cons_self ..)
      rw [if_neg q, valV_neg (p := (e j, v)) fun z => q (inj j k hj hk z)]
      exact MRel.val inj hk t fun p hp => h p (List.mem_cons_of_mem _ hp)
theorem MRel.any (inj : ∀ k k', ok k → ok k' → e k = e k' → k = k') {k : List Int} (hk : ok k) : ∀ {ks : List (κ × V)} {kvs : MP}, MRel e F ks kvs → (∀ p ∈ kvs, ok p.1) → (ks.any fun kv => decide (kv.1 = e k)) = kvs.any fun p => decide (p.1 = k)
  | _, _, .nil, _ => rfl
  | _, _, .cons (k := j) (v := v) (d := d) r t, h => by
    have hj : ok j := h (j, d) (List.mem_cons_self ..)
    have q : decide (e j = e k) = decide (j = k) := decide_eq_decide.mpr ⟨inj j k hj hk, fun z => by rw [z]⟩
    rw [List.any_cons, List.any_cons, MRel.any inj hk t fun p hp => h p (List.mem_cons_of_mem _ hp)]
    show (decide (e j = e k) || _) = (decide (j = k) || _)
    rw [q]
theorem MRel.app {k : List Int} {v : V} {d : D} (r : Rp F v d) : ∀ {ks : List (κ × V)} {kvs : MP}, MRel e F ks kvs → MRel e F (ks ++ [(e k, v)]) (kvs ++ [(k, d)])
  | _, _, .nil => .cons r .nil
  | _, _, .cons q t => .cons q (MRel.app r t)
theorem MRel.upd (inj : ∀ k k', ok k → ok k' → e k = e k' → k = k') {k : List Int} (hk : ok k) {v : V} {d : D} (r : Rp F v d) : ∀ {ks : List (κ × V)} {kvs : MP}, MRel e F ks kvs → (∀ p ∈ kvs, ok p.1) →
    MRel e F (ks.map fun kv => if kv.1 = e k then (kv.1, v) else kv) (kvs.map fun p => if p.1 = k then (p.1, d) else p)
  | _, _, .nil, _ => .nil
  | _, _, .cons (k := j) (v := u) (d := b) q t, h => by
    have hj : ok j := h (j, b) (List.mem_cons_self ..)
    have ih := MRel.upd inj hk r t fun p hp => h p (List.mem_cons_of_mem _ hp)
    rw [List.map_cons, List.map_cons]
    by_cases z : j = k
    · rw [if_pos (show e j = e k by rw [z]), if_pos z]
      exact .cons r ih
    · rw [if_neg (fun y => z (inj j k hj hk y)), if_neg z]
      exact .cons q ih
theorem MRel.put (inj : ∀ k k', ok k → ok k' → e k = e k' → k = k') {k : List Int} (hk : ok k) {v : V} {d : D} (r : Rp F v d) {ks : List (κ × V)} {kvs : MP} (h : MRel e F ks kvs) (ho : ∀ p ∈ kvs, ok p.1) : MRel e F (putK ks (e k) v) (putM kvs k d) := by
  unfold putK putM
  rw [MRel.any inj hk h ho]
  by_cases z : (kvs.any fun p => decide (p.1 = k)) = true
  · rw [if_pos z, if_pos z]
    exact h.upd inj hk r ho
  · rw [if_neg z, if_neg z]
    exact h.app r
theorem MRel.len : ∀ {ks : List (κ × V)} {kvs : MP}, MRel e F ks kvs → ks.length = kvs.length
  | _, _, .nil => rfl
  | _, _, .cons _ t => congrArg (· + 1) (MRel.len t)
end
theorem putM_mem {kvs : MP} {k : List Int} {d : D} {p : List Int × D} (h : p ∈ putM kvs k d) : p.1 = k ∨ ∃ q ∈ kvs, q.1 = p.1 := by
  unfold putM at h
  split at h
  · obtain ⟨q, hq, e⟩ := List.mem_map.mp h
    by_cases z : q.1 = k
    · rw [if_pos z] at e
      exact .inl (by rw [← e]; exact z)
    · rw [if_neg z] at e
      exact .inr ⟨q, hq, by rw [e]⟩
  · rcases List.mem_append.mp h with h | h
    · exact .inr ⟨p, h, rfl⟩
    · rw [List.mem_singleton.mp h]
      exact .inl rfl
theorem kInt_inj : ∀ k k' : List Int, (∃ z, k = [z]) → (∃ z, k' = [z]) → kInt k = kInt k' → k = k' := fun k k' ⟨z, h⟩ ⟨y, h'⟩ e => by
  subst h h'
  cases e
  rfl
theorem kTup_inj : ∀ k k' : List Int, True → True → kTup k = kTup k' → k = k' := fun k k' _ _ e => by
  have inj : ∀ a b : List Int, kTup a = kTup b → a = b := by
    intro a
    induction a with
    | nil => intro b h; cases b with
      | nil => rfl
      | cons _ _ => cases h
    | cons x a ih => intro b h; cases b with
      | nil => cases h
      | cons y b =>
        have h : (Sum.inl x : Key) :: kTup a = Sum.inl y :: kTup b := h
        injection h with h1 h2
        cases h1
        rw [ih b h2]
  exact inj k k' e
section
variable {K : PySem.W.Frag} {F H F1 H1 : Hp} {ρ ρ1 ρ2 : Env} {σ : St}
theorem ints_tup {ns : List Int} : (ns.map V.int) = (kTup ns).map kV := by
  unfold kTup
  rw [List.map_map]
  rfl
/-- what a dict gives at a key -/
theorem dget_of {t : Bool} {a : Addr} {o : HO} {kvs : MP} {y : V} {d : D} {k : List Int} (s : Sub F H) (ha : H a = some o) (h : RepM F t o kvs) (hy : Vw F H y d) (hk : keyD t d = some k) :
    (DGet H a y none ∧ getM kvs k = none) ∨ ∃ w d, DGet H a y (some w) ∧ getM kvs k = some d ∧ Rp F w d := by
  cases t with
  | false =>
    cases d with
    | int z =>
      cases hk
      obtain ⟨ks, rfl, h1, h2⟩ := h
      rw [vw_int hy]
      have hv := DGet.k (k := Sum.inl z) ha
      rcases h1.val (ok := fun k => ∃ z, k = [z]) kInt_inj (k := [z]) ⟨z, rfl⟩ h2 with ⟨e1, e2⟩ | ⟨w, b, e1, e2, e3⟩
      · rw [show valV ks (Sum.inl z) = none from e1] at hv
        exact .inl ⟨hv, e2⟩
      · rw [show valV ks (Sum.inl z) = some w from e1] at hv
        exact .inr ⟨w, b, hv, e2, e3⟩
    | _ => exact nomatch (show (none : Option (List Int)) = some k from hk)
  | true =>
    cases d with
    | tuple ds =>
      have hk : intsOf ds = some k := hk
      obtain ⟨ks, rfl, h1⟩ := h
      obtain ⟨b, vs, e1, h3, h4⟩ := (show Vw F H y (.tuple ds) from hy)
      rw [intsOf_map hk] at h4
      have ev := h4.ints
      subst ev e1
      have hv := DGet.t (k := kTup k) ha (b := b) (by rw [← ints_tup]; exact s _ _ h3)
      rcases h1.val (ok := fun _ => True) kTup_inj (k := k) trivial (fun _ _ => trivial) with ⟨e1, e2⟩ | ⟨w, b, e1, e2, e3⟩
      · rw [e1] at hv
        exact .inl ⟨hv, e2⟩
      · rw [e1] at hv
        exact .inr ⟨w, b, hv, e2, e3⟩
    | _ => exact nomatch (show (none : Option (List Int)) = some k from hk)
theorem putM_len {kvs : MP} {k : List Int} {d : D} : (putM kvs k d).length ≤ kvs.length + 1 := by
  unfold putM
  split <;> simp
theorem dput_of {t : Bool} {a : Addr} {o : HO} {kvs : MP} {y v : V} {d b : D} {k : List Int} (s : Sub F H) (ha : H a = some o) (h : RepM F t o kvs) (hy : Vw F H y d) (hk : keyD t d = some k) (hv : Rp F v b) (hz : okN (kvs.length + 1) = true) :
    ∃ o', DPut H a y v (upd H a o') ∧ RepM F t o' (putM kvs k b) := by
  have hz := okN_le hz
  cases t with
  | false =>
    cases d with
    | int z =>
      cases hk
      obtain ⟨ks, rfl, h1, h2⟩ := h
      rw [vw_int hy]
      refine ⟨_, DPut.k (k := Sum.inl z) ha (by rw [h1.len]; omega), _, rfl, h1.put (ok := fun k => ∃ z, k = [z]) kInt_inj (k := [z]) ⟨z, rfl⟩ hv h2, fun p hp => ?_⟩
      rcases putM_mem hp with e | ⟨q, hq, e⟩
      · exact ⟨z, e⟩
      · rw [← e]
        exact h2 q hq
    | _ => exact nomatch (show (none : Option (List Int)) = some k from hk)
  | true =>
    cases d with
    | tuple ds =>
      have hk : intsOf ds = some k := hk
      obtain ⟨ks, rfl, h1⟩ := h
      obtain ⟨c, vs, e1, h3, h4⟩ := (show Vw F H y (.tuple ds) from hy)
      rw [intsOf_map hk] at h4
      have ev := h4.ints
      subst ev e1
      exact ⟨_, DPut.t (k := kTup k) ha (b := c) (by rw [← ints_tup]; exact s _ _ h3) (by rw [h1.len]; omega), _, rfl, h1.put (ok := fun _ => True) kTup_inj (k := k) trivial hv fun _ _ => trivial⟩
    | _ => exact nomatch (show (none : Option (List Int)) = some k from hk)
/-- the dict at a slot -/
theorem Good.dict {t : Bool} {kvs : MP} {i : Nat} {v : V} (g : Good K F H ρ σ) (h : getS ρ i = some (.m t kvs)) (hv : σ[i]? = some (some v)) : ∃ a o, v = .ref a ∧ H a = some o ∧ RepM F t o kvs ∧ F a = none := g.at h hv
end
section
variable {t : Tab} {Φ : Phi} {k : Nat} {c : Ctx} {X : Cx} {K : PySem.W.Frag} {F H F1 H1 : Hp} {ρ ρ1 ρ2 : Env} {σ : St}
theorem COk.u1 (C : COk t Φ k c X) : X.A.units + 1 < cLine := by
  have := C.room.un
  omega
theorem s_dnew {b : Bool} {pos : Pos} : PE X (.Dict [] [] pos) (tE Φ X.K (.dnew b)) := by
  cases b with
  | false =>
    refine pe_dnewK.imp fun σ H Q ⟨F, ρ, r, ρ1, g, ev, q⟩ => ?_
    cases ev
    exact fun p hp => NewR.of q Step.refl g p _ hp ⟨[], rfl, .nil, fun _ h => absurd h (by simp)⟩
  | true =>
    refine pe_dnewT.imp fun σ H Q ⟨F, ρ, r, ρ1, g, ev, q⟩ => ?_
    cases ev
    exact fun p hp => NewR.of q Step.refl g p _ hp ⟨[], rfl, .nil⟩
theorem noSl_of {b : Expr} (h : plainIxT b = true) : NoSl b := by
  cases b with
  | Constant v k pos =>
    cases v <;> first | (exfalso; simp [plainIxT, plainIx] at h; done) | exact fun _ _ => rfl
  | _ => first | (exfalso; simp [plainIxT, plainIx] at h; done) | exact fun _ _ => rfl
theorem s_dget (C : COk t Φ k c X) {i : Nat} {a : E} {ex er : Expr} {pos : Pos} (hx : PE X ex (tVar i)) (hp : plainIxT er = true) (ha : PE X er (tO Φ X.K a)) : PE X (.Subscript ex er pos) (tE Φ X.K (.dget i a)) :=
  (pe_dget C.u1 hx ha (noSl_of hp)).imp fun σ H Q ⟨F, ρ, r, ρ1, g, ev, q⟩ => by
    obtain ⟨r0, e0, ev⟩ := bnd ev
    obtain ⟨⟨y, ρa⟩, e1, ev⟩ := bnd ev
    obtain ⟨d, e2, ev⟩ := bnd ev
    obtain ⟨r1, e3, ev⟩ := bnd ev
    cases r1 with
    | m tt kvs =>
      obtain ⟨kk, e4, ev⟩ := bnd ev
      obtain ⟨w0, e5, ev⟩ := bnd ev
      cases ev
      obtain ⟨v0, hv0⟩ := g.has i r0 (getS_eq.mp e0)
      refine ⟨v0, hv0, F, ρ, y, ρ1, g, e1, fun v F2 H2 s2 g2 ro => ?_⟩
      obtain ⟨ad, o, rfl, h1, h2, h3⟩ := g2.dict e3 hv0
      rcases dget_of g2.sub h1 h2 (ro.vw g2 e2) e4 with ⟨_, z⟩ | ⟨w, b, z1, z2, z3⟩
      · rw [e5] at z
        cases z
      · rw [e5] at z2
        cases z2
        exact ⟨ad, w, rfl, z1, post_d s2 g2 q z3⟩
    | _ => cases ev
def rDI (n : Bool) : R2 := fun x y H Q => ∃ a o, y = .ref a ∧ DGet H a x o ∧ Q (.bl (xor n o.isSome)) H
def dOp (n : Bool) : CmpOp := if n then .NotIn else .In
theorem or_di (hu : X.A.units + 1 < cLine) (n : Bool) : OpR X (compareOp (dOp n)) (rDI n) := by
  intro pins s σ H x y v u Q I rx ry ⟨a, o, e, dg, q⟩
  subst e
  obtain rfl : u = Value.ref a := ry
  cases n with
  | false => exact d_in hu I dg rx fun s' I' => ⟨.bl o.isSome, H, I', by cases o <;> rfl, by cases o <;> exact q⟩
  | true => exact d_notIn hu I dg rx fun s' I' => ⟨.bl (!o.isSome), H, I', by cases o <;> rfl, by cases o <;> exact q⟩
theorem behind_name {op : CmpOp} {x : Str} {p : Pos} : behindInMarks op (.Name x p) = false := rfl
theorem di_read {n : Bool} {i : Nat} {a : E} {ty : D} {y : Op} {kvs : MP} {tt : Bool} {kk : List Int} {Q : VK} (g : Good K F H ρ σ) (e1 : opd a (evE Φ a) ρ = some (y, ρ1)) (e2 : der ρ1 y = some ty) (e3 : getS ρ1 i = some (.m tt kvs)) (e4 : keyD tt ty = some kk)
    (q : ∀ F2 H2, Step F H (Own ρ σ) F2 H2 (Own ρ1 σ) → Good K F2 H2 ρ1 σ → Q (.bl (xor n (getM kvs kk).isSome)) H2) : tO Φ K a σ H fun v H1 => tVar i σ H1 fun w H2 => rDI n v w H2 Q :=
  ⟨F, ρ, y, ρ1, g, e1, fun v F2 H2 s2 g2 ro => by
    obtain ⟨v0, hv0⟩ := g2.has i _ (getS_eq.mp e3)
    obtain ⟨ad, o, rfl, h1, h2, h3⟩ := g2.dict e3 hv0
    refine ⟨_, hv0, ?_⟩
    rcases dget_of g2.sub h1 h2 (ro.vw g2 e2) e4 with ⟨z1, z2⟩ | ⟨w, b, z1, z2, z3⟩
    · refine ⟨ad, none, rfl, z1, ?_⟩
      have z := q F2 H2 s2 g2
      rw [z2] at z
      exact z
    · refine ⟨ad, some w, rfl, z1, ?_⟩
      have z := q F2 H2 s2 g2
      rw [z2] at z
      exact z⟩
theorem s_din (C : COk t Φ k c X) {n : Bool} {i : Nat} {a : E} {x : Str} {el : Expr} {p pos : Pos} (hx : PE X (.Name x p) (tVar i)) (ha : PE X el (tO Φ X.K a)) : PE X (.Compare el [dOp n] [.Name x p] pos) (tE Φ X.K (.din n i a)) :=
  (pe_cmpR (or_di C.u1 n) ha hx behind_name).imp fun σ H Q ⟨F, ρ, r, ρ1, g, ev, q⟩ => by
    obtain ⟨⟨y, ρa⟩, e1, ev⟩ := bnd ev
    obtain ⟨d, e2, ev⟩ := bnd ev
    obtain ⟨r1, e3, ev⟩ := bnd ev
    cases r1 with
    | m tt kvs =>
      obtain ⟨kk, e4, ev⟩ := bnd ev
      cases ev
      exact di_read g e1 e2 e3 e4 fun F2 H2 s2 g2 => post_d s2 g2 q (.bl _)
    | _ => cases ev
theorem t_din (C : COk t Φ k c X) {n : Bool} {i : Nat} {a : E} {x : Str} {el : Expr} {p pos : Pos} (hx : PE X (.Name x p) (tVar i)) (ha : PE X el (tO Φ X.K a)) : PT X (.Compare el [dOp n] [.Name x p] pos) (tT Φ X.K (.tdin n i a)) :=
  (pt_cmpR (or_di C.u1 n) ha hx behind_name).imp fun σ H Q ⟨F, ρ, r, ρ1, g, ev, q⟩ => by
    obtain ⟨⟨y, ρa⟩, e1, ev⟩ := bnd ev
    obtain ⟨d, e2, ev⟩ := bnd ev
    obtain ⟨r1, e3, ev⟩ := bnd ev
    cases r1 with
    | m tt kvs =>
      obtain ⟨kk, e4, ev⟩ := bnd ev
      cases ev
      exact di_read g e1 e2 e3 e4 fun F2 H2 s2 g2 => ⟨_, rfl, q F2 H2 s2 g2⟩
    | _ => cases ev
end
end Pv
/-! ## sorted of dicts, of sets; sets of lists -/
namespace Pv
open PySem PySem.Spec L2 PyProof.Rows
section
variable {X : Cx}
theorem ints_of_keys {kvs : MP} {ks : List (Key × V)} {F : Hp} (h : MRel kInt F ks kvs) : ks.map (·.1) = (kvs.map fun p => p.1.headD 0).map Sum.inl := by
  induction h with
  | nil => rfl
  | cons _ _ ih => rw [List.map_cons, List.map_cons, List.map_cons, ih]; rfl
/-- sorted(d), ints as keys, any number of them -/
def rSortD : List V → Hp → VK → Prop := fun xs H Q => ∃ (a : Addr) (kvs : List (Key × V)) (ns : List Int), xs = [.ref a] ∧ H a = some (.dK kvs) ∧ kvs.map (·.1) = ns.map Sum.inl ∧
  ∀ (ys : List Int) (p : Addr), ys.Perm ns → ys.Pairwise (· ≤ ·) → H p = none → Q (.ref p) (upd H p (.lst (ys.map V.int)))
theorem cr_sortD (hc : X.calm = true) : CallR X (.builtin "sorted") rSortD := fun pins s σ H xs us Q I r ⟨a, kvs, ns, ex, hd, hk, q⟩ => by
  subst ex
  obtain ⟨u, eu, rx⟩ := vals1 r
  subst eu
  cases rx
  obtain ⟨z, lo, vs, rel, dd⟩ := dk_of I.hok hd
  obtain ⟨ep, hat⟩ := dd.dictAt
  have e1 : vs.map (·.1) = ns.map Sum.inl := rel.keys.symm.trans hk
  have e2 : vs.length = ns.length := by
    have y := congrArg List.length e1
    simpa using y
  have e3 : vs.length = kvs.length := by
    have y := congrArg List.length hk
    rw [e2]
    simpa using y.symm
  have e4 : vs.length ≤ sizeLine := by rw [e3]; exact z
  refine Calls.call_function_entry kind_sorted plain_sorted entry_sorted (args_sorted1 _) ?_; unfold Builtin.«sorted»
  refine wpAny_bind (m := checkCount "sorted" 1 1 _) (wpAny_pure (wpAny_bind (PySem.W.kdu_collect (A := X.A.in1) (PySem.W.kdl_dict (knd := mixKind X.prog X.w) (kvs := vs) (ep := ep) lo) (I.ok.hd hc) hat e4 fun h1 tk acc keep got => ?_)))
  obtain ⟨g1, g2⟩ := got
  have el : acc.toList.length = ns.length := by rw [Array.length_toList, g1, e2]
  have hI : IntsAre acc.toList ns := ints_each el fun j v e => by
    obtain ⟨ky, x, y1, y2⟩ := g2 j v (by rw [← Array.getElem?_toList]; exact e)
    have y3 : (vs.map (·.1))[j]? = some ky := by rw [List.getElem?_map, y1]; rfl
    rw [e1, List.getElem?_map, Option.map_eq_some_iff] at y3
    obtain ⟨m, m1, rfl⟩ := y3
    rcases keyIs_shape (show keyIs (Sum.inl m) v = true from y2) with ⟨i, t, ek, ev⟩ | ⟨_, t, ek, _⟩
    · cases ek
      exact ⟨m, t, m1, ev⟩
    · cases ek
  have I1 : Inv X pins σ H { s with heap := h1, toks := tk } := I.kept keep
  have e5 : acc.toList.length ≤ sizeLine := by rw [el, ← e2]; exact e4
  refine wpAny_bind (wpAny_newList ?_ e5)
  have at1 : (h1.push (seqObj "list" acc.toList.toArray 0)).get? h1.objs.size = some (seqObj "list" acc.toList.toArray 0) := Heap.get?_push_size _ rfl
  show wpAny _ _ _ _ _ { s with heap := h1.push (seqObj "list" acc.toList.toArray 0), toks := tk }
  refine wpAny_bind (wpAny_holding (wpAny_call_entry slot_list_sort ⟨_, at1, rfl⟩ entry_list_sort (SrtO.list_sort_ord (s := { s with heap := h1.push (seqObj "list" acc.toList.toArray 0), toks := tk }) SrtO.swo_int at1 e5 (fun h2 => SrtO.ints_sortable hI h2) fun out o1 o2 => ⟨_, rfl, ?_⟩) (args_list_sort _)))
  obtain ⟨b1, b2, b3⟩ := SrtO.ints_out hI o1 o2
  obtain ⟨e', he'⟩ := sortedHeap_at (vs := acc.toList) (out := out.toArray) at1
  have e6 : ((out.map SrtO.iv).map V.int).length ≤ sizeLine := by rw [List.length_map, b2.length_eq, ← el]; exact e5
  refine wpAny_pure ⟨_, rfl, .ref h1.objs.size, upd H h1.objs.size (.lst ((out.map SrtO.iv).map V.int)), I1.laid (t' := tk) (fun b u e => ?_) (Nat.le_refl _) ⟨e6, out, e', vals_of_ints b1, he'⟩, rfl, q _ _ b2 b3 (I1.hok.fresh (Nat.le_refl _))⟩
  have lt : b < h1.objs.size := Heap.lt_size e
  rw [sortedHeap_old (Nat.ne_of_lt lt) (by rw [size_push']; exact Nat.lt_succ_of_lt lt)]
  exact Heap.get?_push_of_some _ e
end
end Pv
/-! ## set(a list of ints), sorted of it -/
namespace Pv
open PySem PySem.Spec L2 PyProof.Rows
section
variable {P : Program} {w : World} {A : Around} {E : Value → Shared → Prop} {s : Shared}
/-- the empty set of set() -/
abbrev set0 (w : World) : Obj := { cls := .type "set", dict := none, data := .set #[] 0 (.fresh 0 0 (!w.params.followText "set-order")) }
theorem set_ls {l : Addr} {items : Array Value} (ns : List Int) {Q : Value → Shared → Prop} (hh : A.handled = none) (hl : s.heap.IsList l items) (hit : IntsAre items.toList ns) (hb : ns.length + 1 < scanBound)
    (h : ∀ (h' : Heap) (tk c : Nat), SetR w h' s.heap.objs.size (fun j => decide (j ∈ ns)) c → c ≤ ns.length → (∀ b o, s.heap.get? b = some o → h'.get? b = some o) → Q (.ref s.heap.objs.size) { s with heap := h', toks := tk }) :
    wpAny (model P w) A (call (.type "set") [.ref l]) Q E s := by
  have len : items.size = ns.length := by rw [← Array.length_toList]; exact IntsAre.length hit
  obtain ⟨c0, tl0, mro⟩ := F.called_set.mro
  have c1 := F.called_set.made
  have c2 := F.called_set.sub
  have c3 := F.called_set.notType
  have c4 := F.called_set.canCreate
  have c5 := F.typeCall_set_1 (.ref l)
  refine wpAny_call (codeAny_of_tree (show wpAny _ _ (callAny (.type "set") _) _ _ _ from wpAny_pure ⟨Code.quiet_builtin _ (by decide +kernel), codeAny_builtin F.entry_type_call ?_⟩))
  rw [Around.under_plain (weight_type_call_type "set" [.ref l] []) rfl]
  repeat (any_goals (first | assumption | wp_step))
  refine codeAny_mono (code_set_led1 (.ref l) (E := E) (Q₁ := fun v s1 => v = .ref s.heap.objs.size ∧ s1 = { s with heap := s.heap.push (set0 w) }) ⟨rfl, rfl⟩) fun r s1 hr => ?_
  match r, hr with
  | .error e, hr => exact hr
  | .ok (.ret v), hr =>
    obtain ⟨ev, es⟩ := hr
    subst ev es
    have at0 : (s.heap.push (set0 w)).get? s.heap.objs.size = some (set0 w) := Heap.get?_push_size _ rfl
    have ty0 : Shared.TypeIs { s with heap := s.heap.push (set0 w) } (.ref s.heap.objs.size) "set" := ⟨_, at0, rfl⟩
    have i1 := F.called_set.init.lookup
    have i2 := F.called_set.init.bind (.ref s.heap.objs.size)
    repeat (any_goals (first | assumption | wp_step))
    refine codeAny_mono (codeAny_call_builtin (R := wants (fun r s2 => r = .none ∧ ∃ h' tk c, s2 = { s with heap := h', toks := tk } ∧ SetR w h' s.heap.objs.size (fun j => decide (j ∈ ns)) c ∧ c ≤ ns.length ∧ (∀ b o, s.heap.get? b = some o → h'.get? b = some o)) E) F.called_set.init.plain F.entry_set_init (check_set_init_1 ty0 ?_)) fun r2 s2 hr2 => ?_
    · have k1 := hl.push (set0 w)
      obtain ⟨⟨cls, dct, dat, slt⟩, ho, hc, nl, hd⟩ := hl
      simp only at hc hd
      subst hc; subst hd
      have ho2 : (s.heap.push (set0 w)).get? l = some { cls := .type "list", dict := dct, data := .seq items nl, slots := slt } := Heap.get?_push_of_some _ ho
      have s1 := F.sub_list_set
      have s2 := F.sub_list_frozenset
      have s3 : (Value.type "list" == Value.type "dict") = false := by decide
      unfold Builtin.«set.__init__» noKeywords Builtin.Frozenset.updateFrom
      generalize hPI : pyIter = PI
      wp_walk
      subst hPI
      have lt : l < s.heap.objs.size := Heap.lt_size ho
      have sz : (s.heap.push (set0 w)).objs.size = s.heap.objs.size + 1 := Heap.size_push ..
      have n1 : l ≠ (s.heap.push (set0 w)).objs.size := by rw [sz]; exact Nat.ne_of_lt (Nat.lt_succ_of_lt lt)
      have n2 : s.heap.objs.size ∉ [(s.heap.push (set0 w)).objs.size, l] := by
        rw [sz]
        simp only [List.mem_cons, List.not_mem_nil, or_false, not_or]
        exact ⟨Nat.ne_of_lt (Nat.lt_succ_self _), Nat.ne_of_gt lt⟩
      have val : ∀ (i : Nat) (v : Value), items[i]? = some v → ∃ k t, ns[i]? = some k ∧ v = .int k t := fun i v hv => by
        have lt : i < ns.length := by rw [← len]; exact (Array.getElem?_eq_some_iff.mp hv).1
        obtain ⟨t, e⟩ := IntsAre.int_at hit i v (by rw [Array.getElem?_toList]; exact hv)
        exact ⟨ns[i], t, List.getElem?_eq_getElem lt, by rw [e, List.getD_eq_getElem?_getD, List.getElem?_eq_getElem lt] <;> rfl⟩
      refine wpAny_pyIter_list k1 (wpAny_bind (wpAny_runValue ?_))
      have nh : A.in1.in1.in1.handled = none := by simp [hh]
      refine set_update_ints ((Walks.list nh _ l n1 items).toS) s.heap.objs.size n2 ns len hb val (items.size - 0) 0 _ (by omega) (Nat.zero_le _) ⟨⟨_, Heap.get?_push_size _ rfl, rfl, rfl⟩, (k1.push _)⟩
        ⟨0, Nat.le_refl 0, setR_new_at (Heap.get?_push_of_some _ at0)⟩ fun s' c' hm hc' hS' => ?_
      obtain ⟨h', g2, d', tk', os'⟩ := s'
      have eg : g2 = s.gens := hm.gens
      have ed : d' = s.drawn := hm.drawn
      have eo : os' = s.os := hm.os
      subst eg; subst ed; subst eo
      refine wpAny_pure (show wpAny _ _ (ret Value.none) _ _ _ from wpAny_pure ⟨rfl, h', tk', c', rfl, hS', by rw [← len]; exact hc', fun b o e => ?_⟩)
      have b0 : b < s.heap.objs.size := Heap.lt_size e
      refine hm.heap b o ?_ (Heap.get?_push_of_some _ (Heap.get?_push_of_some _ e))
      rw [sz]
      simp only [List.mem_cons, List.not_mem_nil, or_false, not_or]
      exact ⟨Nat.ne_of_lt b0, Nat.ne_of_lt (Nat.lt_succ_of_lt b0)⟩
    · match r2, hr2 with
      | .error e, hr2 => exact hr2
      | .ok (.ret v), hr2 =>
        obtain ⟨ev, h', tk, c, es, q1, q2, q3⟩ := hr2
        subst ev es
        repeat (any_goals (first | assumption | wp_step))
        exact h _ _ _ q1 q2 q3
end
end Pv
namespace Pv
open PySem PySem.Spec L2 PyProof.Rows
section
variable {X : Cx}
/-- set(xs), a list or tuple of ints -/
def rSetI (K : PySem.W.Frag) (w : World) : List V → Hp → VK → Prop := fun xs H Q => ∃ (l : Addr) (ns : List Int), xs = [.ref l] ∧ (SqL K H l (ns.map V.int) ∨ SqT K H l (ns.map V.int)) ∧ ns.length ≤ 4000 ∧
  ∀ p c, H p = none → c ≤ ns.length → Q (.ref p) (upd H p (SetO w p (fun j => decide (j ∈ ns)) c))
theorem cr_setI (hc : X.calm = true) : CallR X (.type "set") (rSetI X.K X.w) := fun pins s σ H xs us Q I r ⟨l, ns, ex, hq, hz, q⟩ => by
  subst ex
  rw [Vals.ref1 r]
  have sb : ns.length + 1 < scanBound := by unfold scanBound; omega
  have go : ∀ (h' : Heap) (tk c : Nat), SetR X.w h' s.heap.objs.size (fun j => decide (j ∈ ns)) c → c ≤ ns.length → (∀ b o, s.heap.get? b = some o → h'.get? b = some o) → EP X pins σ Q (.ref s.heap.objs.size) { s with heap := h', toks := tk } :=
    fun h' tk c R hc' k => ⟨.ref s.heap.objs.size, _, I.laid (t' := tk) k (Nat.le_refl _) (setO_new R), rfl, q _ c (I.hok.fresh (Nat.le_refl _)) hc'⟩
  rcases hq with hq | hq
  · obtain ⟨its, rv, pl, _⟩ := I.list hq
    exact set_ls ns (I.ok.hd hc) pl.isList (by simpa using ints_of_vals rv) sb go
  · obtain ⟨its, rv, pl, _⟩ := I.tuple hq
    exact call_set_tupI ns (I.ok.hd hc) (show s.heap.IsTuple l its.toArray from pl) (by simpa using ints_of_vals rv) sb go
/-- sorted(a set of ints), any number of them -/
def rSortO (w : World) : List V → Hp → VK → Prop := fun vs H Q => ∃ (a : Addr) (S : Int → Bool) (n : Nat), vs = [V.ref a] ∧ H a = some (SetO w a S n) ∧ n ≤ 4000 ∧
  ∀ (ns : List Int) (p : Addr), ns.Pairwise (· < ·) → (∀ k : Int, k ∈ ns ↔ S k = true) → H p = none → Q (.ref p) (upd H p (.lst (ns.map V.int)))
theorem vInt_ints {l : List Value} (h : ∀ v ∈ l, ∃ k t, v = Value.int k t) : IntsAre l (l.map L2.vInt) := by
  induction l with
  | nil => exact .nil
  | cons v l ih =>
    obtain ⟨k, t, rfl⟩ := h v List.mem_cons_self
    exact .cons k t (ih fun u hu => h u (List.mem_cons_of_mem _ hu))
theorem cr_sortO (hc : X.calm = true) : CallR X (.builtin "sorted") (rSortO X.w) := fun pins s σ H vs us Q I r ⟨a, S, n, ex, ha, hz, q⟩ => by
  subst ex
  have R := setO_get I ha
  rw [Vals.ref1 r]
  obtain ⟨o, es, ep, t, ho, hex, hd, hg, nd, hm, hb, hf, hn, hr, hl⟩ := R
  refine Calls.call_function_entry kind_sorted plain_sorted entry_sorted (args_sorted1 _) ?_; unfold Builtin.«sorted»
  refine wpAny_bind (m := checkCount "sorted" 1 1 _) (wpAny_pure (wpAny_bind (collect_set (A := X.A.in1) (I.ok.hd hc) ⟨o, ho, hex.1, hd⟩ hf hb hr hl fun s1 out k1 sz g1 o1 pm => ?_)))
  have e1 : out.length = n := by rw [pm.length_eq, List.length_map, Array.length_toList]; exact hn
  have hI : IntsAre out (out.map L2.vInt) := vInt_ints fun v hv => by
    obtain ⟨e, he, rfl⟩ := List.mem_map.mp (pm.mem_iff.mp hv)
    obtain ⟨k, tk, h1, _⟩ := hg e he
    exact ⟨k, tk, h1⟩
  have pk : (out.map L2.vInt).Perm (es.toList.map keyOf) := by
    have z := pm.map L2.vInt
    rw [List.map_map] at z
    rw [show es.toList.map keyOf = es.toList.map (L2.vInt ∘ fun x => x.2) from List.map_congr_left fun e _ => key_vInt e]
    exact z
  have e5 : out.length ≤ sizeLine := by rw [e1, sizeLine_eq]; omega
  refine wpAny_bind (wpAny_newList ?_ e5)
  have at1 : (s1.heap.push (seqObj "list" out.toArray 0)).get? s1.heap.objs.size = some (seqObj "list" out.toArray 0) := Heap.get?_push_size _ rfl
  refine wpAny_bind (wpAny_holding (wpAny_call_entry slot_list_sort ⟨_, at1, rfl⟩ entry_list_sort (SrtO.list_sort_ord SrtO.swo_int at1 e5 (fun h2 => SrtO.ints_sortable hI h2) fun out2 p1 p2 => ⟨_, rfl, ?_⟩) (args_list_sort _)))
  obtain ⟨b1, b2, b3⟩ := SrtO.ints_out hI p1 p2
  obtain ⟨e', he'⟩ := sortedHeap_at (vs := out) (out := out2.toArray) at1
  have pn : (out2.map SrtO.iv).Perm (es.toList.map keyOf) := b2.trans pk
  have e6 : ((out2.map SrtO.iv).map V.int).length ≤ sizeLine := by rw [List.length_map, b2.length_eq, List.length_map]; exact e5
  have nf : H s1.heap.objs.size = none := I.hok.fresh sz
  have kk : ∀ b u, s.heap.get? b = some u → (sortedHeap (s1.heap.push (seqObj "list" out.toArray 0)) s1.heap.objs.size out out2.toArray).get? b = some u := fun b u e => by
    have z := k1 b u e
    have lt := Heap.lt_size z
    rw [sortedHeap_old (Nat.ne_of_lt lt) (by rw [size_push']; exact Nat.lt_succ_of_lt lt)]
    exact Heap.get?_push_of_some _ z
  have J : Inv X pins σ (upd H s1.heap.objs.size (.lst ((out2.map SrtO.iv).map V.int))) { s with heap := sortedHeap (s1.heap.push (seqObj "list" out.toArray 0)) s1.heap.objs.size out out2.toArray, gens := s1.gens, drawn := s1.drawn, toks := s1.toks } :=
    I.call (ch := []) (Un.laid kk sz nf) (I.hok.laid kk sz ⟨e6, out2, e', vals_of_ints b1, he'⟩) (by rw [g1]; exact I.bare) (fun _ z => nomatch z)
  have es : ({ s1 with heap := sortedHeap (s1.heap.push (seqObj "list" out.toArray 0)) s1.heap.objs.size out out2.toArray } : Shared) = { s with heap := sortedHeap (s1.heap.push (seqObj "list" out.toArray 0)) s1.heap.objs.size out out2.toArray, gens := s1.gens, drawn := s1.drawn, toks := s1.toks } := by
    cases s1
    cases s
    cases o1
    rfl
  refine wpAny_pure ⟨_, rfl, ?_⟩
  rw [es]
  exact ⟨.ref s1.heap.objs.size, _, J, rfl, q _ _ (lt_of_le_nodup _ b3 (pn.nodup_iff.mpr nd)) (fun k => by rw [pn.mem_iff, ← hm k]) nf⟩
end
/-! ### in order, each once -/
theorem mem_insU {x y : Int} : ∀ {l : List Int}, y ∈ insU x l ↔ y = x ∨ y ∈ l
  | [] => by simp [insU]
  | z :: l => by
    unfold insU
    split
    · simp
    · split
      · rename_i h
        subst h
        simp
      · rw [List.mem_cons, mem_insU (l := l), List.mem_cons]
        constructor
        · rintro (h | h | h)
          · exact .inr (.inl h)
          · exact .inl h
          · exact .inr (.inr h)
        · rintro (h | h | h)
          · exact .inr (.inl h)
          · exact .inl h
          · exact .inr (.inr h)
theorem mem_setU {y : Int} : ∀ {l : List Int}, y ∈ setU l ↔ y ∈ l
  | [] => by simp [setU]
  | x :: l => by rw [setU, mem_insU, mem_setU (l := l), List.mem_cons]
theorem insU_up {x : Int} : ∀ {l : List Int}, l.Pairwise (· < ·) → (insU x l).Pairwise (· < ·)
  | [], _ => by simp [insU]
  | z :: l, h => by
    obtain ⟨h1, h2⟩ := List.pairwise_cons.mp h
    unfold insU
    split
    · rename_i q
      exact List.pairwise_cons.mpr ⟨fun y hy => by
        rcases List.mem_cons.mp hy with e | e
        · rw [e]; exact q
        · exact Int.lt_trans q (h1 y e), h⟩
    · split
      · exact h
      · rename_i q1 q2
        refine List.pairwise_cons.mpr ⟨fun y hy => ?_, insU_up h2⟩
        rcases mem_insU.mp hy with e | e
        · rw [e]; omega
        · exact h1 y e
theorem setU_up : ∀ l : List Int, (setU l).Pairwise (· < ·)
  | [] => List.Pairwise.nil
  | x :: l => insU_up (setU_up l)
theorem up_same : ∀ {a b : List Int}, a.Pairwise (· < ·) → b.Pairwise (· < ·) → (∀ k, k ∈ a ↔ k ∈ b) → a = b
  | [], [], _, _, _ => rfl
  | [], y :: b, _, _, h => absurd ((h y).mpr (List.mem_cons_self ..)) (by simp)
  | x :: a, [], _, _, h => absurd ((h x).mp (List.mem_cons_self ..)) (by simp)
  | x :: a, y :: b, ha, hb, h => by
    obtain ⟨a1, a2⟩ := List.pairwise_cons.mp ha
    obtain ⟨b1, b2⟩ := List.pairwise_cons.mp hb
    have e : x = y := by
      rcases List.mem_cons.mp ((h x).mp (List.mem_cons_self ..)) with e | e
      · exact e
      · rcases List.mem_cons.mp ((h y).mpr (List.mem_cons_self ..)) with e2 | e2
        · exact e2.symm
        · have := b1 x e
          have := a1 y e2
          omega
    subst e
    rw [up_same a2 b2 fun k => ?_]
    constructor
    · intro hk
      rcases List.mem_cons.mp ((h k).mp (List.mem_cons_of_mem _ hk)) with e | e
      · have := a1 k hk
        omega
      · exact e
    · intro hk
      rcases List.mem_cons.mp ((h k).mpr (List.mem_cons_of_mem _ hk)) with e | e
      · have := b1 k hk
        omega
      · exact e
section
variable {t : Tab} {Φ : Phi} {k : Nat} {c : Ctx} {X : Cx} {K : PySem.W.Frag} {F H F1 H1 : Hp} {ρ ρ1 ρ2 : Env} {σ : L2.St}
theorem sorted_ne : ("sorted" : Str) ≠ "__name__" := by decide +kernel
theorem set_ne : ("set" : Str) ≠ "__name__" := by decide +kernel
theorem len_ne : ("len" : Str) ≠ "__name__" := by decide +kernel
theorem boot_srt : bootBuiltins ("sorted" : Str) = some (.builtin "sorted") := by decide +kernel
theorem boot_st : bootBuiltins ("set" : Str) = some (.type "set") := by decide +kernel
theorem boot_ln : bootBuiltins ("len" : Str) = some (.builtin "len") := by decide +kernel
theorem s_dsort (C : COk t Φ k c X) {i : Nat} {x y : Str} {p py pos : Pos} (hx : x = "sorted") (hg : bltB t c x = true) (hy : PE X (.Name y py) (tVar i)) : PE X (.Call (.Name x p) [.Name y py] [] pos) (tE Φ X.K (.dsort i)) := by
  subst hx
  obtain ⟨g1, g2, g3⟩ := C.blt hg
  refine (pe_callB (cr_sortD C.calm) g1 g3 boot_srt (pa_cons hy pa_nil rfl) sorted_ne g2).imp fun σ H Q ⟨F, ρ, r, ρ1, g, ev, q⟩ => ?_
  obtain ⟨r1, e1, ev⟩ := bnd ev
  cases r1 with
  | m tt kvs =>
    cases tt with
    | true => cases ev
    | false =>
      cases ev
      obtain ⟨v0, hv0⟩ := g.has i _ (getS_eq.mp e1)
      obtain ⟨ad, o, rfl, h1, ⟨ks, rfl, h2, h4⟩, h3⟩ := g.dict e1 hv0
      refine ⟨_, hv0, ad, ks, _, rfl, h1, ints_of_keys h2, fun ys p hp hs hn => ?_⟩
      have es : ys = srtI (kvs.map fun p => p.1.headD 0) := srt_same (hp.trans (srtI_perm _).symm) hs (srtI_sorted _)
      subst es
      exact post_l Step.refl g q (RpAll.ofInts _) p hn
  | _ => cases ev
theorem s_dlen (C : COk t Φ k c X) {i : Nat} {x y : Str} {p py pos : Pos} (hx : x = "len") (hg : bltB t c x = true) (hy : PE X (.Name y py) (tVar i)) : PE X (.Call (.Name x p) [.Name y py] [] pos) (tE Φ X.K (.dlen i)) := by
  subst hx
  obtain ⟨g1, g2, g3⟩ := C.blt hg
  refine (pe_callB call_lenD g1 g3 boot_ln (pa_cons hy pa_nil rfl) len_ne g2).imp fun σ H Q ⟨F, ρ, r, ρ1, g, ev, q⟩ => ?_
  obtain ⟨r1, e1, ev⟩ := bnd ev
  cases r1 with
  | m tt kvs =>
    cases tt with
    | true => cases ev
    | false =>
      cases ev
      obtain ⟨v0, hv0⟩ := g.has i _ (getS_eq.mp e1)
      obtain ⟨ad, o, rfl, h1, ⟨ks, rfl, h2, h4⟩, h3⟩ := g.dict e1 hv0
      refine ⟨_, hv0, ad, ks, rfl, h1, ?_⟩
      rw [h2.len]
      exact post_d Step.refl g q (.int _)
  | _ => cases ev
theorem s_bits {a : E} {x : Str} {l : Expr} {apos cpos : Pos} (hx : x = "bit_length") (hn : notSuper l = true) (hl : (apos.endLine == cpos.line) = true) (ha : PE X l (tO Φ X.K a)) : PE X (.Call (.Attribute l x apos) [] [] cpos) (tE Φ X.K (.bits a)) := by
  subst hx
  refine (pe_bits ha (super_of hn) hl).imp fun σ H Q ⟨F, ρ, r, ρ1, g, ev, q⟩ => ?_
  obtain ⟨⟨o, ρa⟩, e1, ev⟩ := bnd ev
  obtain ⟨d, e2, ev⟩ := bnd ev
  cases d with
  | int i =>
    cases ev
    exact ⟨F, ρ, o, _, g, e1, fun v F2 H2 s2 g2 ro => ⟨i, vw_int (ro.vw g2 e2), post_d s2 g2 q (.int _)⟩⟩
  | _ => cases ev
theorem sq_of {v : V} {d : D} {ds : List D} (s : Sub F H) (h : Vw F H v d) (e : seqD d = some ds) : ∃ a vs, v = .ref a ∧ (SqL K H a vs ∨ SqT K H a vs) ∧ RpAll F vs ds := by
  cases d with
  | list xs =>
    cases e
    obtain ⟨a, vs, e1, h1, h2⟩ := h
    exact ⟨a, vs, e1, .inl (SqL.of h1), h2⟩
  | tuple xs =>
    cases e
    obtain ⟨a, vs, e1, h1, h2⟩ := (show Vw F H v (.tuple _) from h)
    exact ⟨a, vs, e1, .inr (SqT.of (s _ _ h1)), h2⟩
  | _ => cases e
theorem s_sset (C : COk t Φ k c X) {a : E} {x y : Str} {e : Expr} {p py pos pos2 : Pos} (hx : x = "sorted") (hg : bltB t c x = true) (hy : y = "set") (hg2 : bltB t c y = true) (hs : (!isStar e) = true) (ha : PE X e (tO Φ X.K a)) :
    PE X (.Call (.Name x p) [.Call (.Name y py) [e] [] pos2] [] pos) (tE Φ X.K (.sset a)) := by
  subst hx hy
  obtain ⟨g1, g2, g3⟩ := C.blt hg
  obtain ⟨k1, k2, k3⟩ := C.blt hg2
  have star := noStar_cons (es := []) (env := X.env) (star_of hs)
  refine (pe_callB (cr_sortO C.calm) g1 g3 boot_srt (pa_cons (pe_callTy (pos := pos2) (p := py) (cr_setI C.calm) k1 k3 boot_st (pa_cons ha pa_nil star) set_ne k2 star rfl) pa_nil rfl) sorted_ne g2).imp fun σ H Q ⟨F, ρ, r, ρ1, g, ev, q⟩ => ?_
  obtain ⟨⟨o, ρa⟩, e1, ev⟩ := bnd ev
  obtain ⟨d, e2, ev⟩ := bnd ev
  obtain ⟨ds, e3, ev⟩ := bnd ev
  obtain ⟨ns, e4, ev⟩ := bnd ev
  have ev : (if ns.length ≤ 4000 then some (R.l ((setU ns).map PyData.int), ρa) else none) = some (r, ρ1) := ev
  obtain ⟨hz, ev⟩ := ite_some ev
  cases ev
  refine ⟨F, ρ, o, _, g, e1, fun v F2 H2 s2 g2 ro => ?_⟩
  obtain ⟨ad, vs, rfl, h1, h2⟩ := sq_of (K := X.K) g2.sub (ro.vw g2 e2) e3
  rw [intsOf_map e4] at h2
  have evs := h2.ints
  subst evs
  refine ⟨ad, ns, rfl, h1, hz, fun T n hT hn => ⟨T, _, n, rfl, upd_same, Nat.le_trans hn hz, fun os p hp hm hf => ?_⟩⟩
  have es : os = setU ns := up_same hp (setU_up ns) fun z => by rw [hm z, mem_setU, decide_eq_true_iff]
  subst es
  exact post_l (s2.trans (Step.junk hT)) (g2.junk hT) q (RpAll.ofInts _) p hf
/-- data alone in slots -/
theorem good_data : ∀ {vs : List V} {ds : List D}, Sub F H → RpAll F vs ds → Good K F H ((ds.map R.v).map some) (vs.map some) := fun {vs ds} s h => by
  have at_ : ∀ i r v, Hold ((ds.map R.v).map some) (vs.map some) i r v → r.own = false ∧ RepR K F H v r := fun i r v ⟨h1, h2⟩ => by
    rw [List.getElem?_map, Option.map_eq_some_iff] at h1 h2
    obtain ⟨r', h1, e1⟩ := h1
    obtain ⟨v', h2, e2⟩ := h2
    cases e1
    cases e2
    rw [List.getElem?_map, Option.map_eq_some_iff] at h1
    obtain ⟨d, h1, e1⟩ := h1
    cases e1
    obtain ⟨w, w1, w2⟩ := h.get h1
    rw [h2] at w1
    cases w1
    exact ⟨rfl, w2⟩
  refine ⟨s, by simp [h.len], fun i r e => ?_, fun i r v hh => (at_ i r v hh).2, fun i j r q a h1 _ o1 _ => ?_⟩
  · have lt := (List.getElem?_eq_some_iff.mp e).1
    simp only [List.length_map] at lt
    have lt2 : i < vs.length := by rw [h.len]; exact lt
    exact ⟨vs[i], by simp [lt2]⟩
  · rw [(at_ i r _ h1).1] at o1
    cases o1
theorem own_data {ds : List D} {a : Addr} : ¬ Own ((ds.map R.v).map some) σ a := fun ⟨i, r, h, o⟩ => by
  have h1 := h.1
  rw [List.getElem?_map, Option.map_eq_some_iff] at h1
  obtain ⟨r', h1, e1⟩ := h1
  cases e1
  rw [List.getElem?_map, Option.map_eq_some_iff] at h1
  obtain ⟨d, _, e1⟩ := h1
  cases e1
  cases o
/-- f(*x) -/
theorem s_stc (C : COk t Φ k c X) {f x : Str} {a : E} {e : Expr} {p sp pos : Pos} (hx : x = f) (hg : gloB c x = true) (hf : (t.fns.any fun q => sEq q.1 x) = true) (ha : PE X e (tO Φ X.K a)) : PE X (.Call (.Name x p) [.Starred e sp] [] pos) (tE Φ X.K (.stc f a)) := by
  subst hx
  obtain ⟨q, hq, e1⟩ := List.any_eq_true.mp hf
  obtain ⟨ad, fd, ps, hl, hm, hk, hb, hF⟩ := C.fns q hq
  rw [sEq_t e1] at hm hF
  obtain ⟨g1, g2⟩ := C.glob hg
  refine (StX.pe_callS1 (hF.raw hb .nil) C.room hk g1 hm (fun _ _ _ _ _ _ _ h => h.elim) ha g2 (E := fun _ _ _ => False)).imp fun σ H Q ⟨F, ρ, r, ρ1, g, ev, q⟩ => ?_
  obtain ⟨⟨o, ρa⟩, e1, ev⟩ := bnd ev
  obtain ⟨d, e2, ev⟩ := bnd ev
  obtain ⟨ds, e3, ev⟩ := bnd ev
  obtain ⟨⟨r', outs⟩, e4, ev⟩ := bnd ev
  cases ev
  refine ⟨F, ρ, o, _, g, e1, fun v F2 H2 s2 gg ro => ?_⟩
  obtain ⟨ad, vs, rfl, h1, h2⟩ := sq_of (K := X.K) gg.sub (ro.vw gg e2) e3
  refine ⟨ad, vs, rfl, h1.symm, ?_⟩
  rw [List.append_nil]
  refine ⟨F2, ds.map R.v, r, outs, good_data gg.sub h2, e4, fun w F3 H3 s3 g3 => ?_⟩
  have z : Step F2 H2 (fun _ => False) F3 H3 (Own ((outs.map some) ++ [some r]) ((vs.map some) ++ [some w])) := s3.wide fun a h => own_data h
  -- the result alone
  have hlo : (outs.map some).length = (vs.map some).length := by
    have := g3.len
    simpa using this
  have gr : Good X.K F3 H3 [some r] [some w] := g3.right hlo rfl
  have sr : Step F2 H2 (fun _ => False) F3 H3 (Own [some r] [some w]) := z.weak fun a h => (own_app hlo).mpr (.inr h)
  have fr := Good.frame (τ := ρ1) (υ := σ) (ρ := []) (σ := []) gg rfl (sr.wide fun _ h => h.elim) gr
  refine q w F3 H3 (s2.trans ?_) (fr.comm rfl)
  have y := sr.frame (P := Own ρ1 σ)
  refine (y.wide fun a h => h.elim False.elim id).weak fun a h => ?_
  rcases (own_app gg.len).mp h with h | h
  · exact .inr h
  · exact .inl h
end
end Pv
namespace Pv
open PySem PySem.Spec L2
/-! ## what the looks say -/
section
variable {t : Tab}
theorem v_var {i : Nat} {c : Ctx} {e : Expr} (h : chkE t (.var i) c e = true) : ∃ x p, e = .Name x p ∧ varB c i x = true := by
  cases e with
  | Name x p =>
    exact ⟨x, p, rfl, h⟩
  | _ => exact nomatch (show false = true from h)
theorem v_mv {i : Nat} {c : Ctx} {e : Expr} (h : chkE t (.mv i) c e = true) : ∃ x p, e = .Name x p ∧ varB c i x = true := by
  cases e with
  | Name x p =>
    exact ⟨x, p, rfl, h⟩
  | _ => exact nomatch (show false = true from h)
theorem v_num {z : Int} {c : Ctx} {e : Expr} (h : chkE t (.num z) c e = true) : ∃ k p, e = .Constant (.int z) k p := by
  cases e with
  | Constant v k p =>
    cases v with
    | int y =>
      obtain rfl : z = y := of_decide_eq_true h
      exact ⟨k, p, rfl⟩
    | _ => exact nomatch (show false = true from h)
  | _ => exact nomatch (show false = true from h)
theorem v_bl {z : Bool} {c : Ctx} {e : Expr} (h : chkE t (.bl z) c e = true) : ∃ k p, e = .Constant (.bool z) k p := by
  cases e with
  | Constant v k p =>
    cases v with
    | bool y =>
      obtain rfl : z = y := eq_of_beq (show (z == y) = true from h)
      exact ⟨k, p, rfl⟩
    | _ => exact nomatch (show false = true from h)
  | _ => exact nomatch (show false = true from h)
theorem v_str {z : Str} {c : Ctx} {e : Expr} (h : chkE t (.str z) c e = true) : ∃ k p, e = .Constant (.str z) k p := by
  cases e with
  | Constant v k p =>
    cases v with
    | str y =>
      obtain rfl : z = y := sEq_t h
      exact ⟨k, p, rfl⟩
    | _ => exact nomatch (show false = true from h)
  | _ => exact nomatch (show false = true from h)
theorem v_non  {c : Ctx} {e : Expr} (h : chkE t (.non) c e = true) : ∃ k p, e = .Constant .none k p := by
  cases e with
  | Constant v k p =>
    cases v with
    | none  =>
      exact ⟨k, p, rfl⟩
    | _ => exact nomatch (show false = true from h)
  | _ => exact nomatch (show false = true from h)
theorem v_cst {x : Str} {z : Int} {c : Ctx} {e : Expr} (h : chkE t (.cst x z) c e = true) : ∃ p, e = .Name x p ∧ gloB c x = true ∧ (t.cs.any fun p => sEq p.1 x && decide (p.2 = z)) = true := by
  cases e with
  | Name y p =>
    obtain ⟨h, h3⟩ := and_t h
    obtain ⟨h1, h2⟩ := and_t h
    obtain rfl := sEq_t h1
    exact ⟨p, rfl, h2, h3⟩
  | _ => exact nomatch (show false = true from h)
theorem v_bin {op : Operator} {a b : E} {c : Ctx} {e : Expr} (h : chkE t (.bin op a b) c e = true) : ∃ l r p, e = .BinOp l op r p ∧ chkE t a c l = true ∧ chkE t b c r = true := by
  cases e with
  | BinOp l o r p =>
    obtain ⟨h, h3⟩ := and_t h
    obtain ⟨h1, h2⟩ := and_t h
    obtain rfl : op = o := of_decide_eq_true h1
    exact ⟨l, r, p, rfl, h2, h3⟩
  | _ => exact nomatch (show false = true from h)
theorem v_neg {a : E} {c : Ctx} {e : Expr} (h : chkE t (.neg a) c e = true) : ∃ l p, e = .UnaryOp .USub l p ∧ chkE t a c l = true := by
  cases e with
  | UnaryOp o l p =>
    cases o with
    | USub  =>
      exact ⟨l, p, rfl, h⟩
    | _ => exact nomatch (show false = true from h)
  | _ => exact nomatch (show false = true from h)
theorem v_not {a : E} {c : Ctx} {e : Expr} (h : chkE t (.not_ a) c e = true) : ∃ l p, e = .UnaryOp .Not l p ∧ chkE t a c l = true := by
  cases e with
  | UnaryOp o l p =>
    cases o with
    | Not  =>
      exact ⟨l, p, rfl, h⟩
    | _ => exact nomatch (show false = true from h)
  | _ => exact nomatch (show false = true from h)
theorem v_cmp {op : CmpOp} {a b : E} {c : Ctx} {e : Expr} (h : chkE t (.cmp op a b) c e = true) : ∃ l r p, e = .Compare l [op] [r] p ∧ chkE t a c l = true ∧ chkE t b c r = true ∧ noSet r = true := by
  cases e with
  | Compare l os rs p =>
    cases os with
    | nil => exact nomatch (show false = true from h)
    | cons o os =>
      cases os with
      | cons _ _ => exact nomatch (show false = true from h)
      | nil =>
        cases rs with
        | nil => exact nomatch (show false = true from h)
        | cons r rs =>
          cases rs with
          | cons _ _ => exact nomatch (show false = true from h)
          | nil =>
            obtain ⟨h, h4⟩ := and_t h
            obtain ⟨h, h3⟩ := and_t h
            obtain ⟨h1, h2⟩ := and_t h
            obtain rfl : op = o := of_decide_eq_true h1
            exact ⟨l, r, p, rfl, h2, h3, h4⟩
  | _ => exact nomatch (show false = true from h)
theorem v_tcmp {op : CmpOp} {a b : E} {c : Ctx} {e : Expr} (h : chkT t (.tcmp op a b) c e = true) : ∃ l r p, e = .Compare l [op] [r] p ∧ chkE t a c l = true ∧ chkE t b c r = true ∧ noSet r = true := by
  cases e with
  | Compare l os rs p =>
    cases os with
    | nil => exact nomatch (show false = true from h)
    | cons o os =>
      cases os with
      | cons _ _ => exact nomatch (show false = true from h)
      | nil =>
        cases rs with
        | nil => exact nomatch (show false = true from h)
        | cons r rs =>
          cases rs with
          | cons _ _ => exact nomatch (show false = true from h)
          | nil =>
            obtain ⟨h, h4⟩ := and_t h
            obtain ⟨h, h3⟩ := and_t h
            obtain ⟨h1, h2⟩ := and_t h
            obtain rfl : op = o := of_decide_eq_true h1
            exact ⟨l, r, p, rfl, h2, h3, h4⟩
  | _ => exact nomatch (show false = true from h)
theorem v_chain {o1 o2 : CmpOp} {a b d : E} {c : Ctx} {e : Expr} (h : chkE t (.chain o1 o2 a b d) c e = true) : ∃ l m r p, e = .Compare l [o1, o2] [m, r] p ∧ chkE t a c l = true ∧ chkE t b c m = true ∧ chkE t d c r = true ∧ noSet m = true ∧ noSet r = true := by
  cases e with
  | Compare l os rs p =>
    cases os with
    | nil => exact nomatch (show false = true from h)
    | cons q1 os =>
      cases os with
      | nil => 
        cases rs with
        | nil => exact nomatch (show false = true from h)
        | cons _ _ => exact nomatch (show false = true from h)
      | cons q2 os =>
        cases os with
        | cons _ _ => exact nomatch (show false = true from h)
        | nil =>
          cases rs with
          | nil => exact nomatch (show false = true from h)
          | cons m rs =>
            cases rs with
            | nil => exact nomatch (show false = true from h)
            | cons r rs =>
              cases rs with
              | cons _ _ => exact nomatch (show false = true from h)
              | nil =>
                obtain ⟨h, h7⟩ := and_t h
                obtain ⟨h, h6⟩ := and_t h
                obtain ⟨h, h5⟩ := and_t h
                obtain ⟨h, h4⟩ := and_t h
                obtain ⟨h, h3⟩ := and_t h
                obtain ⟨h1, h2⟩ := and_t h
                obtain rfl : o1 = q1 := of_decide_eq_true h1
                obtain rfl : o2 = q2 := of_decide_eq_true h2
                exact ⟨l, m, r, p, rfl, h3, h4, h5, h6, h7⟩
  | _ => exact nomatch (show false = true from h)
theorem v_tchain {o1 o2 : CmpOp} {a b d : E} {c : Ctx} {e : Expr} (h : chkT t (.tchain o1 o2 a b d) c e = true) : ∃ l m r p, e = .Compare l [o1, o2] [m, r] p ∧ chkE t a c l = true ∧ chkE t b c m = true ∧ chkE t d c r = true ∧ noSet m = true ∧ noSet r = true := by
  cases e with
  | Compare l os rs p =>
    cases os with
    | nil => exact nomatch (show false = true from h)
    | cons q1 os =>
      cases os with
      | nil => 
        cases rs with
        | nil => exact nomatch (show false = true from h)
        | cons _ _ => exact nomatch (show false = true from h)
      | cons q2 os =>
        cases os with
        | cons _ _ => exact nomatch (show false = true from h)
        | nil =>
          cases rs with
          | nil => exact nomatch (show false = true from h)
          | cons m rs =>
            cases rs with
            | nil => exact nomatch (show false = true from h)
            | cons r rs =>
              cases rs with
              | cons _ _ => exact nomatch (show false = true from h)
              | nil =>
                obtain ⟨h, h7⟩ := and_t h
                obtain ⟨h, h6⟩ := and_t h
                obtain ⟨h, h5⟩ := and_t h
                obtain ⟨h, h4⟩ := and_t h
                obtain ⟨h, h3⟩ := and_t h
                obtain ⟨h1, h2⟩ := and_t h
                obtain rfl : o1 = q1 := of_decide_eq_true h1
                obtain rfl : o2 = q2 := of_decide_eq_true h2
                exact ⟨l, m, r, p, rfl, h3, h4, h5, h6, h7⟩
  | _ => exact nomatch (show false = true from h)
theorem v_and {a b : E} {c : Ctx} {e : Expr} (h : chkE t (.and_ a b) c e = true) : ∃ x y r p, e = .BoolOp .And (x :: y :: r) p ∧ chkE t a c x = true ∧ ((r = [] ∧ chkE t b c y = true) ∨ chkE t b c (.BoolOp .And (y :: r) p) = true) := by
  cases e with
  | BoolOp o xs p =>
    cases o with
    | And  =>
      cases xs with
      | nil => exact nomatch (show false = true from h)
      | cons x xs =>
        cases xs with
        | nil => exact nomatch (show false = true from h)
        | cons y xs =>
          cases xs with
          | nil =>
            obtain ⟨h1, h2⟩ := and_t h
            exact ⟨x, y, [], p, rfl, h1, .inl ⟨rfl, h2⟩⟩
          | cons z r =>
            obtain ⟨h1, h2⟩ := and_t h
            exact ⟨x, y, z :: r, p, rfl, h1, .inr h2⟩
    | _ => exact nomatch (show false = true from h)
  | _ => exact nomatch (show false = true from h)
theorem v_or {a b : E} {c : Ctx} {e : Expr} (h : chkE t (.or_ a b) c e = true) : ∃ x y r p, e = .BoolOp .Or (x :: y :: r) p ∧ chkE t a c x = true ∧ ((r = [] ∧ chkE t b c y = true) ∨ chkE t b c (.BoolOp .Or (y :: r) p) = true) := by
  cases e with
  | BoolOp o xs p =>
    cases o with
    | Or  =>
      cases xs with
      | nil => exact nomatch (show false = true from h)
      | cons x xs =>
        cases xs with
        | nil => exact nomatch (show false = true from h)
        | cons y xs =>
          cases xs with
          | nil =>
            obtain ⟨h1, h2⟩ := and_t h
            exact ⟨x, y, [], p, rfl, h1, .inl ⟨rfl, h2⟩⟩
          | cons z r =>
            obtain ⟨h1, h2⟩ := and_t h
            exact ⟨x, y, z :: r, p, rfl, h1, .inr h2⟩
    | _ => exact nomatch (show false = true from h)
  | _ => exact nomatch (show false = true from h)
theorem v_tand {a b : E} {c : Ctx} {e : Expr} (h : chkT t (.tand a b) c e = true) : ∃ x y r p, e = .BoolOp .And (x :: y :: r) p ∧ chkT t a c x = true ∧ ((r = [] ∧ chkT t b c y = true) ∨ chkT t b c (.BoolOp .And (y :: r) p) = true) := by
  cases e with
  | BoolOp o xs p =>
    cases o with
    | And  =>
      cases xs with
      | nil => exact nomatch (show false = true from h)
      | cons x xs =>
        cases xs with
        | nil => exact nomatch (show false = true from h)
        | cons y xs =>
          cases xs with
          | nil =>
            obtain ⟨h1, h2⟩ := and_t h
            exact ⟨x, y, [], p, rfl, h1, .inl ⟨rfl, h2⟩⟩
          | cons z r =>
            obtain ⟨h1, h2⟩ := and_t h
            exact ⟨x, y, z :: r, p, rfl, h1, .inr h2⟩
    | _ => exact nomatch (show false = true from h)
  | _ => exact nomatch (show false = true from h)
theorem v_tor {a b : E} {c : Ctx} {e : Expr} (h : chkT t (.tor a b) c e = true) : ∃ x y r p, e = .BoolOp .Or (x :: y :: r) p ∧ chkT t a c x = true ∧ ((r = [] ∧ chkT t b c y = true) ∨ chkT t b c (.BoolOp .Or (y :: r) p) = true) := by
  cases e with
  | BoolOp o xs p =>
    cases o with
    | Or  =>
      cases xs with
      | nil => exact nomatch (show false = true from h)
      | cons x xs =>
        cases xs with
        | nil => exact nomatch (show false = true from h)
        | cons y xs =>
          cases xs with
          | nil =>
            obtain ⟨h1, h2⟩ := and_t h
            exact ⟨x, y, [], p, rfl, h1, .inl ⟨rfl, h2⟩⟩
          | cons z r =>
            obtain ⟨h1, h2⟩ := and_t h
            exact ⟨x, y, z :: r, p, rfl, h1, .inr h2⟩
    | _ => exact nomatch (show false = true from h)
  | _ => exact nomatch (show false = true from h)
theorem v_tnot {a : E} {c : Ctx} {e : Expr} (h : chkT t (.tnot a) c e = true) : ∃ l p, e = .UnaryOp .Not l p ∧ chkT t a c l = true := by
  cases e with
  | UnaryOp o l p =>
    cases o with
    | Not  =>
      exact ⟨l, p, rfl, h⟩
    | _ => exact nomatch (show false = true from h)
  | _ => exact nomatch (show false = true from h)
theorem v_ife {d a b : E} {c : Ctx} {e : Expr} (h : chkE t (.ife d a b) c e = true) : ∃ x l r p, e = .IfExp x l r p ∧ chkT t d c x = true ∧ chkE t a c l = true ∧ chkE t b c r = true := by
  cases e with
  | IfExp x l r p =>
    obtain ⟨h, h3⟩ := and_t h
    obtain ⟨h1, h2⟩ := and_t h
    exact ⟨x, l, r, p, rfl, h1, h2, h3⟩
  | _ => exact nomatch (show false = true from h)
theorem v_tup {a : E} {c : Ctx} {e : Expr} (h : chkE t (.tup a) c e = true) : ∃ l k p, e = .Tuple l k p ∧ chkO t a c l = true := by
  cases e with
  | Tuple l k p =>
    exact ⟨l, k, p, rfl, h⟩
  | _ => exact nomatch (show false = true from h)
theorem v_lst {a : E} {c : Ctx} {e : Expr} (h : chkE t (.lst a) c e = true) : ∃ l p, e = .List l p ∧ chkO t a c l = true := by
  cases e with
  | List l p =>
    exact ⟨l, p, rfl, h⟩
  | _ => exact nomatch (show false = true from h)
theorem v_idx {a b : E} {c : Ctx} {e : Expr} (h : chkE t (.idx a b) c e = true) : ∃ l r p, e = .Subscript l r p ∧ chkE t a c l = true ∧ chkE t b c r = true ∧ plainIx r = true := by
  cases e with
  | Subscript l r p =>
    obtain ⟨h, h3⟩ := and_t h
    obtain ⟨h1, h2⟩ := and_t h
    exact ⟨l, r, p, rfl, h1, h2, h3⟩
  | _ => exact nomatch (show false = true from h)
theorem v_slc {a lo hi : E} {c : Ctx} {e : Expr} (h : chkE t (.slc a lo hi) c e = true) : ∃ l u v q p, e = .Subscript l (.Slice u v none q) p ∧ chkE t a c l = true ∧ chkB t lo c u = true ∧ chkB t hi c v = true := by
  cases e with
  | Subscript l r p =>
    cases r with
    | Slice u v w q =>
      cases w with
      | some _ => exact nomatch (show false = true from h)
      | none =>
        obtain ⟨h, h3⟩ := and_t h
        obtain ⟨h1, h2⟩ := and_t h
        exact ⟨l, u, v, q, p, rfl, h1, h2, h3⟩
    | _ => exact nomatch (show false = true from h)
  | _ => exact nomatch (show false = true from h)
theorem v_rev {a : E} {c : Ctx} {e : Expr} (h : chkE t (.rev a) c e = true) : ∃ l k q1 q2 q3 p, e = .Subscript l (.Slice none none (some (.UnaryOp .USub (.Constant (.int 1) k q1) q2)) q3) p ∧ chkE t a c l = true := by
  cases e with
  | Subscript l r p =>
    cases r with
    | Slice u v w q =>
      cases u with
      | some _ => exact nomatch (show false = true from h)
      | none =>
        cases v with
        | some _ => exact nomatch (show false = true from h)
        | none =>
          cases w with
          | none => exact nomatch (show false = true from h)
          | some w =>
            cases w with
            | UnaryOp o x q2 =>
              cases o with
              | USub  =>
                cases x with
                | Constant y k q1 =>
                  cases y with
                  | int z =>
                    obtain ⟨h1, h2⟩ := and_t h
                    obtain rfl : z = 1 := of_decide_eq_true h2
                    exact ⟨l, k, q1, q2, q, p, rfl, h1⟩
                  | _ => exact nomatch (show false = true from h)
                | _ => exact nomatch (show false = true from h)
              | _ => exact nomatch (show false = true from h)
            | _ => exact nomatch (show false = true from h)
    | _ => exact nomatch (show false = true from h)
  | _ => exact nomatch (show false = true from h)
theorem v_call {f : Str} {es : E} {c : Ctx} {e : Expr} (h : chkE t (.call f es) c e = true) : ∃ y ys q p, e = .Call (.Name f q) (y :: ys) [] p ∧ gloB c f = true ∧ (t.fns.any fun p => sEq p.1 f && decide (p.2 = (y :: ys).length)) = true ∧ chkO t es c (y :: ys) = true ∧ noStar (y :: ys) = true := by
  cases e with
  | Call f as kws p =>
    cases f with
    | Name x q =>
      cases kws with
      | cons _ _ => exact nomatch (show false = true from h)
      | nil =>
        obtain ⟨h, h6⟩ := and_t h
        obtain ⟨h, h5⟩ := and_t h
        obtain ⟨h, h4⟩ := and_t h
        obtain ⟨h, h3⟩ := and_t h
        obtain ⟨h1, h2⟩ := and_t h
        obtain rfl := sEq_t h1
        cases as with
        | nil => exact nomatch (show false = true from h5)
        | cons y ys => exact ⟨y, ys, q, p, rfl, h2, h3, h4, h6⟩
    | _ => exact nomatch (show false = true from h)
  | _ => exact nomatch (show false = true from h)
theorem v_bi {b : Bi} {es : E} {c : Ctx} {e : Expr} (h : chkE t (.bi b es) c e = true) : ∃ as q p, e = .Call (.Name b.nm q) as [] p ∧ bltB t c b.nm = true ∧ chkO t es c as = true ∧ as.length = b.ar ∧ noStar as = true := by
  cases e with
  | Call f as kws p =>
    cases f with
    | Name x q =>
      cases kws with
      | cons _ _ => exact nomatch (show false = true from h)
      | nil =>
        obtain ⟨h, h5⟩ := and_t h
        obtain ⟨h, h4⟩ := and_t h
        obtain ⟨h, h3⟩ := and_t h
        obtain ⟨h1, h2⟩ := and_t h
        obtain rfl := sEq_t h1
        exact ⟨as, q, p, rfl, h2, h3, of_decide_eq_true h4, h5⟩
    | _ => exact nomatch (show false = true from h)
  | _ => exact nomatch (show false = true from h)
theorem v_isi {a : E} {ts : List Ty} {c : Ctx} {e : Expr} (h : chkE t (.isi a ts) c e = true) : ∃ y f q p, e = .Call (.Name "isinstance" q) [y, f] [] p ∧ bltB t c "isinstance" = true ∧ chkE t a c y = true ∧ (!isStar y) = true ∧ isiB t c ts f = true := by
  cases e with
  | Call f as kws p =>
    cases f with
    | Name x q =>
      cases as with
      | nil => exact nomatch (show false = true from h)
      | cons y as =>
        cases as with
        | nil => exact nomatch (show false = true from h)
        | cons f as =>
          cases as with
          | cons _ _ => exact nomatch (show false = true from h)
          | nil =>
            cases kws with
            | cons _ _ => exact nomatch (show false = true from h)
            | nil =>
              obtain ⟨h, h5⟩ := and_t h
              obtain ⟨h, h4⟩ := and_t h
              obtain ⟨h, h3⟩ := and_t h
              obtain ⟨h1, h2⟩ := and_t h
              obtain rfl := sEq_t h1
              exact ⟨y, f, q, p, rfl, h2, h3, h4, h5⟩
    | _ => exact nomatch (show false = true from h)
  | _ => exact nomatch (show false = true from h)
theorem v_mt {m : Mt} {o es : E} {c : Ctx} {e : Expr} (h : chkE t (.mt m o es) c e = true) : ∃ l ap y p, e = .Call (.Attribute l m.nm ap) [y] [] p ∧ chkE t o c l = true ∧ notSuper l = true ∧ chkO t es c [y] = true ∧ (!isStar y) = true ∧ (ap.endLine == p.line) = true := by
  cases e with
  | Call f as kws p =>
    cases f with
    | Attribute l x q =>
      cases as with
      | nil => exact nomatch (show false = true from h)
      | cons y as =>
        cases as with
        | cons _ _ => exact nomatch (show false = true from h)
        | nil =>
          cases kws with
          | cons _ _ => exact nomatch (show false = true from h)
          | nil =>
            obtain ⟨h, h6⟩ := and_t h
            obtain ⟨h, h5⟩ := and_t h
            obtain ⟨h, h4⟩ := and_t h
            obtain ⟨h, h3⟩ := and_t h
            obtain ⟨h1, h2⟩ := and_t h
            obtain rfl := sEq_t h1
            exact ⟨l, q, y, p, rfl, h2, h3, h4, h5, h6⟩
    | _ => exact nomatch (show false = true from h)
  | _ => exact nomatch (show false = true from h)
theorem v_pop {i : Nat} {c : Ctx} {e : Expr} (h : chkE t (.pop i) c e = true) : ∃ y yp ap p, e = .Call (.Attribute (.Name y yp) "pop" ap) [] [] p ∧ varB c i y = true ∧ (ap.endLine == p.line) = true := by
  cases e with
  | Call f as kws p =>
    cases f with
    | Attribute l x q =>
      cases l with
      | Name y yp =>
        cases as with
        | cons _ _ => exact nomatch (show false = true from h)
        | nil =>
          cases kws with
          | cons _ _ => exact nomatch (show false = true from h)
          | nil =>
            obtain ⟨h, h3⟩ := and_t h
            obtain ⟨h1, h2⟩ := and_t h
            obtain rfl := sEq_t h1
            exact ⟨y, yp, q, p, rfl, h2, h3⟩
      | _ => exact nomatch (show false = true from h)
    | _ => exact nomatch (show false = true from h)
  | _ => exact nomatch (show false = true from h)
theorem v_lrg_true {it : E} {c : Ctx} {e : Expr} (h : chkE t (.lrg true it) c e = true) : ∃ y q p, e = .Call (.Name "tuple" q) [y] [] p ∧ bltB t c "tuple" = true ∧ chkR t it c y = true := by
  cases e with
  | Call f as kws p =>
    cases f with
    | Name x q =>
      cases as with
      | nil => exact nomatch (show false = true from h)
      | cons y as =>
        cases as with
        | cons _ _ => exact nomatch (show false = true from h)
        | nil =>
          cases kws with
          | cons _ _ => exact nomatch (show false = true from h)
          | nil =>
            obtain ⟨h, h3⟩ := and_t h
            obtain ⟨h1, h2⟩ := and_t h
            obtain rfl := sEq_t h1
            exact ⟨y, q, p, rfl, h2, h3⟩
    | _ => exact nomatch (show false = true from h)
  | _ => exact nomatch (show false = true from h)
theorem v_lrg_false {it : E} {c : Ctx} {e : Expr} (h : chkE t (.lrg false it) c e = true) : ∃ y q p, e = .Call (.Name "list" q) [y] [] p ∧ bltB t c "list" = true ∧ chkR t it c y = true := by
  cases e with
  | Call f as kws p =>
    cases f with
    | Name x q =>
      cases as with
      | nil => exact nomatch (show false = true from h)
      | cons y as =>
        cases as with
        | cons _ _ => exact nomatch (show false = true from h)
        | nil =>
          cases kws with
          | cons _ _ => exact nomatch (show false = true from h)
          | nil =>
            obtain ⟨h, h3⟩ := and_t h
            obtain ⟨h1, h2⟩ := and_t h
            obtain rfl := sEq_t h1
            exact ⟨y, q, p, rfl, h2, h3⟩
    | _ => exact nomatch (show false = true from h)
  | _ => exact nomatch (show false = true from h)
theorem v_comp {elt : E} {tg : Tg} {it ifs : E} {vs : List Nat} {c : Ctx} {e : Expr} (h : chkE t (.comp elt tg it ifs vs) c e = true) : ∃ y g iter fs scope p, e = .ListComp y [⟨g, iter, fs, 0⟩] scope p ∧ chkI t it c g iter = true ∧ noSet iter = true ∧ blkC c.N c.sc scope (ownOf c.N vs) = true ∧ (ownOf c.N vs).map (·.2) = vs ∧ (∀ i, i ∈ tg.sl → i ∈ vs) ∧ vs.Nodup ∧ chkTg (blkCtx c scope) tg g = true ∧ ((fs = [] ∧ isYes ifs = true) ∨ ∃ f, fs = [f] ∧ chkT t ifs (blkCtx c scope) f = true) ∧ chkE t elt (blkCtx c scope) y = true := by
  cases e with
  | ListComp y gs scope p =>
    cases gs with
    | nil => exact nomatch (show false = true from h)
    | cons cl gs =>
      cases cl with
      | mk g iter fs z =>
        cases gs with
        | cons _ _ => exact nomatch (show false = true from h)
        | nil =>
          obtain ⟨h, h10⟩ := and_t h
          obtain ⟨h, h9⟩ := and_t h
          obtain ⟨h, h8⟩ := and_t h
          obtain ⟨h, h7⟩ := and_t h
          obtain ⟨h, h6⟩ := and_t h
          obtain ⟨h, h5⟩ := and_t h
          obtain ⟨h, h4⟩ := and_t h
          obtain ⟨h, h3⟩ := and_t h
          obtain ⟨h1, h2⟩ := and_t h
          obtain rfl : z = 0 := of_decide_eq_true h1
          have h9 : (fs = [] ∧ isYes ifs = true) ∨ ∃ f, fs = [f] ∧ chkT t ifs (blkCtx c scope) f = true := by
            cases fs with
            | nil => exact .inl ⟨rfl, h9⟩
            | cons f fs =>
              cases fs with
              | nil => exact .inr ⟨f, rfl, h9⟩
              | cons _ _ => exact nomatch (show false = true from h9)
          exact ⟨y, g, iter, fs, scope, p, rfl, h2, h3, h4, of_decide_eq_true h5, fun i hi => List.contains_iff_mem.mp (List.all_eq_true.mp h6 i hi), of_decide_eq_true h7, h8, h9, h10⟩
  | _ => exact nomatch (show false = true from h)
theorem v_tt {a : E} {c : Ctx} {e : Expr} (h : chkT t (.tt a) c e = true) : chkE t a c e = true ∧ plainTest e = true := by
  exact and_t h
theorem v_onil {c : Ctx} {es : List Expr} (h : chkO t .nil c es = true) : es = [] := by
  cases es with
  | nil => rfl
  | cons _ _ => exact nomatch (show false = true from h)
theorem v_ocons {a b : E} {c : Ctx} {es : List Expr} (h : chkO t (.cons a b) c es = true) : ∃ y ys, es = y :: ys ∧ chkE t a c y = true ∧ (!isStar y) = true ∧ chkO t b c ys = true := by
  cases es with
  | nil => exact nomatch (show false = true from h)
  | cons y ys =>
    obtain ⟨h, h3⟩ := and_t h
    obtain ⟨h1, h2⟩ := and_t h
    exact ⟨y, ys, rfl, h1, h2, h3⟩
theorem v_bnob {c : Ctx} {o : Option Expr} (h : chkB t .nob c o = true) : o = none := by
  cases o with
  | none => rfl
  | some _ => exact nomatch (show false = true from h)
theorem v_bit {a : E} {c : Ctx} {o : Option Expr} (h : chkB t (.it a) c o = true) : ∃ y, o = some y ∧ chkE t a c y = true := by
  cases o with
  | none => exact nomatch (show false = true from h)
  | some y => exact ⟨y, rfl, h⟩
theorem v_r1 {a : E} {c : Ctx} {e : Expr} (h : chkR t (.rng1 a) c e = true) : ∃ y q p, e = .Call (.Name "range" q) [y] [] p ∧ bltB t c "range" = true ∧ chkE t a c y = true ∧ (!isStar y) = true := by
  cases e with
  | Call f as kws p =>
    cases f with
    | Name x q =>
      cases as with
      | nil => exact nomatch (show false = true from h)
      | cons y as =>
        cases as with
        | cons _ _ => exact nomatch (show false = true from h)
        | nil =>
          cases kws with
          | cons _ _ => exact nomatch (show false = true from h)
          | nil =>
            obtain ⟨h, h4⟩ := and_t h
            obtain ⟨h, h3⟩ := and_t h
            obtain ⟨h1, h2⟩ := and_t h
            obtain rfl := sEq_t h1
            exact ⟨y, q, p, rfl, h2, h3, h4⟩
    | _ => exact nomatch (show false = true from h)
  | _ => exact nomatch (show false = true from h)
theorem v_r2 {a b : E} {c : Ctx} {e : Expr} (h : chkR t (.rng2 a b) c e = true) : ∃ y z q p, e = .Call (.Name "range" q) [y, z] [] p ∧ bltB t c "range" = true ∧ chkE t a c y = true ∧ chkE t b c z = true ∧ (!isStar y) = true ∧ (!isStar z) = true := by
  cases e with
  | Call f as kws p =>
    cases f with
    | Name x q =>
      cases as with
      | nil => exact nomatch (show false = true from h)
      | cons y as =>
        cases as with
        | nil => exact nomatch (show false = true from h)
        | cons z as =>
          cases as with
          | cons _ _ => exact nomatch (show false = true from h)
          | nil =>
            cases kws with
            | cons _ _ => exact nomatch (show false = true from h)
            | nil =>
              obtain ⟨h, h6⟩ := and_t h
              obtain ⟨h, h5⟩ := and_t h
              obtain ⟨h, h4⟩ := and_t h
              obtain ⟨h, h3⟩ := and_t h
              obtain ⟨h1, h2⟩ := and_t h
              obtain rfl := sEq_t h1
              exact ⟨y, z, q, p, rfl, h2, h3, h4, h5, h6⟩
    | _ => exact nomatch (show false = true from h)
  | _ => exact nomatch (show false = true from h)
theorem v_i1 {a : E} {c : Ctx} {tg : Expr} {e : Expr} (h : chkI t (.rng1 a) c tg e = true) : ∃ y q p, e = .Call (.Name "range" q) [y] [] p ∧ bltB t c "range" = true ∧ chkE t a c y = true ∧ (!isStar y) = true := by
  cases e with
  | Call f as kws p =>
    cases f with
    | Name x q =>
      cases as with
      | nil => exact nomatch (show false = true from h)
      | cons y as =>
        cases as with
        | cons _ _ => exact nomatch (show false = true from h)
        | nil =>
          cases kws with
          | cons _ _ => exact nomatch (show false = true from h)
          | nil =>
            obtain ⟨h, h4⟩ := and_t h
            obtain ⟨h, h3⟩ := and_t h
            obtain ⟨h1, h2⟩ := and_t h
            obtain rfl := sEq_t h1
            exact ⟨y, q, p, rfl, h2, h3, h4⟩
    | _ => exact nomatch (show false = true from h)
  | _ => exact nomatch (show false = true from h)
theorem v_i2 {a b : E} {c : Ctx} {tg : Expr} {e : Expr} (h : chkI t (.rng2 a b) c tg e = true) : ∃ y z q p, e = .Call (.Name "range" q) [y, z] [] p ∧ bltB t c "range" = true ∧ chkE t a c y = true ∧ chkE t b c z = true ∧ (!isStar y) = true ∧ (!isStar z) = true := by
  cases e with
  | Call f as kws p =>
    cases f with
    | Name x q =>
      cases as with
      | nil => exact nomatch (show false = true from h)
      | cons y as =>
        cases as with
        | nil => exact nomatch (show false = true from h)
        | cons z as =>
          cases as with
          | cons _ _ => exact nomatch (show false = true from h)
          | nil =>
            cases kws with
            | cons _ _ => exact nomatch (show false = true from h)
            | nil =>
              obtain ⟨h, h6⟩ := and_t h
              obtain ⟨h, h5⟩ := and_t h
              obtain ⟨h, h4⟩ := and_t h
              obtain ⟨h, h3⟩ := and_t h
              obtain ⟨h1, h2⟩ := and_t h
              obtain rfl := sEq_t h1
              exact ⟨y, z, q, p, rfl, h2, h3, h4, h5, h6⟩
    | _ => exact nomatch (show false = true from h)
  | _ => exact nomatch (show false = true from h)
theorem v_i3 {a b d : E} {c : Ctx} {tg : Expr} {e : Expr} (h : chkI t (.rng3 a b d) c tg e = true) : ∃ y z u q p, e = .Call (.Name "range" q) [y, z, u] [] p ∧ bltB t c "range" = true ∧ chkE t a c y = true ∧ chkE t b c z = true ∧ chkE t d c u = true ∧ (!isStar y) = true ∧ (!isStar z) = true ∧ (!isStar u) = true := by
  cases e with
  | Call f as kws p =>
    cases f with
    | Name x q =>
      cases as with
      | nil => exact nomatch (show false = true from h)
      | cons y as =>
        cases as with
        | nil => exact nomatch (show false = true from h)
        | cons z as =>
          cases as with
          | nil => exact nomatch (show false = true from h)
          | cons u as =>
            cases as with
            | cons _ _ => exact nomatch (show false = true from h)
            | nil =>
              cases kws with
              | cons _ _ => exact nomatch (show false = true from h)
              | nil =>
                obtain ⟨h, h8⟩ := and_t h
                obtain ⟨h, h7⟩ := and_t h
                obtain ⟨h, h6⟩ := and_t h
                obtain ⟨h, h5⟩ := and_t h
                obtain ⟨h, h4⟩ := and_t h
                obtain ⟨h, h3⟩ := and_t h
                obtain ⟨h1, h2⟩ := and_t h
                obtain rfl := sEq_t h1
                exact ⟨y, z, u, q, p, rfl, h2, h3, h4, h5, h6, h7, h8⟩
    | _ => exact nomatch (show false = true from h)
  | _ => exact nomatch (show false = true from h)
theorem v_enum {a : E} {c : Ctx} {tg : Expr} {e : Expr} (h : chkI t (.enum a) c tg e = true) : ∃ y q p, e = .Call (.Name "enumerate" q) [y] [] p ∧ bltB t c "enumerate" = true ∧ chkE t a c y = true ∧ (!isStar y) = true ∧ tgTup tg = true := by
  cases e with
  | Call f as kws p =>
    cases f with
    | Name x q =>
      cases as with
      | nil => exact nomatch (show false = true from h)
      | cons y as =>
        cases as with
        | cons _ _ => exact nomatch (show false = true from h)
        | nil =>
          cases kws with
          | cons _ _ => exact nomatch (show false = true from h)
          | nil =>
            obtain ⟨h, h5⟩ := and_t h
            obtain ⟨h, h4⟩ := and_t h
            obtain ⟨h, h3⟩ := and_t h
            obtain ⟨h1, h2⟩ := and_t h
            obtain rfl := sEq_t h1
            exact ⟨y, q, p, rfl, h2, h3, h4, h5⟩
    | _ => exact nomatch (show false = true from h)
  | _ => exact nomatch (show false = true from h)
theorem v_zip {a b : E} {c : Ctx} {tg : Expr} {e : Expr} (h : chkI t (.zip a b) c tg e = true) : ∃ y z q p, e = .Call (.Name "zip" q) [y, z] [] p ∧ bltB t c "zip" = true ∧ chkE t a c y = true ∧ chkE t b c z = true ∧ (!isStar y) = true ∧ (!isStar z) = true ∧ tgTup tg = true := by
  cases e with
  | Call f as kws p =>
    cases f with
    | Name x q =>
      cases as with
      | nil => exact nomatch (show false = true from h)
      | cons y as =>
        cases as with
        | nil => exact nomatch (show false = true from h)
        | cons z as =>
          cases as with
          | cons _ _ => exact nomatch (show false = true from h)
          | nil =>
            cases kws with
            | cons _ _ => exact nomatch (show false = true from h)
            | nil =>
              obtain ⟨h, h7⟩ := and_t h
              obtain ⟨h, h6⟩ := and_t h
              obtain ⟨h, h5⟩ := and_t h
              obtain ⟨h, h4⟩ := and_t h
              obtain ⟨h, h3⟩ := and_t h
              obtain ⟨h1, h2⟩ := and_t h
              obtain rfl := sEq_t h1
              exact ⟨y, z, q, p, rfl, h2, h3, h4, h5, h6, h7⟩
    | _ => exact nomatch (show false = true from h)
  | _ => exact nomatch (show false = true from h)
theorem v_dnew {b : Bool} {c : Ctx} {e : Expr} (h : chkE t (.dnew b) c e = true) : ∃ p, e = .Dict [] [] p := by
  cases e with
  | Dict ks vs p =>
    cases ks with
    | cons _ _ => exact nomatch (show false = true from h)
    | nil =>
      cases vs with
      | cons _ _ => exact nomatch (show false = true from h)
      | nil => exact ⟨p, rfl⟩
  | _ => exact nomatch (show false = true from h)
theorem v_dget {i : Nat} {a : E} {c : Ctx} {e : Expr} (h : chkE t (.dget i a) c e = true) : ∃ x q r p, e = .Subscript (.Name x q) r p ∧ varB c i x = true ∧ chkE t a c r = true ∧ plainIxT r = true := by
  cases e with
  | Subscript l r p =>
    cases l with
    | Name x q =>
      obtain ⟨h, h3⟩ := and_t h
      obtain ⟨h1, h2⟩ := and_t h
      exact ⟨x, q, r, p, rfl, h1, h2, h3⟩
    | _ => exact nomatch (show false = true from h)
  | _ => exact nomatch (show false = true from h)
theorem v_din {n : Bool} {i : Nat} {a : E} {c : Ctx} {e : Expr} (h : chkE t (.din n i a) c e = true) : ∃ l x q p, e = .Compare l [dOp n] [.Name x q] p ∧ chkE t a c l = true ∧ varB c i x = true := by
  cases e with
  | Compare l os rs p =>
    cases os with
    | nil => exact nomatch (show false = true from h)
    | cons o os =>
      cases os with
      | cons _ _ => exact nomatch (show false = true from h)
      | nil =>
        cases rs with
        | nil => exact nomatch (show false = true from h)
        | cons r rs =>
          cases r with
          | Name x q =>
            cases rs with
            | cons _ _ => exact nomatch (show false = true from h)
            | nil =>
              obtain ⟨h, h3⟩ := and_t h
              obtain ⟨h1, h2⟩ := and_t h
              obtain rfl : (if n then CmpOp.NotIn else CmpOp.In) = o := of_decide_eq_true h1
              exact ⟨l, x, q, p, rfl, h2, h3⟩
          | _ => exact nomatch (show false = true from h)
  | _ => exact nomatch (show false = true from h)
theorem v_tdin {n : Bool} {i : Nat} {a : E} {c : Ctx} {e : Expr} (h : chkT t (.tdin n i a) c e = true) : ∃ l x q p, e = .Compare l [dOp n] [.Name x q] p ∧ chkE t a c l = true ∧ varB c i x = true := by
  cases e with
  | Compare l os rs p =>
    cases os with
    | nil => exact nomatch (show false = true from h)
    | cons o os =>
      cases os with
      | cons _ _ => exact nomatch (show false = true from h)
      | nil =>
        cases rs with
        | nil => exact nomatch (show false = true from h)
        | cons r rs =>
          cases r with
          | Name x q =>
            cases rs with
            | cons _ _ => exact nomatch (show false = true from h)
            | nil =>
              obtain ⟨h, h3⟩ := and_t h
              obtain ⟨h1, h2⟩ := and_t h
              obtain rfl : (if n then CmpOp.NotIn else CmpOp.In) = o := of_decide_eq_true h1
              exact ⟨l, x, q, p, rfl, h2, h3⟩
          | _ => exact nomatch (show false = true from h)
  | _ => exact nomatch (show false = true from h)
theorem v_dsort {i : Nat} {c : Ctx} {e : Expr} (h : chkE t (.dsort i) c e = true) : ∃ y q py p, e = .Call (.Name "sorted" q) [.Name y py] [] p ∧ bltB t c "sorted" = true ∧ varB c i y = true := by
  cases e with
  | Call f as kws p =>
    cases f with
    | Name x q =>
      cases as with
      | nil => exact nomatch (show false = true from h)
      | cons y as =>
        cases y with
        | Name y py =>
          cases as with
          | cons _ _ => exact nomatch (show false = true from h)
          | nil =>
            cases kws with
            | cons _ _ => exact nomatch (show false = true from h)
            | nil =>
              obtain ⟨h, h3⟩ := and_t h
              obtain ⟨h1, h2⟩ := and_t h
              obtain rfl := sEq_t h1
              exact ⟨y, q, py, p, rfl, h2, h3⟩
        | _ => exact nomatch (show false = true from h)
    | _ => exact nomatch (show false = true from h)
  | _ => exact nomatch (show false = true from h)
theorem v_dlen {i : Nat} {c : Ctx} {e : Expr} (h : chkE t (.dlen i) c e = true) : ∃ y q py p, e = .Call (.Name "len" q) [.Name y py] [] p ∧ bltB t c "len" = true ∧ varB c i y = true := by
  cases e with
  | Call f as kws p =>
    cases f with
    | Name x q =>
      cases as with
      | nil => exact nomatch (show false = true from h)
      | cons y as =>
        cases y with
        | Name y py =>
          cases as with
          | cons _ _ => exact nomatch (show false = true from h)
          | nil =>
            cases kws with
            | cons _ _ => exact nomatch (show false = true from h)
            | nil =>
              obtain ⟨h, h3⟩ := and_t h
              obtain ⟨h1, h2⟩ := and_t h
              obtain rfl := sEq_t h1
              exact ⟨y, q, py, p, rfl, h2, h3⟩
        | _ => exact nomatch (show false = true from h)
    | _ => exact nomatch (show false = true from h)
  | _ => exact nomatch (show false = true from h)
theorem v_bits {a : E} {c : Ctx} {e : Expr} (h : chkE t (.bits a) c e = true) : ∃ l ap p, e = .Call (.Attribute l "bit_length" ap) [] [] p ∧ chkE t a c l = true ∧ notSuper l = true ∧ (ap.endLine == p.line) = true := by
  cases e with
  | Call f as kws p =>
    cases f with
    | Attribute l x q =>
      cases as with
      | cons _ _ => exact nomatch (show false = true from h)
      | nil =>
        cases kws with
        | cons _ _ => exact nomatch (show false = true from h)
        | nil =>
          obtain ⟨h, h4⟩ := and_t h
          obtain ⟨h, h3⟩ := and_t h
          obtain ⟨h1, h2⟩ := and_t h
          obtain rfl := sEq_t h1
          exact ⟨l, q, p, rfl, h2, h3, h4⟩
    | _ => exact nomatch (show false = true from h)
  | _ => exact nomatch (show false = true from h)
theorem v_sset {a : E} {c : Ctx} {e : Expr} (h : chkE t (.sset a) c e = true) : ∃ y py q p2 p, e = .Call (.Name "sorted" q) [.Call (.Name "set" py) [y] [] p2] [] p ∧ bltB t c "sorted" = true ∧ bltB t c "set" = true ∧ chkE t a c y = true ∧ (!isStar y) = true := by
  cases e with
  | Call f as kws p =>
    cases f with
    | Name x q =>
      cases as with
      | nil => exact nomatch (show false = true from h)
      | cons y as =>
        cases y with
        | Call g bs kws2 p2 =>
          cases g with
          | Name z py =>
            cases bs with
            | nil => exact nomatch (show false = true from h)
            | cons y bs =>
              cases bs with
              | cons _ _ => exact nomatch (show false = true from h)
              | nil =>
                cases kws2 with
                | cons _ _ => exact nomatch (show false = true from h)
                | nil =>
                  cases as with
                  | cons _ _ => exact nomatch (show false = true from h)
                  | nil =>
                    cases kws with
                    | cons _ _ => exact nomatch (show false = true from h)
                    | nil =>
                      obtain ⟨h, h6⟩ := and_t h
                      obtain ⟨h, h5⟩ := and_t h
                      obtain ⟨h, h4⟩ := and_t h
                      obtain ⟨h, h3⟩ := and_t h
                      obtain ⟨h1, h2⟩ := and_t h
                      obtain rfl := sEq_t h1
                      obtain rfl := sEq_t h3
                      exact ⟨y, py, q, p2, p, rfl, h2, h4, h5, h6⟩
          | _ => exact nomatch (show false = true from h)
        | _ => exact nomatch (show false = true from h)
    | _ => exact nomatch (show false = true from h)
  | _ => exact nomatch (show false = true from h)
theorem v_stc {g : Str} {a : E} {c : Ctx} {e : Expr} (h : chkE t (.stc g a) c e = true) : ∃ y q sp p, e = .Call (.Name g q) [.Starred y sp] [] p ∧ gloB c g = true ∧ (t.fns.any fun p => sEq p.1 g) = true ∧ chkE t a c y = true := by
  cases e with
  | Call f as kws p =>
    cases f with
    | Name x q =>
      cases as with
      | nil => exact nomatch (show false = true from h)
      | cons y as =>
        cases y with
        | Starred y sp =>
          cases as with
          | cons _ _ => exact nomatch (show false = true from h)
          | nil =>
            cases kws with
            | cons _ _ => exact nomatch (show false = true from h)
            | nil =>
              obtain ⟨h, h4⟩ := and_t h
              obtain ⟨h, h3⟩ := and_t h
              obtain ⟨h1, h2⟩ := and_t h
              obtain rfl := sEq_t h1
              exact ⟨y, q, sp, p, rfl, h2, h3, h4⟩
        | _ => exact nomatch (show false = true from h)
    | _ => exact nomatch (show false = true from h)
  | _ => exact nomatch (show false = true from h)
end
end Pv
namespace Pv
open PySem PySem.Spec L2
/-! ## every expression -/
section
variable {t : Tab} {Φ : Phi} {k : Nat} {c : Ctx} {X : Cx}
theorem fold_of {e : Expr} {env : PySem.Env} (h : noSet e = true) : ∀ x, foldedSetIterable e env x = pure x := by
  cases e <;> first | exact fun _ => rfl | exact nomatch h
theorem s_comp (C : COk t Φ k c X) {elt it ifs : E} {tg : Tg} {vs : List Nat} {y g iter : Expr} {fs : List Expr} {scope : Scope} {p : Pos} (hI : PI X g iter (tIt Φ X.K it)) (hn : noSet iter = true)
    (hb : blkC c.N c.sc scope (ownOf c.N vs) = true) (hv : (ownOf c.N vs).map (·.2) = vs) (hs : ∀ i, i ∈ tg.sl → i ∈ vs) (nd : vs.Nodup) (hG : chkTg (blkCtx c scope) tg g = true)
    (hF : ∀ Y : Cx, COk t Φ k (blkCtx c scope) Y → PTs Y fs (tT Φ Y.K ifs)) (hE : ∀ Y : Cx, COk t Φ k (blkCtx c scope) Y → PE Y y (tE Φ Y.K elt)) :
    PE X (.ListComp y [⟨g, iter, fs, 0⟩] scope p) (tE Φ X.K (.comp elt tg it ifs vs)) := by
  have ok : BlkOk X.N X.env.scope scope (ownOf c.N vs) := by
    rw [C.hN, C.sc]
    exact blkOk_by hb
  have z := pe_lc (pos := p) C.calm C.nd hI ok (g := gT X.K tg) (tt := tT Φ X.K ifs) (te := tE Φ X.K elt) (fun s H Cd cl fp => (g_all (C.blk s H scope Cd cl fp) tg).1 g hG)
    (fun s H Cd cl fp => hF _ (C.blk s H scope Cd cl fp)) (fun s H Cd cl fp => hE _ (C.blk s H scope Cd cl fp)) (fold_of hn)
  rw [hv] at z
  exact z.imp fun σ H Q h => lc_read nd hs h
theorem sw_of {elt : Expr} {gs : List Comprehension} {scope : Scope} {pos py : Pos} {y : Str} {l : Nat} {env : PySem.Env} (hk : env.scope.kind = .function) (hy : env.scope.names.lookup y = some .local) (hl : (py.line == pos.line) = true)
    (ha : (scope.names.any fun (n, k) => n == y && (k == .local || k == .cell)) = false) : swapsWith (.ListComp elt gs scope pos) (some (.Name y py)) l env = pure true := sw_true hk hy hl ha
/-- what the looks give -/
structure All (t : Tab) (Φ : Phi) (k : Nat) (i : E) : Prop where
  ae : ∀ {c : Ctx} {X : Cx}, COk t Φ k c X → ∀ {e : Expr}, chkE t i c e = true → PE X e (tE Φ X.K i)
  aq : ∀ {c : Ctx} {X : Cx}, COk t Φ k c X → ∀ {e : Expr}, chkT t i c e = true → PT X e (tT Φ X.K i)
  aw : ∀ {c : Ctx} {X : Cx}, COk t Φ k c X → ∀ {o : BoolOp} {es : List Expr} {p : Pos}, chkT t i c (.BoolOp o es p) = true → PW X (.BoolOp o es p) (tT Φ X.K i)
  ao : ∀ {c : Ctx} {X : Cx}, COk t Φ k c X → ∀ {es : List Expr}, chkO t i c es = true → PA X es (tOs Φ X.K i) ∧ PA X es (tF Φ X.K i) ∧ PA X es (tL Φ X.K i)
  ab : ∀ {c : Ctx} {X : Cx}, COk t Φ k c X → ∀ {o : Option Expr}, chkB t i c o = true → PO X o (tBd Φ X.K i)
  ar : ∀ {c : Ctx} {X : Cx}, COk t Φ k c X → ∀ {e : Expr}, chkR t i c e = true → PRg X e (tRg Φ X.K i)
  ai : ∀ {c : Ctx} {X : Cx}, COk t Φ k c X → ∀ {tg e : Expr}, chkI t i c tg e = true → PI X tg e (tIt Φ X.K i)
/-- .. a list only -/
theorem All.ofO {i : E} (h : ∀ {c : Ctx} {X : Cx}, COk t Φ k c X → ∀ {es : List Expr}, chkO t i c es = true → PA X es (tOs Φ X.K i) ∧ PA X es (tF Φ X.K i) ∧ PA X es (tL Φ X.K i))
    (h1 : ∀ c e, chkE t i c e = false) (h2 : ∀ c e, chkT t i c e = false) (h3 : ∀ c e, chkB t i c e = false) (h4 : ∀ c e, chkR t i c e = false) (h5 : ∀ c g e, chkI t i c g e = false) : All t Φ k i where
  ao := h
  ae := fun {_ _} _ {e} z => by rw [h1] at z; cases z
  aq := fun {_ _} _ {e} z => by rw [h2] at z; cases z
  aw := fun {_ _} _ {_ _ _} z => by rw [h2] at z; cases z
  ab := fun {_ _} _ {e} z => by rw [h3] at z; cases z
  ar := fun {_ _} _ {e} z => by rw [h4] at z; cases z
  ai := fun {_ _} _ {g e} z => by rw [h5] at z; cases z
/-- .. what is walked, a bound -/
theorem All.ofI {i : E} (hi : ∀ {c : Ctx} {X : Cx}, COk t Φ k c X → ∀ {tg e : Expr}, chkI t i c tg e = true → PI X tg e (tIt Φ X.K i))
    (hr : ∀ {c : Ctx} {X : Cx}, COk t Φ k c X → ∀ {e : Expr}, chkR t i c e = true → PRg X e (tRg Φ X.K i))
    (hb : ∀ {c : Ctx} {X : Cx}, COk t Φ k c X → ∀ {o : Option Expr}, chkB t i c o = true → PO X o (tBd Φ X.K i))
    (h1 : ∀ c e, chkE t i c e = false) (h2 : ∀ c e, chkT t i c e = false) (h3 : ∀ c e, chkO t i c e = false) : All t Φ k i where
  ai := hi
  ar := hr
  ab := hb
  ae := fun {_ _} _ {e} z => by rw [h1] at z; cases z
  aq := fun {_ _} _ {e} z => by rw [h2] at z; cases z
  aw := fun {_ _} _ {_ _ _} z => by rw [h2] at z; cases z
  ao := fun {_ _} _ {e} z => by rw [h3] at z; cases z
theorem COk.va (C : COk t Φ k c X) {j : Nat} {e : Expr} (h : chkE t (.var j) c e = true) : PE X e (tVar j) := by
  obtain ⟨x, p, rfl, h⟩ := v_var h
  exact C.pvar h
theorem All.op {i : E} (A : All t Φ k i) (C : COk t Φ k c X) {e : Expr} (h : chkE t i c e = true) : PE X e (tO Φ X.K i) := s_op (A.ae C h) fun j ej => by
  subst ej
  exact C.va h
/-- an expression that is a value only -/
theorem All.ofE {i : E} (h : ∀ {c : Ctx} {X : Cx}, COk t Φ k c X → ∀ {e : Expr}, chkE t i c e = true → PE X e (tE Φ X.K i))
    (h1 : ∀ c e, chkT t i c e = false) (h2 : ∀ c e, chkO t i c e = false) (h3 : ∀ c e, chkB t i c e = false) (h4 : ∀ c e, chkR t i c e = false) (h5 : ∀ c g e, chkI t i c g e = false) : All t Φ k i where
  ae := h
  aq := fun {_ _} _ {e} z => by rw [h1] at z; cases z
  aw := fun {_ _} _ {_ _ _} z => by rw [h1] at z; cases z
  ao := fun {_ _} _ {e} z => by rw [h2] at z; cases z
  ab := fun {_ _} _ {e} z => by rw [h3] at z; cases z
  ar := fun {_ _} _ {e} z => by rw [h4] at z; cases z
  ai := fun {_ _} _ {g e} z => by rw [h5] at z; cases z
/-- .. a test only -/
theorem All.ofT {i : E} (h : ∀ {c : Ctx} {X : Cx}, COk t Φ k c X → ∀ {e : Expr}, chkT t i c e = true → PT X e (tT Φ X.K i) ∧ ∀ {o : BoolOp} {es : List Expr} {p : Pos}, e = .BoolOp o es p → PW X e (tT Φ X.K i))
    (h1 : ∀ c e, chkE t i c e = false) (h2 : ∀ c e, chkO t i c e = false) (h3 : ∀ c e, chkB t i c e = false) (h4 : ∀ c e, chkR t i c e = false) (h5 : ∀ c g e, chkI t i c g e = false) : All t Φ k i where
  aq := fun {_ _} C {_} z => (h C z).1
  aw := fun {_ _} C {_ _ _} z => (h C z).2 rfl
  ae := fun {_ _} _ {e} z => by rw [h1] at z; cases z
  ao := fun {_ _} _ {e} z => by rw [h2] at z; cases z
  ab := fun {_ _} _ {e} z => by rw [h3] at z; cases z
  ar := fun {_ _} _ {e} z => by rw [h4] at z; cases z
  ai := fun {_ _} _ {g e} z => by rw [h5] at z; cases z
theorem o_len : ∀ {i : E} {c : Ctx} {es : List Expr}, chkO t i c es = true → ∀ {Φ : Phi} {ρ ρ1 : Env} {os : List Op}, evOs Φ i ρ = some (os, ρ1) → os.length = es.length := by
  intro i
  induction i with
  | nil =>
    intro c es h Φ ρ ρ1 os ev
    obtain rfl := v_onil h
    cases ev
    rfl
  | cons a b iha ihb =>
    intro c es h Φ ρ ρ1 os ev
    obtain ⟨y, ys, rfl, h1, h2, h3⟩ := v_ocons h
    obtain ⟨⟨x, ρa⟩, e1, ev⟩ := bnd ev
    obtain ⟨⟨xs, ρb⟩, e2, ev⟩ := bnd ev
    cases ev
    rw [List.length_cons, List.length_cons, ihb h3 e2]
  | _ => intro c es h; exact nomatch (show false = true from h)
theorem nm_pv {e : Expr} {j : Nat} (C : COk t Φ k c X) {a : E} (h : chkE t a c e = true) : ∀ j, a = .var j → PE X e (tVar j) := fun j ej => by
  subst ej
  exact C.va h
theorem last_of {o1 o2 : CmpOp} {m r : Expr} (h1 : noSet m = true) (h2 : noSet r = true) : lastMarks [o1, o2] [m, r] = false := by
  cases r <;> first | rfl | exact nomatch h2
theorem star_R {a : E} {e : Expr} (z : chkR t a c e = true) : isStar e = false := by
  cases e <;> first | rfl | (exfalso; cases a <;> exact nomatch (show false = true from z))
theorem lrg_E {b : Bool} {a : E} (iha : All t Φ k a) (C : COk t Φ k c X) {e : Expr} (h : chkE t (.lrg b a) c e = true) : PE X e (tE Φ X.K (.lrg b a)) := by
  cases b with
  | true =>
    obtain ⟨y, q, p, rfl, h1, h2⟩ := v_lrg_true h
    exact s_lrg C rfl h1 (star_R h2) (iha.ar C h2)
  | false =>
    obtain ⟨y, q, p, rfl, h1, h2⟩ := v_lrg_false h
    exact s_lrg C rfl h1 (star_R h2) (iha.ar C h2)
theorem tests_E {ifs : E} (ihf : All t Φ k ifs) {fs : List Expr} {c : Ctx} (h8 : (fs = [] ∧ isYes ifs = true) ∨ ∃ f, fs = [f] ∧ chkT t ifs c f = true) {Y : Cx} (CY : COk t Φ k c Y) : PTs Y fs (tT Φ Y.K ifs) := by
  rcases h8 with ⟨rfl, h8⟩ | ⟨f, rfl, h8⟩
  · cases ifs with
    | tyes =>
      refine ⟨fun pins s σ H Q I ⟨F, ρ, b, ρ1, g, ev, q⟩ => pts_nil.run pins s σ H Q I ?_⟩
      cases ev
      exact q F H Step.refl g
    | _ => exact nomatch (show false = true from h8)
  · exact pts_one (ihf.aq CY h8)
theorem comp_E {elt : E} {tg : Tg} {it ifs : E} {vs : List Nat} (ihe : All t Φ k elt) (ihi : All t Φ k it) (ihf : All t Φ k ifs) (C : COk t Φ k c X) {e : Expr} (h : chkE t (.comp elt tg it ifs vs) c e = true) : PE X e (tE Φ X.K (.comp elt tg it ifs vs)) := by
  obtain ⟨y, g, iter, fs, scope, p, rfl, h1, h2, h3, h4, h5, h6, h7, h8, h9⟩ := v_comp h
  exact s_comp C (ihi.ai C h1) h2 h3 h4 h5 h6 h7 (fun Y CY => tests_E ihf h8 CY) fun Y CY => ihe.ae CY h9
theorem isi_E {a : E} {ts : List Ty} (iha : All t Φ k a) (C : COk t Φ k c X) {e : Expr} (h : chkE t (.isi a ts) c e = true) : PE X e (tE Φ X.K (.isi a ts)) := by
  obtain ⟨y, f, q, p, rfl, h1, h2, h3, h4⟩ := v_isi h
  by_cases hf : ∃ es kk pos, f = .Tuple es kk pos
  · obtain ⟨es, kk, pos, rfl⟩ := hf
    obtain ⟨h5, h6⟩ := and_t h4
    exact s_isiT C rfl h1 h3 h5 (of_decide_eq_true h6) (iha.op C h2)
  · cases ts with
    | nil => exfalso; cases f <;> first | exact absurd ⟨_, _, _, rfl⟩ hf | exact nomatch (show false = true from h4)
    | cons z zs =>
      cases zs with
      | nil =>
        have h5 : chkTy t c z f = true := by cases f <;> first | exact absurd ⟨_, _, _, rfl⟩ hf | exact h4
        exact s_isi1 C rfl h1 h3 h5 (iha.op C h2)
      | cons _ _ => exfalso; cases f <;> first | exact absurd ⟨_, _, _, rfl⟩ hf | exact nomatch (show false = true from h4)
theorem all_E (i : E) : All t Φ k i := by
  induction i with
  | var j => exact .ofE (fun {_ _} C {_} h => s_var (C.va h)) (fun _ _ => rfl) (fun _ _ => rfl) (fun _ _ => rfl) (fun _ _ => rfl) (fun _ _ _ => rfl)
  | mv j => exact .ofE (fun {_ _} C {_} h => by
      obtain ⟨x, p, rfl, h⟩ := v_mv h
      exact s_mv (C.pvar h)) (fun _ _ => rfl) (fun _ _ => rfl) (fun _ _ => rfl) (fun _ _ => rfl) (fun _ _ _ => rfl)
  | num z => exact .ofE (fun {_ _} C {_} h => by
      obtain ⟨x, p, rfl⟩ := v_num h
      exact s_con pe_int (fun _ => .int _) fun _ => rfl) (fun _ _ => rfl) (fun _ _ => rfl) (fun _ _ => rfl) (fun _ _ => rfl) (fun _ _ _ => rfl)
  | bl z => exact .ofE (fun {_ _} C {_} h => by
      obtain ⟨x, p, rfl⟩ := v_bl h
      exact s_con pe_bl (fun _ => .bl _) fun _ => rfl) (fun _ _ => rfl) (fun _ _ => rfl) (fun _ _ => rfl) (fun _ _ => rfl) (fun _ _ _ => rfl)
  | non => exact .ofE (fun {_ _} C {_} h => by
      obtain ⟨x, p, rfl⟩ := v_non h
      exact s_con pe_non (fun _ => .non) fun _ => rfl) (fun _ _ => rfl) (fun _ _ => rfl) (fun _ _ => rfl) (fun _ _ => rfl) (fun _ _ _ => rfl)
  | str z => exact .ofE (fun {_ _} C {_} h => by
      obtain ⟨x, p, rfl⟩ := v_str h
      exact s_con pe_str (fun _ => .str _) fun _ => rfl) (fun _ _ => rfl) (fun _ _ => rfl) (fun _ _ => rfl) (fun _ _ => rfl) (fun _ _ _ => rfl)
  | cst x z => exact .ofE (fun {_ _} C {_} h => by
      obtain ⟨p, rfl, h1, h2⟩ := v_cst h
      obtain ⟨g1, g2⟩ := C.glob h1
      obtain ⟨q, hq, h3⟩ := List.any_eq_true.mp h2
      obtain ⟨e1, e2⟩ := and_t h3
      obtain ⟨tk, hm⟩ := C.cs q hq
      rw [sEq_t e1, (of_decide_eq_true e2 : q.2 = z)] at hm
      exact s_con (pe_glob (v := .int z) g1 hm ⟨_, rfl⟩ g2) (fun _ => .int _) fun _ => rfl) (fun _ _ => rfl) (fun _ _ => rfl) (fun _ _ => rfl) (fun _ _ => rfl) (fun _ _ _ => rfl)
  | bin op a b iha ihb => exact .ofE (fun {_ _} C {_} h => by
      obtain ⟨l, r, p, rfl, h1, h2⟩ := v_bin h
      exact s_bin (iha.op C h1) (ihb.op C h2)) (fun _ _ => rfl) (fun _ _ => rfl) (fun _ _ => rfl) (fun _ _ => rfl) (fun _ _ _ => rfl)
  | neg a iha => exact .ofE (fun {_ _} C {_} h => by
      obtain ⟨l, p, rfl, h1⟩ := v_neg h
      exact s_neg (iha.op C h1)) (fun _ _ => rfl) (fun _ _ => rfl) (fun _ _ => rfl) (fun _ _ => rfl) (fun _ _ _ => rfl)
  | cmp op a b iha ihb => exact .ofE (fun {_ _} C {_} h => by
      obtain ⟨l, r, p, rfl, h1, h2, h3⟩ := v_cmp h
      exact s_cmp C h3 (iha.op C h1) (ihb.op C h2)) (fun _ _ => rfl) (fun _ _ => rfl) (fun _ _ => rfl) (fun _ _ => rfl) (fun _ _ _ => rfl)
  | chain o1 o2 a b d iha ihb ihd => exact .ofE (fun {_ _} C {_} h => by
      obtain ⟨l, m, r, p, rfl, h1, h2, h3, h4, h5⟩ := v_chain h
      exact s_chain C h4 h5 (iha.op C h1) (ihb.op C h2) (ihd.op C h3) (pe_chain (on_cmp C.u65 o1) (on_cmp C.u65 o2) (iha.op C h1) (ihb.op C h2) (ihd.op C h3) (last_of h4 h5))) (fun _ _ => rfl) (fun _ _ => rfl) (fun _ _ => rfl) (fun _ _ => rfl) (fun _ _ _ => rfl)
  | and_ a b iha ihb => exact .ofE (fun {_ _} C {_} h => by
      obtain ⟨x, y, r, p, rfl, h1, h2⟩ := v_and h
      rcases h2 with ⟨rfl, h2⟩ | h2
      · exact s_and (iha.ae C h1) (pe_one (ihb.ae C h2))
      · exact s_and (iha.ae C h1) (ihb.ae C h2)) (fun _ _ => rfl) (fun _ _ => rfl) (fun _ _ => rfl) (fun _ _ => rfl) (fun _ _ _ => rfl)
  | or_ a b iha ihb => exact .ofE (fun {_ _} C {_} h => by
      obtain ⟨x, y, r, p, rfl, h1, h2⟩ := v_or h
      rcases h2 with ⟨rfl, h2⟩ | h2
      · exact s_or (iha.ae C h1) (pe_one (ihb.ae C h2))
      · exact s_or (iha.ae C h1) (ihb.ae C h2)) (fun _ _ => rfl) (fun _ _ => rfl) (fun _ _ => rfl) (fun _ _ => rfl) (fun _ _ _ => rfl)
  | not_ a iha => exact .ofE (fun {_ _} C {_} h => by
      obtain ⟨l, p, rfl, h1⟩ := v_not h
      exact s_not (iha.op C h1)) (fun _ _ => rfl) (fun _ _ => rfl) (fun _ _ => rfl) (fun _ _ => rfl) (fun _ _ _ => rfl)
  | ife d a b ihd iha ihb => exact .ofE (fun {_ _} C {_} h => by
      obtain ⟨x, l, r, p, rfl, h1, h2, h3⟩ := v_ife h
      exact s_ife (ihd.aq C h1) (iha.ae C h2) (ihb.ae C h3)) (fun _ _ => rfl) (fun _ _ => rfl) (fun _ _ => rfl) (fun _ _ => rfl) (fun _ _ _ => rfl)
  | tup a iha => exact .ofE (fun {_ _} C {_} h => by
      obtain ⟨l, kk, p, rfl, h1⟩ := v_tup h
      exact s_tup (iha.ao C h1).2.1) (fun _ _ => rfl) (fun _ _ => rfl) (fun _ _ => rfl) (fun _ _ => rfl) (fun _ _ _ => rfl)
  | lst a iha => exact .ofE (fun {_ _} C {_} h => by
      obtain ⟨l, p, rfl, h1⟩ := v_lst h
      exact s_lst (iha.ao C h1).2.1) (fun _ _ => rfl) (fun _ _ => rfl) (fun _ _ => rfl) (fun _ _ => rfl) (fun _ _ _ => rfl)
  | idx a b iha ihb => exact .ofE (fun {_ _} C {_} h => by
      obtain ⟨l, r, p, rfl, h1, h2, h3⟩ := v_idx h
      exact s_idx h3 (iha.op C h1) (ihb.op C h2)) (fun _ _ => rfl) (fun _ _ => rfl) (fun _ _ => rfl) (fun _ _ => rfl) (fun _ _ _ => rfl)
  | slc a lo hi iha ihl ihh => exact .ofE (fun {_ _} C {_} h => by
      obtain ⟨l, u, v, q, p, rfl, h1, h2, h3⟩ := v_slc h
      exact s_slc (iha.op C h1) (ihl.ab C h2) (ihh.ab C h3)) (fun _ _ => rfl) (fun _ _ => rfl) (fun _ _ => rfl) (fun _ _ => rfl) (fun _ _ _ => rfl)
  | rev a iha => exact .ofE (fun {_ _} C {_} h => by
      obtain ⟨l, kk, q1, q2, q3, p, rfl, h1⟩ := v_rev h
      exact s_rev (iha.op C h1)) (fun _ _ => rfl) (fun _ _ => rfl) (fun _ _ => rfl) (fun _ _ => rfl) (fun _ _ _ => rfl)
  | call f es ih => exact .ofE (fun {_ _} C {_} h => by
      obtain ⟨y, ys, q, p, rfl, h1, h2, h3, h4⟩ := v_call h
      exact s_call C rfl h1 h2 h4 (ih.ao C h3).2.2) (fun _ _ => rfl) (fun _ _ => rfl) (fun _ _ => rfl) (fun _ _ => rfl) (fun _ _ _ => rfl)
  | bi b es ih => exact .ofE (fun {_ _} C {_} h => by
      obtain ⟨as, q, p, rfl, h1, h2, h3, h4⟩ := v_bi h
      cases as with
      | nil => cases b <;> cases h3
      | cons y ys => exact s_bi C rfl h1 h4 (ih.ao C h2).1 h3 fun ρ os ρ1 ev => o_len h2 ev) (fun _ _ => rfl) (fun _ _ => rfl) (fun _ _ => rfl) (fun _ _ => rfl) (fun _ _ _ => rfl)
  | isi a ts iha => exact .ofE (fun {_ _} C {_} h => isi_E iha C h) (fun _ _ => rfl) (fun _ _ => rfl) (fun _ _ => rfl) (fun _ _ => rfl) (fun _ _ _ => rfl)
  | mt m o es iho ihe => exact .ofE (fun {_ _} C {_} h => by
      obtain ⟨l, ap, y, p, rfl, h1, h2, h3, h4, h5⟩ := v_mt h
      exact s_mt C rfl h2 h5 h4 (iho.op C h1) (ihe.ao C h3).1) (fun _ _ => rfl) (fun _ _ => rfl) (fun _ _ => rfl) (fun _ _ => rfl) (fun _ _ _ => rfl)
  | pop i => exact .ofE (fun {_ _} C {_} h => by
      obtain ⟨y, yp, ap, p, rfl, h1, h2⟩ := v_pop h
      exact s_pop C rfl h1 h2) (fun _ _ => rfl) (fun _ _ => rfl) (fun _ _ => rfl) (fun _ _ => rfl) (fun _ _ _ => rfl)
  | lrg b a iha => exact .ofE (fun {_ _} C {_} h => lrg_E iha C h) (fun _ _ => rfl) (fun _ _ => rfl) (fun _ _ => rfl) (fun _ _ => rfl) (fun _ _ _ => rfl)
  | comp elt tg it ifs vs ihe ihi ihf => exact .ofE (fun {_ _} C {_} h => comp_E ihe ihi ihf C h) (fun _ _ => rfl) (fun _ _ => rfl) (fun _ _ => rfl) (fun _ _ => rfl) (fun _ _ _ => rfl)
  | nil => exact .ofO (fun {_ _} C {es} h => by
      obtain rfl := v_onil h
      exact ⟨o_nil, f_nil, l_nil⟩) (fun _ _ => rfl) (fun _ _ => rfl) (fun _ _ => rfl) (fun _ _ => rfl) (fun _ _ _ => rfl)
  | cons a b iha ihb => exact .ofO (fun {_ _} C {es} h => by
      obtain ⟨y, ys, rfl, h1, h2, h3⟩ := v_ocons h
      exact ⟨o_cons h2 (iha.op C h1) (ihb.ao C h3).1, f_cons h2 (iha.ae C h1) (ihb.ao C h3).2.1, l_cons h2 (iha.ae C h1) (fun j ej => by subst ej; exact C.va h1) (ihb.ao C h3).2.2⟩) (fun _ _ => rfl) (fun _ _ => rfl) (fun _ _ => rfl) (fun _ _ => rfl) (fun _ _ _ => rfl)
  | tt a iha => exact .ofT (fun {_ _} C {e} h => by
      obtain ⟨h1, h2⟩ := v_tt h
      refine ⟨t_tt h2 (iha.op C h1), fun {o es p} e1 => ?_⟩
      subst e1
      exact nomatch (show false = true from h2)) (fun _ _ => rfl) (fun _ _ => rfl) (fun _ _ => rfl) (fun _ _ => rfl) (fun _ _ _ => rfl)
  | tcmp op a b iha ihb => exact .ofT (fun {_ _} C {e} h => by
      obtain ⟨l, r, p, rfl, h1, h2, h3⟩ := v_tcmp h
      exact ⟨t_cmp C h3 (iha.op C h1) (ihb.op C h2), fun {o es p} e1 => nomatch e1⟩) (fun _ _ => rfl) (fun _ _ => rfl) (fun _ _ => rfl) (fun _ _ => rfl) (fun _ _ _ => rfl)
  | tchain o1 o2 a b d iha ihb ihd => exact .ofT (fun {_ _} C {_} h => by
      obtain ⟨l, m, r, p, rfl, h1, h2, h3, h4, h5⟩ := v_tchain h
      exact ⟨t_chain C (iha.op C h1) (ihb.op C h2) (ihd.op C h3) (pt_chain (on_cmp C.u65 o1) (on_cmp C.u65 o2) (iha.op C h1) (ihb.op C h2) (ihd.op C h3) (last_of h4 h5)), fun {o es p} e1 => nomatch e1⟩) (fun _ _ => rfl) (fun _ _ => rfl) (fun _ _ => rfl) (fun _ _ => rfl) (fun _ _ _ => rfl)
  | tand a b iha ihb => exact .ofT (fun {_ Y} C {_} h => by
      obtain ⟨x, y, r, p, rfl, h1, h2⟩ := v_tand h
      have z : PW Y (.BoolOp .And (x :: y :: r) p) (tT Φ Y.K (.tand a b)) := by
        rcases h2 with ⟨rfl, h2⟩ | h2
        · exact t_and (iha.aq C h1) (pw_and1 (ihb.aq C h2))
        · exact t_and (iha.aq C h1) (ihb.aw C h2)
      exact ⟨z.pt, fun {o es p} e1 => z⟩) (fun _ _ => rfl) (fun _ _ => rfl) (fun _ _ => rfl) (fun _ _ => rfl) (fun _ _ _ => rfl)
  | tor a b iha ihb => exact .ofT (fun {_ Y} C {_} h => by
      obtain ⟨x, y, r, p, rfl, h1, h2⟩ := v_tor h
      have z : PW Y (.BoolOp .Or (x :: y :: r) p) (tT Φ Y.K (.tor a b)) := by
        rcases h2 with ⟨rfl, h2⟩ | h2
        · exact t_or (iha.aq C h1) (pw_or1 (ihb.aq C h2))
        · exact t_or (iha.aq C h1) (ihb.aw C h2)
      exact ⟨z.pt, fun {o es p} e1 => z⟩) (fun _ _ => rfl) (fun _ _ => rfl) (fun _ _ => rfl) (fun _ _ => rfl) (fun _ _ _ => rfl)
  | tnot a iha => exact .ofT (fun {_ _} C {_} h => by
      obtain ⟨l, p, rfl, h1⟩ := v_tnot h
      exact ⟨t_not (iha.aq C h1), fun {o es p} e1 => nomatch e1⟩) (fun _ _ => rfl) (fun _ _ => rfl) (fun _ _ => rfl) (fun _ _ => rfl) (fun _ _ _ => rfl)
  | tyes => exact .ofE (fun {_ _} C {_} h => (nomatch (show false = true from h))) (fun _ _ => rfl) (fun _ _ => rfl) (fun _ _ => rfl) (fun _ _ => rfl) (fun _ _ _ => rfl)
  | dnew b => exact .ofE (fun {_ _} C {_} h => by
      obtain ⟨p, rfl⟩ := v_dnew h
      exact s_dnew) (fun _ _ => rfl) (fun _ _ => rfl) (fun _ _ => rfl) (fun _ _ => rfl) (fun _ _ _ => rfl)
  | dget i a iha => exact .ofE (fun {_ _} C {_} h => by
      obtain ⟨x, q, r, p, rfl, h1, h2, h3⟩ := v_dget h
      exact s_dget C (C.pvar h1) h3 (iha.op C h2)) (fun _ _ => rfl) (fun _ _ => rfl) (fun _ _ => rfl) (fun _ _ => rfl) (fun _ _ _ => rfl)
  | din n i a iha => exact .ofE (fun {_ _} C {_} h => by
      obtain ⟨l, x, q, p, rfl, h1, h2⟩ := v_din h
      exact s_din C (C.pvar h2) (iha.op C h1)) (fun _ _ => rfl) (fun _ _ => rfl) (fun _ _ => rfl) (fun _ _ => rfl) (fun _ _ _ => rfl)
  | tdin n i a iha => exact .ofT (fun {_ _} C {_} h => by
      obtain ⟨l, x, q, p, rfl, h1, h2⟩ := v_tdin h
      exact ⟨t_din C (C.pvar h2) (iha.op C h1), fun {o es p} e1 => nomatch e1⟩) (fun _ _ => rfl) (fun _ _ => rfl) (fun _ _ => rfl) (fun _ _ => rfl) (fun _ _ _ => rfl)
  | dsort i => exact .ofE (fun {_ _} C {_} h => by
      obtain ⟨y, q, py, p, rfl, h1, h2⟩ := v_dsort h
      exact s_dsort C rfl h1 (C.pvar h2)) (fun _ _ => rfl) (fun _ _ => rfl) (fun _ _ => rfl) (fun _ _ => rfl) (fun _ _ _ => rfl)
  | dlen i => exact .ofE (fun {_ _} C {_} h => by
      obtain ⟨y, q, py, p, rfl, h1, h2⟩ := v_dlen h
      exact s_dlen C rfl h1 (C.pvar h2)) (fun _ _ => rfl) (fun _ _ => rfl) (fun _ _ => rfl) (fun _ _ => rfl) (fun _ _ _ => rfl)
  | bits a iha => exact .ofE (fun {_ _} C {_} h => by
      obtain ⟨l, ap, p, rfl, h1, h2, h3⟩ := v_bits h
      exact s_bits rfl h2 h3 (iha.op C h1)) (fun _ _ => rfl) (fun _ _ => rfl) (fun _ _ => rfl) (fun _ _ => rfl) (fun _ _ _ => rfl)
  | sset a iha => exact .ofE (fun {_ _} C {_} h => by
      obtain ⟨y, py, q, p2, p, rfl, h1, h2, h3, h4⟩ := v_sset h
      exact s_sset C rfl h1 rfl h2 h4 (iha.op C h3)) (fun _ _ => rfl) (fun _ _ => rfl) (fun _ _ => rfl) (fun _ _ => rfl) (fun _ _ _ => rfl)
  | stc f a iha => exact .ofE (fun {_ _} C {_} h => by
      obtain ⟨y, q, sp, p, rfl, h1, h2, h3⟩ := v_stc h
      exact s_stc C rfl h1 h2 (iha.op C h3)) (fun _ _ => rfl) (fun _ _ => rfl) (fun _ _ => rfl) (fun _ _ => rfl) (fun _ _ _ => rfl)
  | it a iha => exact .ofI (fun {_ _} C {_ _} h => i_it (iha.ae C h)) (fun {_ _} C {_} h => (nomatch (show false = true from h))) (fun {_ _} C {_} h => by
      obtain ⟨y, rfl, h1⟩ := v_bit h
      exact b_it (iha.op C h1)) (fun _ _ => rfl) (fun _ _ => rfl) (fun _ _ => rfl)
  | rng1 a iha => exact .ofI (fun {_ _} C {_ _} h => by
      obtain ⟨y, q, p, rfl, h1, h2, h3⟩ := v_i1 h
      exact i_r1 C rfl h1 h3 (iha.op C h2)) (fun {_ _} C {_} h => by
      obtain ⟨y, q, p, rfl, h1, h2, h3⟩ := v_r1 h
      exact r_1 C rfl h1 h3 (iha.op C h2)) (fun {_ _} C {_} h => (nomatch (show false = true from h))) (fun _ _ => rfl) (fun _ _ => rfl) (fun _ _ => rfl)
  | rng2 a b iha ihb => exact .ofI (fun {_ _} C {_ _} h => by
      obtain ⟨y, z, q, p, rfl, h1, h2, h3, h4, h5⟩ := v_i2 h
      exact i_r2 C rfl h1 h4 h5 (iha.op C h2) (ihb.op C h3)) (fun {_ _} C {_} h => by
      obtain ⟨y, z, q, p, rfl, h1, h2, h3, h4, h5⟩ := v_r2 h
      exact r_2 C rfl h1 h4 h5 (iha.op C h2) (ihb.op C h3)) (fun {_ _} C {_} h => (nomatch (show false = true from h))) (fun _ _ => rfl) (fun _ _ => rfl) (fun _ _ => rfl)
  | rng3 a b d iha ihb ihd => exact .ofI (fun {_ _} C {_ _} h => by
      obtain ⟨y, z, u, q, p, rfl, h1, h2, h3, h4, h5, h6, h7⟩ := v_i3 h
      exact i_r3 C rfl h1 h5 h6 h7 (iha.op C h2) (ihb.op C h3) (ihd.op C h4)) (fun {_ _} C {_} h => (nomatch (show false = true from h))) (fun {_ _} C {_} h => (nomatch (show false = true from h))) (fun _ _ => rfl) (fun _ _ => rfl) (fun _ _ => rfl)
  | enum a iha => exact .ofI (fun {_ _} C {_ _} h => by
      obtain ⟨y, q, p, rfl, h1, h2, h3, h4⟩ := v_enum h
      exact i_enum C rfl h1 h3 h4 (iha.ae C h2)) (fun {_ _} C {_} h => (nomatch (show false = true from h))) (fun {_ _} C {_} h => (nomatch (show false = true from h))) (fun _ _ => rfl) (fun _ _ => rfl) (fun _ _ => rfl)
  | zip a b iha ihb => exact .ofI (fun {_ _} C {_ _} h => by
      obtain ⟨y, z, q, p, rfl, h1, h2, h3, h4, h5, h6⟩ := v_zip h
      exact i_zip C rfl h1 h4 h5 h6 (iha.ae C h2) (ihb.ae C h3)) (fun {_ _} C {_} h => (nomatch (show false = true from h))) (fun {_ _} C {_} h => (nomatch (show false = true from h))) (fun _ _ => rfl) (fun _ _ => rfl) (fun _ _ => rfl)
  | nob => exact .ofI (fun {_ _} C {_ _} h => (nomatch (show false = true from h))) (fun {_ _} C {_} h => (nomatch (show false = true from h))) (fun {_ _} C {_} h => by
      obtain rfl := v_bnob h
      exact b_nob) (fun _ _ => rfl) (fun _ _ => rfl) (fun _ _ => rfl)
end
end Pv
namespace Pv
open PySem PySem.Spec L2
/-! ## what the looks at statements say -/
section
variable {t : Tab}
theorem w_asg {i : Nat} {e : E} {c : Ctx} {s : Stmt} (h : chkS t (.asg i e) c s = true) : ∃ x py v p, s = .Assign [.Name x py] v p ∧ stoB c i x = true ∧ chkE t e c v = true ∧ asgB c x py v = true := by
  cases s with
  | Assign ts v p =>
    cases ts with
    | nil => exact nomatch (show false = true from h)
    | cons g ts =>
      cases g with
      | Name x py =>
        cases ts with
        | cons _ _ => exact nomatch (show false = true from h)
        | nil =>
          obtain ⟨h, h3⟩ := and_t h
          obtain ⟨h1, h2⟩ := and_t h
          exact ⟨x, py, v, p, rfl, h1, h2, h3⟩
      | _ => exact nomatch (show false = true from h)
  | _ => exact nomatch (show false = true from h)
theorem w_asgF {i : Nat} {e : E} {c : Ctx} {s : Stmt} (h : chkS t (.asgF i e) c s = true) : ∃ x py v p, s = .Assign [.Name x py] v p ∧ stoB c i x = true ∧ chkE t e c v = true ∧ asgB c x py v = true := by
  cases s with
  | Assign ts v p =>
    cases ts with
    | nil => exact nomatch (show false = true from h)
    | cons g ts =>
      cases g with
      | Name x py =>
        cases ts with
        | cons _ _ => exact nomatch (show false = true from h)
        | nil =>
          obtain ⟨h, h3⟩ := and_t h
          obtain ⟨h1, h2⟩ := and_t h
          exact ⟨x, py, v, p, rfl, h1, h2, h3⟩
      | _ => exact nomatch (show false = true from h)
  | _ => exact nomatch (show false = true from h)
theorem w_asgT {tg : Tg} {e : E} {c : Ctx} {s : Stmt} (h : chkS t (.asgT tg e) c s = true) : ∃ es kk q v p, s = .Assign [.Tuple es kk q] v p ∧ chkTg c tg (.Tuple es kk q) = true ∧ chkE t e c v = true ∧ plainV v = true := by
  cases s with
  | Assign ts v p =>
    cases ts with
    | nil => exact nomatch (show false = true from h)
    | cons g ts =>
      cases g with
      | Tuple es kk q =>
        cases ts with
        | cons _ _ => exact nomatch (show false = true from h)
        | nil =>
          obtain ⟨h, h3⟩ := and_t h
          obtain ⟨h1, h2⟩ := and_t h
          exact ⟨es, kk, q, v, p, rfl, h1, h2, h3⟩
      | _ => exact nomatch (show false = true from h)
  | _ => exact nomatch (show false = true from h)
theorem w_setx {i : Nat} {ix e : E} {c : Ctx} {s : Stmt} (h : chkS t (.setx i ix e) c s = true) : ∃ x xp r q v p, s = .Assign [.Subscript (.Name x xp) r q] v p ∧ varB c i x = true ∧ chkE t ix c r = true ∧ plainIx r = true ∧ chkE t e c v = true ∧ (!isComp v) = true := by
  cases s with
  | Assign ts v p =>
    cases ts with
    | nil => exact nomatch (show false = true from h)
    | cons g ts =>
      cases g with
      | Subscript l r q =>
        cases l with
        | Name x xp =>
          cases ts with
          | cons _ _ => exact nomatch (show false = true from h)
          | nil =>
            obtain ⟨h, h5⟩ := and_t h
            obtain ⟨h, h4⟩ := and_t h
            obtain ⟨h, h3⟩ := and_t h
            obtain ⟨h1, h2⟩ := and_t h
            exact ⟨x, xp, r, q, v, p, rfl, h1, h2, h3, h4, h5⟩
        | _ => exact nomatch (show false = true from h)
      | _ => exact nomatch (show false = true from h)
  | _ => exact nomatch (show false = true from h)
theorem w_par {i j : Nat} {a b : E} {c : Ctx} {s : Stmt} (h : chkS t (.par i j a b) c s = true) : ∃ x px y py kt qt v w k2 q2 p, s = .Assign [.Tuple [.Name x px, .Name y py] kt qt] (.Tuple [v, w] k2 q2) p ∧ stoB c i x = true ∧ stoB c j y = true ∧ i ≠ j ∧ chkE t a c v = true ∧ chkE t b c w = true ∧ (!isStar v) = true ∧ (!isStar w) = true ∧ (parA c x y px py v w = true ∨ parB c x y px py v w = true) := by
  cases s with
  | Assign ts v p =>
    cases ts with
    | nil => exact nomatch (show false = true from h)
    | cons g ts =>
      cases g with
      | Tuple es kt qt =>
        cases es with
        | nil => exact nomatch (show false = true from h)
        | cons e1 es =>
          cases e1 with
          | Name x px =>
            cases es with
            | nil => exact nomatch (show false = true from h)
            | cons e2 es =>
              cases e2 with
              | Name y py =>
                cases es with
                | cons _ _ => exact nomatch (show false = true from h)
                | nil =>
                  cases ts with
                  | cons _ _ => exact nomatch (show false = true from h)
                  | nil =>
                    cases v with
                    | Tuple vs k2 q2 =>
                      cases vs with
                      | nil => exact nomatch (show false = true from h)
                      | cons v vs =>
                        cases vs with
                        | nil => exact nomatch (show false = true from h)
                        | cons w vs =>
                          cases vs with
                          | cons _ _ => exact nomatch (show false = true from h)
                          | nil =>
                            obtain ⟨h, h8⟩ := and_t h
                            obtain ⟨h, h7⟩ := and_t h
                            obtain ⟨h, h6⟩ := and_t h
                            obtain ⟨h, h5⟩ := and_t h
                            obtain ⟨h, h4⟩ := and_t h
                            obtain ⟨h, h3⟩ := and_t h
                            obtain ⟨h1, h2⟩ := and_t h
                            exact ⟨x, px, y, py, kt, qt, v, w, k2, q2, p, rfl, h1, h2, of_decide_eq_true h3, h4, h5, h6, h7, Bool.or_eq_true_iff.mp h8⟩
                    | _ => exact nomatch (show false = true from h)
              | _ => exact nomatch (show false = true from h)
          | _ => exact nomatch (show false = true from h)
      | _ => exact nomatch (show false = true from h)
  | _ => exact nomatch (show false = true from h)
theorem w_aug {i : Nat} {op : Operator} {e : E} {c : Ctx} {s : Stmt} (h : chkS t (.aug i op e) c s = true) : ∃ x xp v p, s = .AugAssign (.Name x xp) op v p ∧ augOp op = true ∧ varB c i x = true ∧ stoB c i x = true ∧ chkE t e c v = true := by
  cases s with
  | AugAssign g o v p =>
    cases g with
    | Name x xp =>
      obtain ⟨h, h5⟩ := and_t h
      obtain ⟨h, h4⟩ := and_t h
      obtain ⟨h, h3⟩ := and_t h
      obtain ⟨h1, h2⟩ := and_t h
      obtain rfl : op = o := of_decide_eq_true h2
      exact ⟨x, xp, v, p, rfl, h1, h3, h4, h5⟩
    | _ => exact nomatch (show false = true from h)
  | _ => exact nomatch (show false = true from h)
theorem w_app {i : Nat} {e : E} {c : Ctx} {s : Stmt} (h : chkS t (.app i e) c s = true) : ∃ x xp ap v cp p, s = .Expr (.Call (.Attribute (.Name x xp) "append" ap) [v] [] cp) p ∧ varB c i x = true ∧ chkE t e c v = true ∧ (!isStar v) = true ∧ (ap.endLine == cp.line) = true := by
  cases s with
  | Expr y p =>
    cases y with
    | Call f as kws cp =>
      cases f with
      | Attribute l m ap =>
        cases l with
        | Name x xp =>
          cases as with
          | nil => exact nomatch (show false = true from h)
          | cons v as =>
            cases as with
            | cons _ _ => exact nomatch (show false = true from h)
            | nil =>
              cases kws with
              | cons _ _ => exact nomatch (show false = true from h)
              | nil =>
                obtain ⟨h, h5⟩ := and_t h
                obtain ⟨h, h4⟩ := and_t h
                obtain ⟨h, h3⟩ := and_t h
                obtain ⟨h1, h2⟩ := and_t h
                obtain rfl := sEq_t h1
                exact ⟨x, xp, ap, v, cp, p, rfl, h2, h3, h4, h5⟩
        | _ => exact nomatch (show false = true from h)
      | _ => exact nomatch (show false = true from h)
    | _ => exact nomatch (show false = true from h)
  | _ => exact nomatch (show false = true from h)
theorem w_ext {i : Nat} {e : E} {c : Ctx} {s : Stmt} (h : chkS t (.ext i e) c s = true) : ∃ x xp ap v cp p, s = .Expr (.Call (.Attribute (.Name x xp) "extend" ap) [v] [] cp) p ∧ varB c i x = true ∧ chkE t e c v = true ∧ (!isStar v) = true ∧ (ap.endLine == cp.line) = true := by
  cases s with
  | Expr y p =>
    cases y with
    | Call f as kws cp =>
      cases f with
      | Attribute l m ap =>
        cases l with
        | Name x xp =>
          cases as with
          | nil => exact nomatch (show false = true from h)
          | cons v as =>
            cases as with
            | cons _ _ => exact nomatch (show false = true from h)
            | nil =>
              cases kws with
              | cons _ _ => exact nomatch (show false = true from h)
              | nil =>
                obtain ⟨h, h5⟩ := and_t h
                obtain ⟨h, h4⟩ := and_t h
                obtain ⟨h, h3⟩ := and_t h
                obtain ⟨h1, h2⟩ := and_t h
                obtain rfl := sEq_t h1
                exact ⟨x, xp, ap, v, cp, p, rfl, h2, h3, h4, h5⟩
        | _ => exact nomatch (show false = true from h)
      | _ => exact nomatch (show false = true from h)
    | _ => exact nomatch (show false = true from h)
  | _ => exact nomatch (show false = true from h)
theorem w_ret {e : E} {c : Ctx} {s : Stmt} (h : chkS t (.ret e) c s = true) : ∃ v p, s = .Return (some v) p ∧ chkE t e c v = true := by
  cases s with
  | Return o p =>
    cases o with
    | none => exact nomatch (show false = true from h)
    | some v => exact ⟨v, p, rfl, h⟩
  | _ => exact nomatch (show false = true from h)
theorem w_retN {c : Ctx} {s : Stmt} (h : chkS t .retN c s = true) : ∃ p, s = .Return none p := by
  cases s with
  | Return o p =>
    cases o with
    | some _ => exact nomatch (show false = true from h)
    | none => exact ⟨p, rfl⟩
  | _ => exact nomatch (show false = true from h)
theorem w_if {d : E} {a b : S} {c : Ctx} {s : Stmt} (h : chkS t (.if_ d a b) c s = true) : ∃ x xs ys p, s = .If x xs ys p ∧ chkT t d c x = true ∧ chkSs t a c xs = true ∧ chkSs t b c ys = true := by
  cases s with
  | If x xs ys p =>
    obtain ⟨h, h3⟩ := and_t h
    obtain ⟨h1, h2⟩ := and_t h
    exact ⟨x, xs, ys, p, rfl, h1, h2, h3⟩
  | _ => exact nomatch (show false = true from h)
theorem w_for {tg : Tg} {it : E} {b : S} {c : Ctx} {s : Stmt} (h : chkS t (.for_ tg it b) c s = true) : ∃ g iter body p, s = .For g iter body [] p ∧ chkI t it c g iter = true ∧ noSet iter = true ∧ chkTg c tg g = true ∧ chkSs t b c body = true := by
  cases s with
  | For g iter body oe p =>
    cases oe with
    | cons _ _ => exact nomatch (show false = true from h)
    | nil =>
      obtain ⟨h, h4⟩ := and_t h
      obtain ⟨h, h3⟩ := and_t h
      obtain ⟨h1, h2⟩ := and_t h
      exact ⟨g, iter, body, p, rfl, h1, h2, h3, h4⟩
  | _ => exact nomatch (show false = true from h)
theorem w_while {d : E} {b : S} {c : Ctx} {s : Stmt} (h : chkS t (.while_ d b) c s = true) : ∃ x body p, s = .While x body [] p ∧ chkT t d c x = true ∧ chkSs t b c body = true := by
  cases s with
  | While x body oe p =>
    cases oe with
    | cons _ _ => exact nomatch (show false = true from h)
    | nil =>
      obtain ⟨h1, h2⟩ := and_t h
      exact ⟨x, body, p, rfl, h1, h2⟩
  | _ => exact nomatch (show false = true from h)
theorem w_brk {c : Ctx} {s : Stmt} (h : chkS t .brk c s = true) : ∃ p, s = .Break p := by
  cases s with
  | Break p =>
    exact ⟨p, rfl⟩
  | _ => exact nomatch (show false = true from h)
theorem w_cont {c : Ctx} {s : Stmt} (h : chkS t .cont c s = true) : ∃ p, s = .Continue p := by
  cases s with
  | Continue p =>
    exact ⟨p, rfl⟩
  | _ => exact nomatch (show false = true from h)
theorem w_pass {c : Ctx} {s : Stmt} (h : chkS t .pass c s = true) : ∃ p, s = .Pass p := by
  cases s with
  | Pass p =>
    exact ⟨p, rfl⟩
  | _ => exact nomatch (show false = true from h)
theorem w_drop {e : E} {c : Ctx} {s : Stmt} (h : chkS t (.drop e) c s = true) : ∃ v p, s = .Expr v p ∧ chkE t e c v = true ∧ (!isComp v) = true := by
  cases s with
  | Expr v p =>
    obtain ⟨h1, h2⟩ := and_t h
    exact ⟨v, p, rfl, h1, h2⟩
  | _ => exact nomatch (show false = true from h)
theorem w_skip {c : Ctx} {s : List Stmt} (h : chkSs t .skip c s = true) : s = [] := by
  cases s with
  | nil => rfl
  | cons _ _ => exact nomatch (show false = true from h)
theorem w_seq {a b : S} {c : Ctx} {s : List Stmt} (h : chkSs t (.seq a b) c s = true) : ∃ x xs, s = x :: xs ∧ chkS t a c x = true ∧ chkSs t b c xs = true := by
  cases s with
  | nil => exact nomatch (show false = true from h)
  | cons x xs =>
    obtain ⟨h1, h2⟩ := and_t h
    exact ⟨x, xs, rfl, h1, h2⟩
theorem w_lc {e : E} {c : Ctx} {y : Expr} {gs : List Comprehension} {scope : Scope} {p : Pos} (h : chkE t e c (.ListComp y gs scope p) = true) : ∃ elt tg it ifs vs, e = .comp elt tg it ifs vs := by
  cases e with
  | comp elt tg it ifs vs => exact ⟨elt, tg, it, ifs, vs, rfl⟩
  | lrg b it => cases b <;> exact nomatch (show false = true from h)
  | _ => exact nomatch (show false = true from h)
theorem w_dput {i : Nat} {ix e : E} {c : Ctx} {s : Stmt} (h : chkS t (.dput i ix e) c s = true) : ∃ x xp r q v p, s = .Assign [.Subscript (.Name x xp) r q] v p ∧ varB c i x = true ∧ chkE t ix c r = true ∧ plainIxT r = true ∧ chkE t e c v = true ∧ (!isComp v) = true := by
  cases s with
  | Assign ts v p =>
    cases ts with
    | nil => exact nomatch (show false = true from h)
    | cons g ts =>
      cases g with
      | Subscript l r q =>
        cases l with
        | Name x xp =>
          cases ts with
          | cons _ _ => exact nomatch (show false = true from h)
          | nil =>
            obtain ⟨h, h5⟩ := and_t h
            obtain ⟨h, h4⟩ := and_t h
            obtain ⟨h, h3⟩ := and_t h
            obtain ⟨h1, h2⟩ := and_t h
            exact ⟨x, xp, r, q, v, p, rfl, h1, h2, h3, h4, h5⟩
        | _ => exact nomatch (show false = true from h)
      | _ => exact nomatch (show false = true from h)
  | _ => exact nomatch (show false = true from h)
theorem w_par3 {i j l : Nat} {a b d : E} {c : Ctx} {s : Stmt} (h : chkS t (.par3 i j l a b d) c s = true) : ∃ x px y py z pz kt qt u v w k2 q2 p, s = .Assign [.Tuple [.Name x px, .Name y py, .Name z pz] kt qt] (.Tuple [u, v, w] k2 q2) p ∧ stoB c i x = true ∧ stoB c j y = true ∧ stoB c l z = true ∧ (i ≠ j ∧ i ≠ l ∧ j ≠ l) ∧ chkE t a c u = true ∧ chkE t b c v = true ∧ chkE t d c w = true ∧ (!isStar u) = true ∧ (!isStar v) = true ∧ (!isStar w) = true ∧ par3B c x y z px py pz u v w = true := by
  cases s with
  | Assign ts vv p =>
    cases ts with
    | nil => exact nomatch (show false = true from h)
    | cons g ts =>
      cases g with
      | Tuple es kt qt =>
        cases es with
        | nil => exact nomatch (show false = true from h)
        | cons e1 es =>
          cases e1 with
          | Name x px =>
            cases es with
            | nil => exact nomatch (show false = true from h)
            | cons e2 es =>
              cases e2 with
              | Name y py =>
                cases es with
                | nil => exact nomatch (show false = true from h)
                | cons e3 es =>
                  cases e3 with
                  | Name z pz =>
                    cases es with
                    | cons _ _ => exact nomatch (show false = true from h)
                    | nil =>
                      cases ts with
                      | cons _ _ => exact nomatch (show false = true from h)
                      | nil =>
                        cases vv with
                        | Tuple vs k2 q2 =>
                          cases vs with
                          | nil => exact nomatch (show false = true from h)
                          | cons u vs =>
                            cases vs with
                            | nil => exact nomatch (show false = true from h)
                            | cons v vs =>
                              cases vs with
                              | nil => exact nomatch (show false = true from h)
                              | cons w vs =>
                                cases vs with
                                | cons _ _ => exact nomatch (show false = true from h)
                                | nil =>
                                  obtain ⟨h, h11⟩ := and_t h
                                  obtain ⟨h, h10⟩ := and_t h
                                  obtain ⟨h, h9⟩ := and_t h
                                  obtain ⟨h, h8⟩ := and_t h
                                  obtain ⟨h, h7⟩ := and_t h
                                  obtain ⟨h, h6⟩ := and_t h
                                  obtain ⟨h, h5⟩ := and_t h
                                  obtain ⟨h, h4⟩ := and_t h
                                  obtain ⟨h, h3⟩ := and_t h
                                  obtain ⟨h1, h2⟩ := and_t h
                                  exact ⟨x, px, y, py, z, pz, kt, qt, u, v, w, k2, q2, p, rfl, h1, h2, h3, of_decide_eq_true h4, h5, h6, h7, h8, h9, h10, h11⟩
                        | _ => exact nomatch (show false = true from h)
                  | _ => exact nomatch (show false = true from h)
              | _ => exact nomatch (show false = true from h)
          | _ => exact nomatch (show false = true from h)
      | _ => exact nomatch (show false = true from h)
  | _ => exact nomatch (show false = true from h)
theorem w_xpar {i j : Nat} {ix a b : E} {c : Ctx} {s : Stmt} (h : chkS t (.xpar i ix j a b) c s = true) : ∃ x px r pr y py kt qt v w k2 q2 p, s = .Assign [.Tuple [.Subscript (.Name x px) r pr, .Name y py] kt qt] (.Tuple [v, w] k2 q2) p ∧ varB c i x = true ∧ stoB c j y = true ∧ i ≠ j ∧ chkE t ix c r = true ∧ plainIx r = true ∧ chkE t a c v = true ∧ chkE t b c w = true ∧ (!isStar v) = true ∧ (!isStar w) = true := by
  cases s with
  | Assign ts vv p =>
    cases ts with
    | nil => exact nomatch (show false = true from h)
    | cons g ts =>
      cases g with
      | Tuple es kt qt =>
        cases es with
        | nil => exact nomatch (show false = true from h)
        | cons e1 es =>
          cases e1 with
          | Subscript lx r pr =>
            cases lx with
            | Name x px =>
              cases es with
              | nil => exact nomatch (show false = true from h)
              | cons e2 es =>
                cases e2 with
                | Name y py =>
                  cases es with
                  | cons _ _ => exact nomatch (show false = true from h)
                  | nil =>
                    cases ts with
                    | cons _ _ => exact nomatch (show false = true from h)
                    | nil =>
                      cases vv with
                      | Tuple vs k2 q2 =>
                        cases vs with
                        | nil => exact nomatch (show false = true from h)
                        | cons v vs =>
                          cases vs with
                          | nil => exact nomatch (show false = true from h)
                          | cons w vs =>
                            cases vs with
                            | cons _ _ => exact nomatch (show false = true from h)
                            | nil =>
                              obtain ⟨h, h9⟩ := and_t h
                              obtain ⟨h, h8⟩ := and_t h
                              obtain ⟨h, h7⟩ := and_t h
                              obtain ⟨h, h6⟩ := and_t h
                              obtain ⟨h, h5⟩ := and_t h
                              obtain ⟨h, h4⟩ := and_t h
                              obtain ⟨h, h3⟩ := and_t h
                              obtain ⟨h1, h2⟩ := and_t h
                              exact ⟨x, px, r, pr, y, py, kt, qt, v, w, k2, q2, p, rfl, h1, h2, of_decide_eq_true h3, h4, h5, h6, h7, h8, h9⟩
                      | _ => exact nomatch (show false = true from h)
                | _ => exact nomatch (show false = true from h)
            | _ => exact nomatch (show false = true from h)
          | _ => exact nomatch (show false = true from h)
      | _ => exact nomatch (show false = true from h)
  | _ => exact nomatch (show false = true from h)
theorem w_swp {i : Nat} {ix iy a b : E} {c : Ctx} {s : Stmt} (h : chkS t (.swp i ix iy a b) c s = true) : ∃ x px r pr y py r2 pr2 kt qt v w k2 q2 p, s = .Assign [.Tuple [.Subscript (.Name x px) r pr, .Subscript (.Name y py) r2 pr2] kt qt] (.Tuple [v, w] k2 q2) p ∧ varB c i x = true ∧ varB c i y = true ∧ chkE t ix c r = true ∧ plainIx r = true ∧ chkE t iy c r2 = true ∧ plainIx r2 = true ∧ chkE t a c v = true ∧ chkE t b c w = true ∧ (!isStar v) = true ∧ (!isStar w) = true := by
  cases s with
  | Assign ts vv p =>
    cases ts with
    | nil => exact nomatch (show false = true from h)
    | cons g ts =>
      cases g with
      | Tuple es kt qt =>
        cases es with
        | nil => exact nomatch (show false = true from h)
        | cons e1 es =>
          cases e1 with
          | Subscript lx r pr =>
            cases lx with
            | Name x px =>
              cases es with
              | nil => exact nomatch (show false = true from h)
              | cons e2 es =>
                cases e2 with
                | Subscript ly r2 pr2 =>
                  cases ly with
                  | Name y py =>
                    cases es with
                    | cons _ _ => exact nomatch (show false = true from h)
                    | nil =>
                      cases ts with
                      | cons _ _ => exact nomatch (show false = true from h)
                      | nil =>
                        cases vv with
                        | Tuple vs k2 q2 =>
                          cases vs with
                          | nil => exact nomatch (show false = true from h)
                          | cons v vs =>
                            cases vs with
                            | nil => exact nomatch (show false = true from h)
                            | cons w vs =>
                              cases vs with
                              | cons _ _ => exact nomatch (show false = true from h)
                              | nil =>
                                obtain ⟨h, h10⟩ := and_t h
                                obtain ⟨h, h9⟩ := and_t h
                                obtain ⟨h, h8⟩ := and_t h
                                obtain ⟨h, h7⟩ := and_t h
                                obtain ⟨h, h6⟩ := and_t h
                                obtain ⟨h, h5⟩ := and_t h
                                obtain ⟨h, h4⟩ := and_t h
                                obtain ⟨h, h3⟩ := and_t h
                                obtain ⟨h1, h2⟩ := and_t h
                                exact ⟨x, px, r, pr, y, py, r2, pr2, kt, qt, v, w, k2, q2, p, rfl, h1, h2, h3, h4, h5, h6, h7, h8, h9, h10⟩
                        | _ => exact nomatch (show false = true from h)
                  | _ => exact nomatch (show false = true from h)
                | _ => exact nomatch (show false = true from h)
            | _ => exact nomatch (show false = true from h)
          | _ => exact nomatch (show false = true from h)
      | _ => exact nomatch (show false = true from h)
  | _ => exact nomatch (show false = true from h)
end
end Pv
namespace Pv
open PySem PySem.Spec L2
/-! ## statements -/
/-- all but the slots st stands -/
def Kp (st : List Nat) (σ σ1 : St) : Prop := σ1.length = σ.length ∧ ∀ j, j ∉ st → σ1[j]? = σ[j]?
theorem Kp.refl {st : List Nat} {σ : St} : Kp st σ σ := ⟨rfl, fun _ _ => rfl⟩
theorem Kp.trans {a b st : List Nat} {σ σ1 σ2 : St} (h : Kp a σ σ1) (h' : Kp b σ1 σ2) (ha : ∀ j, j ∈ a → j ∈ st) (hb : ∀ j, j ∈ b → j ∈ st) : Kp st σ σ2 :=
  ⟨h'.1.trans h.1, fun j hj => (h'.2 j fun z => hj (hb j z)).trans (h.2 j fun z => hj (ha j z))⟩
theorem Kp.set {σ : St} {i : Nat} {v : Option V} : Kp [i] σ (σ.set i v) := ⟨List.length_set, fun j hj => List.getElem?_set_ne (fun e => hj (by rw [e]; exact List.mem_singleton.mpr rfl))⟩
def EndS (K : PySem.W.Frag) (F H : Hp) (ρ : Env) (σ : St) (st : List Nat) (fl : Fl) (ρ1 : Env) (D : Ends) : Prop := match fl with
  | .next => ∀ σ1 F1 H1, Kp st σ σ1 → Step F H (Own ρ σ) F1 H1 (Own ρ1 σ1) → Good K F1 H1 ρ1 σ1 → D.nx σ1 H1
  | .brk => ∀ σ1 F1 H1, Kp st σ σ1 → Step F H (Own ρ σ) F1 H1 (Own ρ1 σ1) → Good K F1 H1 ρ1 σ1 → D.bk σ1 H1
  | .cont => ∀ σ1 F1 H1, Kp st σ σ1 → Step F H (Own ρ σ) F1 H1 (Own ρ1 σ1) → Good K F1 H1 ρ1 σ1 → D.ct σ1 H1
  | .ret r => ∀ v σ1 F1 H1, Kp st σ σ1 → Step F H (Own ρ σ) F1 H1 (Own (ρ1 ++ [some r]) (σ1 ++ [some v])) → Good K F1 H1 (ρ1 ++ [some r]) (σ1 ++ [some v]) → D.rt v H1
def tS (Φ : Phi) (K : PySem.W.Frag) (s : S) : TS := fun D σ H => ∃ F ρ fl ρ1, Good K F H ρ σ ∧ ex Φ s ρ = some (fl, ρ1) ∧ EndS K F H ρ σ s.st fl ρ1 D
section
variable {t : Tab} {Φ : Phi} {k : Nat} {c : Ctx} {X : Cx} {K : PySem.W.Frag} {F H F1 H1 : Hp} {ρ ρ1 ρ2 : Env} {σ σ1 : St} {D : Ends} {fl : Fl} {a b st : List Nat}
theorem EndS.go (q : EndS K F H ρ σ st fl ρ2 D) (s : Step F H (Own ρ σ) F1 H1 (Own ρ1 σ1)) (kk : Kp a σ σ1) (ha : ∀ j, j ∈ a → j ∈ st) (hb : ∀ j, j ∈ b → j ∈ st) : EndS K F1 H1 ρ1 σ1 b fl ρ2 D := by
  cases fl with
  | next => exact fun σ2 F2 H2 k2 s2 g2 => q σ2 F2 H2 (kk.trans k2 ha hb) (s.trans s2) g2
  | brk => exact fun σ2 F2 H2 k2 s2 g2 => q σ2 F2 H2 (kk.trans k2 ha hb) (s.trans s2) g2
  | cont => exact fun σ2 F2 H2 k2 s2 g2 => q σ2 F2 H2 (kk.trans k2 ha hb) (s.trans s2) g2
  | ret r => exact fun v σ2 F2 H2 k2 s2 g2 => q v σ2 F2 H2 (kk.trans k2 ha hb) (s.trans s2) g2
theorem EndS.go0 (q : EndS K F H ρ σ st fl ρ2 D) (s : Step F H (Own ρ σ) F1 H1 (Own ρ1 σ)) (hb : ∀ j, j ∈ b → j ∈ st) : EndS K F1 H1 ρ1 σ b fl ρ2 D := q.go s (Kp.refl (st := [])) (fun j z => by cases z) hb
theorem _root_.L2.PS.imp {X : Cx} {s : Stmt} {t u : TS} (h : PS X s t) (w : ∀ D σ H, u D σ H → t D σ H) : PS X s u := ⟨fun pins s σ H D I q => h.run pins s σ H D I (w _ _ _ q)⟩
theorem _root_.L2.PSs.imp {X : Cx} {s : List Stmt} {t u : TS} (h : PSs X s t) (w : ∀ D σ H, u D σ H → t D σ H) : PSs X s u := ⟨fun pins s σ H D I q => h.run pins s σ H D I (w _ _ _ q)⟩
theorem x_skip : PSs X [] (tS Φ X.K .skip) := pss_nil.imp fun D σ H ⟨F, ρ, fl, ρ1, g, ev, q⟩ => by
  cases ev
  exact q σ F H .refl Step.refl g
theorem x_seq {s u : S} {x : Stmt} {xs : List Stmt} (h1 : PS X x (tS Φ X.K s)) (h2 : PSs X xs (tS Φ X.K u)) : PSs X (x :: xs) (tS Φ X.K (.seq s u)) := (pss_cons h1 h2).imp fun D σ H ⟨F, ρ, fl, ρ1, g, ev, q⟩ => by
  obtain ⟨⟨f, ρa⟩, e1, ev⟩ := bnd ev
  refine ⟨F, ρ, f, ρa, g, e1, ?_⟩
  cases f with
  | next => exact fun σ2 F2 H2 k2 s2 g2 => ⟨F2, ρa, fl, ρ1, g2, ev, q.go s2 k2 (fun j z => List.mem_append_left _ z) fun j z => List.mem_append_right _ z⟩
  | brk =>
    cases ev
    exact fun σ2 F2 H2 k2 s2 g2 => q σ2 F2 H2 (k2.trans Kp.refl (fun j z => List.mem_append_left _ z) (fun j z => List.mem_append_right _ z)) s2 g2
  | cont =>
    cases ev
    exact fun σ2 F2 H2 k2 s2 g2 => q σ2 F2 H2 (k2.trans Kp.refl (fun j z => List.mem_append_left _ z) (fun j z => List.mem_append_right _ z)) s2 g2
  | ret r =>
    cases ev
    exact fun v σ2 F2 H2 k2 s2 g2 => q v σ2 F2 H2 (k2.trans Kp.refl (fun j z => List.mem_append_left _ z) (fun j z => List.mem_append_right _ z)) s2 g2
theorem x_pass {p : Pos} : PS X (.Pass p) (tS Φ X.K .pass) := ps_pass.imp fun D σ H ⟨F, ρ, fl, ρ1, g, ev, q⟩ => by
  cases ev
  exact q σ F H .refl Step.refl g
theorem x_brk {p : Pos} : PS X (.Break p) (tS Φ X.K .brk) := ps_break.imp fun D σ H ⟨F, ρ, fl, ρ1, g, ev, q⟩ => by
  cases ev
  exact q σ F H .refl Step.refl g
theorem x_cont {p : Pos} : PS X (.Continue p) (tS Φ X.K .cont) := ps_continue.imp fun D σ H ⟨F, ρ, fl, ρ1, g, ev, q⟩ => by
  cases ev
  exact q σ F H .refl Step.refl g
theorem x_ret {e : E} {v : Expr} {p : Pos} (h : PE X v (tE Φ X.K e)) : PS X (.Return (some v) p) (tS Φ X.K (.ret e)) := (ps_ret h).imp fun D σ H ⟨F, ρ, fl, ρ1, g, ev, q⟩ => by
  obtain ⟨⟨r, ρa⟩, e1, ev⟩ := bnd ev
  cases ev
  exact ⟨F, ρ, r, _, g, e1, fun v F2 H2 s2 g2 => q v σ F2 H2 .refl s2 g2⟩
theorem x_retN {p : Pos} : PS X (.Return none p) (tS Φ X.K .retN) := ps_retN.imp fun D σ H ⟨F, ρ, fl, ρ1, g, ev, q⟩ => by
  cases ev
  exact q .non σ F H .refl (Step.refl.weak fun a z => own_more g.len rfl z) (g.more rfl (show RepR _ _ _ .non (.v .none) from .non))
theorem x_drop {e : E} {v : Expr} {p : Pos} (hc : (!isComp v) = true) (h : PE X v (tE Φ X.K e)) : PS X (.Expr v p) (tS Φ X.K (.drop e)) :=
  (ps_expr h (by cases v <;> first | rfl | exact nomatch hc)).imp fun D σ H ⟨F, ρ, fl, ρ1, g, ev, q⟩ => by
  obtain ⟨⟨r, ρa⟩, e1, ev⟩ := bnd ev
  cases ev
  exact ⟨F, ρ, r, _, g, e1, fun v F2 H2 s2 g2 => q σ F2 H2 .refl (s2.weak fun a z => own_left z) (g2.left (len1 g2))⟩
theorem x_if {d : E} {s u : S} {x : Expr} {xs ys : List Stmt} {p : Pos} (hd : PT X x (tT Φ X.K d)) (h1 : PSs X xs (tS Φ X.K s)) (h2 : PSs X ys (tS Φ X.K u)) : PS X (.If x xs ys p) (tS Φ X.K (.if_ d s u)) :=
  (ps_if hd h1 h2).imp fun D σ H ⟨F, ρ, fl, ρ1, g, ev, q⟩ => by
  obtain ⟨⟨b, ρa⟩, e1, ev⟩ := bnd ev
  refine ⟨F, ρ, b, ρa, g, e1, fun F2 H2 s2 g2 => ?_⟩
  cases b with
  | true => exact ⟨F2, ρa, fl, ρ1, g2, ev, q.go0 s2 fun j z => List.mem_append_left _ z⟩
  | false => exact ⟨F2, ρa, fl, ρ1, g2, ev, q.go0 s2 fun j z => List.mem_append_right _ z⟩
/-- a value stored at a name -/
theorem x_asg_by {i : Nat} {e : E} {s : Stmt} {te : TE} (h : PS X s (tAsg te (gName i))) (w : ∀ σ H Q, tE Φ X.K e σ H Q → te σ H Q) : PS X s (tS Φ X.K (.asg i e)) ∧ PS X s (tS Φ X.K (.asgF i e)) := ⟨h.imp fun D σ H ⟨F, ρ, fl, ρ1, g, ev, q⟩ => by
  obtain ⟨⟨r, ρa⟩, e1, ev⟩ := bnd ev
  cases ev
  exact w _ _ _ ⟨F, ρ, r, ρa, g, e1, fun v F2 H2 s2 g2 => q _ F2 H2 .set (s2.weak fun a z => own_put (len1 g2) z) (g2.put (len1 g2) i)⟩, h.imp fun D σ H ⟨F, ρ, fl, ρ1, g, ev, q⟩ => by
  obtain ⟨⟨r, ρa⟩, e1, ev⟩ := bnd ev
  obtain ⟨d, e2, ev⟩ := bnd ev
  cases ev
  exact w _ _ _ (s_frz g e1 e2 fun v F2 H2 s2 g2 rp => by
    obtain ⟨g3, o3⟩ := g2.storeD (i := i) rp
    exact q _ F2 H2 .set (s2.weak o3) g3)⟩
theorem swaps_not {v : Expr} {tg : Option Expr} {l : Nat} {env : PySem.Env} (h : (!isComp v) = true) : swapsWith v tg l env = pure false := by
  cases v <;> first | rfl | exact nomatch h
theorem sw_off {elt : Expr} {gs : List Comprehension} {scope : Scope} {pos py : Pos} {y : Str} {l : Nat} {env : PySem.Env} (hy : (env.kindOf y == some .local) = false) : swapsWith (.ListComp elt gs scope pos) (some (.Name y py)) l env = pure false := by
  unfold swapsWith
  simp only [hy, Bool.and_false, Bool.false_and]
theorem x_asg (C : COk t Φ k c X) {i : Nat} {e : E} {x : Str} {py p : Pos} {v : Expr} (hs : stoB c i x = true) (hv : chkE t e c v = true) (ha : asgB c x py v = true) (hk : X.env.scope.kind = .function) : PS X (.Assign [.Name x py] v p) (tS Φ X.K (.asg i e)) ∧ PS X (.Assign [.Name x py] v p) (tS Φ X.K (.asgF i e)) := by
  obtain ⟨l1, l2, l3⟩ := C.loc hs
  by_cases hc : isComp v = true
  · cases v with
    | ListComp y gs scope pos =>
      obtain ⟨elt, tg, it, ifs, vs, rfl⟩ := w_lc hv
      obtain ⟨y', g, iter, fs, scope', pos', e1, h1, h2, h3, h4, h5, h6, h7, h8, h9⟩ := v_comp hv
      cases e1
      rcases Bool.or_eq_true_iff.mp ha with ha | ha
      rotate_left
      · have hn : (X.env.kindOf x == some .local) = false := by
          have hp : kindIs c.sc x .local = false := by simpa using ha
          have hp : ¬ c.sc.names.lookup x = some .local := of_decide_eq_false hp
          have : ¬ X.env.kindOf x = some .local := by
            show ¬ X.env.scope.names.lookup x = _
            rw [C.sc]
            exact hp
          simpa using this
        exact x_asg_by (ps_set C.nd l1 l2 ((all_E _).ae C hv) (sw_off hn) l3) fun σ H Q h => h
      obtain ⟨ha, a3⟩ := and_t ha
      obtain ⟨a1, a2⟩ := and_t ha
      have a2 : X.env.scope.names.lookup x = some .local := by
        rw [C.sc]
        exact kind_t a2
      have ok : BlkOk X.N X.env.scope scope (ownOf c.N vs) := by
        rw [C.hN, C.sc]
        exact blkOk_by h3
      have z := ps_setLc (pos := pos) (spos := p) (py := py) C.calm C.nd l1 a2 (sw_of hk a2 a1 (by simpa using a3)) ((all_E it).ai C h1) ok (g := gT X.K tg) (tt := tT Φ X.K ifs) (te := tE Φ X.K elt)
        (fun s H Cd cl fp => (g_all (C.blk s H scope Cd cl fp) tg).1 g h7) (fun s H Cd cl fp => tests_E (all_E ifs) h8 (C.blk s H scope Cd cl fp)) (fun s H Cd cl fp => (all_E elt).ae (C.blk s H scope Cd cl fp) h9) (fold_of h2)
      rw [h4] at z
      exact x_asg_by z fun σ H Q h => lc_read h6 h5 h
    | SetComp _ _ _ _ => exact nomatch (show false = true from ha)
    | DictComp _ _ _ _ _ => exact nomatch (show false = true from ha)
    | _ => exact nomatch (show false = true from hc)
  · exact x_asg_by (ps_set C.nd l1 l2 ((all_E e).ae C hv) (swaps_not (by simpa using hc)) l3) fun σ H Q h => h
theorem bindT_len : ∀ (tg : Tg) (d : PyData) (ρ ρ' : Env), (bindT tg d ρ = some ρ' → ρ'.length = ρ.length) ∧ (∀ dl, bindTs tg dl ρ = some ρ' → ρ'.length = ρ.length) := by
  intro tg
  induction tg with
  | nm i => exact fun d ρ ρ' => ⟨fun e => by cases e; exact setS_len _ _ _, fun dl e => (nomatch (show (none : Option Env) = some _ from e))⟩
  | nil => exact fun d ρ ρ' => ⟨fun e => (nomatch (show (none : Option Env) = some _ from e)), fun dl e => by
      cases dl with
      | nil => cases e; rfl
      | cons _ _ => exact nomatch (show (none : Option Env) = some _ from e)⟩
  | cons a b iha ihb => exact fun d ρ ρ' => ⟨fun e => (nomatch (show (none : Option Env) = some _ from e)), fun dl e => by
      cases dl with
      | nil => exact nomatch (show (none : Option Env) = some _ from e)
      | cons d dl =>
        obtain ⟨ρ2, e1, e2⟩ := bnd e
        rw [(ihb d ρ2 ρ').2 dl e2, (iha d ρ ρ2).1 e1]⟩
  | tp a iha => exact fun d ρ ρ' => ⟨fun e => by
      cases d with
      | tuple dl => exact (iha .none ρ ρ').2 dl e
      | list dl => exact (iha .none ρ ρ').2 dl e
      | _ => exact (nomatch (show (none : Option Env) = some _ from e)), fun dl e => (nomatch (show (none : Option Env) = some _ from e))⟩
theorem x_asgT (C : COk t Φ k c X) {tg : Tg} {e : E} {es : List Expr} {kk : Nat} {q p : Pos} {v : Expr} (hg : chkTg c tg (.Tuple es kk q) = true) (hv : chkE t e c v = true) (hp : plainV v = true) : PS X (.Assign [.Tuple es kk q] v p) (tS Φ X.K (.asgT tg e)) := by
  have w1 : swapsWithSole [.Tuple es kk q] v p.line X.env = pure false := by
    cases v <;> first | rfl | exact nomatch hp
  have w2 : swappedStores [.Tuple es kk q] v X.env = pure none := by
    cases v <;> first | rfl | exact nomatch hp
  refine (ps_asg ((all_E e).ae C hv) ((g_all C tg).1 _ hg) w1 w2).imp fun D σ H ⟨F, ρ, fl, ρ1, g, ev, q⟩ => ?_
  obtain ⟨⟨r, ρa⟩, e1, ev⟩ := bnd ev
  obtain ⟨d, e2, ev⟩ := bnd ev
  obtain ⟨ρb, e3, ev⟩ := bnd ev
  cases ev
  refine s_frz g e1 e2 fun v F2 H2 s2 g2 rp => ⟨F2, d, ρa, _, g2, rp, e3, fun σ2 hk g3 o3 => ?_⟩
  refine q σ2 F2 H2 ⟨?_, hk⟩ (s2.weak o3) g3
  have l3 := g3.len
  have l2 := g2.len
  rw [← l3, (bindT_len tg d _ _).1 e3, l2]
theorem x_setx (C : COk t Φ k c X) {i : Nat} {ix e : E} {x : Str} {xp q p : Pos} {r v : Expr} (h1 : varB c i x = true) (h2 : chkE t ix c r = true) (h3 : plainIx r = true) (h4 : chkE t e c v = true) (h5 : (!isComp v) = true) :
    PS X (.Assign [.Subscript (.Name x xp) r q] v p) (tS Φ X.K (.setx i ix e)) := by
  have w1 : swapsWithSole [.Subscript (.Name x xp) r q] v p.line X.env = pure false := by
    cases v <;> first | rfl | exact nomatch h5
  have w2 : swappedStores [.Subscript (.Name x xp) r q] v X.env = pure none := by
    cases v <;> rfl
  refine (ps_asg ((all_E e).ae C h4) (pg_sub (C.pvar h1) ((all_E ix).op C h2) set_list (by
    intro u
    cases r with
    | Constant w kk pos => cases w <;> first | rfl | exact nomatch h3
    | _ => first | rfl | exact nomatch h3)) w1 w2).imp fun D σ H ⟨F, ρ, fl, ρ1, g, ev, q⟩ => ?_
  obtain ⟨⟨r, ρa⟩, e1, ev⟩ := bnd ev
  obtain ⟨d, e2, ev⟩ := bnd ev
  obtain ⟨r0, e0, ev⟩ := bnd ev
  obtain ⟨⟨y, ρb⟩, e3, ev⟩ := bnd ev
  obtain ⟨kd, e4, ev⟩ := bnd ev
  obtain ⟨rr, e5, ev⟩ := bnd ev
  cases rr with
  | v _ => cases ev
  | s _ => cases ev
  | m _ _ => cases ev
  | l xs =>
    cases kd with
    | int z =>
      obtain ⟨j, e6, ev⟩ := bnd ev
      cases ev
      refine s_frz g e1 e2 fun w F2 H2 s2 g2 rp => ?_
      obtain ⟨v0, hv0⟩ := g2.has i r0 (getS_eq.mp e0)
      refine ⟨v0, hv0, F2, ρa, y, ρb, g2, e3, fun u F3 H3 s3 g3 r3 => ?_⟩
      obtain ⟨ad, us, ea, a1, a2, a3⟩ := g3.at e5 hv0
      subst ea
      refine ⟨ad, us, z, j, rfl, vw_int (r3.vw g3 e4), a1, by rw [a2.len]; exact e6, ?_⟩
      refine q σ F3 _ .refl (((s2.trans s3).trans (Step.write ⟨i, _, ⟨getS_eq.mp e5, hv0⟩, rfl⟩)).weak fun b z => own_write e5 z) (g3.write e5 hv0 (a2.set j (rp.mono s3.fz)))
    | _ => cases ev
theorem ite_on {α : Type} {p : Prop} [Decidable p] {a : Option α} {b : α} (h : (if p then a else none) = some b) : p ∧ a = some b := by
  by_cases z : p
  · rw [if_pos z] at h
    exact ⟨z, h⟩
  · rw [if_neg z] at h
    cases h
theorem own_ty {r0 : R} {v0 : V} (g : Good K F H ρ σ) {i : Nat} (e0 : getS ρ i = some r0) (ho : r0.isL = true) (hv0 : σ[i]? = some (some v0)) : tyV K "list" v0 H := by
  cases r0 with
  | l xs =>
    obtain ⟨ad, us, ea, a1, a2, a3⟩ := g.at e0 hv0
    subst ea
    exact .inl ⟨rfl, us, SqL.of a1⟩
  | v _ => cases ho
  | s _ => cases ho
  | m _ _ => cases ho
theorem x_app (C : COk t Φ k c X) {i : Nat} {e : E} {x : Str} {xp ap cp p : Pos} {v : Expr} (h1 : varB c i x = true) (h2 : chkE t e c v = true) (h3 : (!isStar v) = true) (h4 : (ap.endLine == cp.line) = true) :
    PS X (.Expr (.Call (.Attribute (.Name x xp) "append" ap) [v] [] cp) p) (tS Φ X.K (.app i e)) := by
  have star := noStar_cons (es := []) (env := X.env) (star_of h3)
  refine (ps_expr (pe_bm PySem.F.plainAttrs_list PySem.F.slot_list_append PySem.F.type_list_append (show MtR X _ _ from mt_append) (C.pvar h1) (pa_cons ((all_E e).ae C h2) pa_nil star) (super_of rfl) (by rw [star]; rfl) h4 star (by rfl)) rfl).imp fun D σ H ⟨F, ρ, fl, ρ1, g, ev, q⟩ => ?_
  obtain ⟨r0, e0, ev⟩ := bnd ev
  obtain ⟨ho, ev⟩ := ite_on ev
  obtain ⟨⟨r, ρa⟩, e1, ev⟩ := bnd ev
  obtain ⟨d, e2, ev⟩ := bnd ev
  obtain ⟨rr, e5, ev⟩ := bnd ev
  cases rr with
  | v _ => cases ev
  | s _ => cases ev
  | m _ _ => cases ev
  | l xs =>
    have ev : (if okN (xs.length + 1) = true then some (Fl.next, setS ρa i (some (.l (xs ++ [d])))) else none) = some (fl, ρ1) := ev
    obtain ⟨hz, ev⟩ := ite_some ev
    cases ev
    obtain ⟨v0, hv0⟩ := g.has i r0 (getS_eq.mp e0)
    refine ⟨v0, hv0, own_ty g e0 ho hv0, s_frz g e1 e2 fun w F2 H2 s2 g2 rp => ?_⟩
    obtain ⟨ad, us, ea, a1, a2, a3⟩ := g2.at e5 hv0
    subst ea
    refine ⟨ad, us, w, rfl, rfl, a1, ?_, ?_⟩
    · have z := okN_le hz
      rw [a2.len]
      omega
    · exact q σ F2 _ .refl ((s2.trans (Step.write ⟨i, _, ⟨getS_eq.mp e5, hv0⟩, rfl⟩)).weak fun b z => own_write e5 z) (g2.write e5 hv0 (a2.app (.one rp)))
theorem x_ext (C : COk t Φ k c X) {i : Nat} {e : E} {x : Str} {xp ap cp p : Pos} {v : Expr} (h1 : varB c i x = true) (h2 : chkE t e c v = true) (h3 : (!isStar v) = true) (h4 : (ap.endLine == cp.line) = true) :
    PS X (.Expr (.Call (.Attribute (.Name x xp) "extend" ap) [v] [] cp) p) (tS Φ X.K (.ext i e)) := by
  have star := noStar_cons (es := []) (env := X.env) (star_of h3)
  refine (ps_expr (pe_bm PySem.F.plainAttrs_list PySem.F.slot_list_extend PySem.F.type_list_extend (show MtR X _ _ from mt_extend) (C.pvar h1) (pa_cons ((all_E e).op C h2) pa_nil star) (super_of rfl) (by rw [star]; rfl) h4 star (by rfl)) rfl).imp fun D σ H ⟨F, ρ, fl, ρ1, g, ev, q⟩ => ?_
  obtain ⟨r0, e0, ev⟩ := bnd ev
  obtain ⟨ho, ev⟩ := ite_on ev
  obtain ⟨⟨y, ρa⟩, e1, ev⟩ := bnd ev
  obtain ⟨d, e2, ev⟩ := bnd ev
  obtain ⟨rr, e5, ev⟩ := bnd ev
  cases rr with
  | v _ => cases ev
  | s _ => cases ev
  | m _ _ => cases ev
  | l xs =>
    cases d with
    | list ys =>
      have ev : (if okN (xs.length + ys.length) = true then some (Fl.next, setS ρa i (some (.l (xs ++ ys)))) else none) = some (fl, ρ1) := ev
      obtain ⟨hz, ev⟩ := ite_some ev
      cases ev
      obtain ⟨v0, hv0⟩ := g.has i r0 (getS_eq.mp e0)
      refine ⟨v0, hv0, own_ty g e0 ho hv0, F, ρ, y, ρa, g, e1, fun w F2 H2 s2 g2 r2 => ?_⟩
      obtain ⟨ad, us, ea, a1, a2, a3⟩ := g2.at e5 hv0
      subst ea
      obtain ⟨bd, ws, eb, b1, b2⟩ := r2.vw g2 e2
      subst eb
      refine ⟨ad, bd, us, ws, rfl, rfl, a1, b1, ?_, ?_⟩
      · have z := okN_le hz
        rw [a2.len, b2.len]
        omega
      · exact q σ F2 _ .refl ((s2.trans (Step.write ⟨i, _, ⟨getS_eq.mp e5, hv0⟩, rfl⟩)).weak fun b z => own_write e5 z) (g2.write e5 hv0 (a2.app b2))
    | _ => cases ev
theorem x_aug (C : COk t Φ k c X) {i : Nat} {op : Operator} {e : E} {x : Str} {xp p : Pos} {v : Expr} (h0 : augOp op = true) (h2 : stoB c i x = true) (h3 : chkE t e c v = true) : PS X (.AugAssign (.Name x xp) op v p) (tS Φ X.K (.aug i op e)) := by
  obtain ⟨l1, l2, l3⟩ := C.loc h2
  have go : ∀ {f : Int → Int → Int}, PIp X op (ipI f) → (∀ a b r, augI op a b = some r → r = f a b) → PS X (.AugAssign (.Name x xp) op v p) (tS Φ X.K (.aug i op e)) := fun {f} hp hf => by
    refine (ps_aug C.nd l1 l2 ((all_E e).op C h3) hp l3).imp fun D σ H ⟨F, ρ, fl, ρ1, g, ev, q⟩ => ?_
    obtain ⟨r0, e0, ev⟩ := bnd ev
    obtain ⟨v0, hv0⟩ := g.has i r0 (getS_eq.mp e0)
    cases r0 with
    | l _ => cases ev
    | s _ => cases ev
    | m _ _ => cases ev
    | v d0 =>
      cases d0 with
      | int a =>
        obtain ⟨⟨y, ρa⟩, e1, ev⟩ := bnd ev
        obtain ⟨d, e2, ev⟩ := bnd ev
        cases d with
        | int b =>
          obtain ⟨z, e3, ev⟩ := bnd ev
          cases ev
          obtain rfl := hf a b z e3
          have rv : Rp F v0 (.int a) := g.at e0 hv0
          refine ⟨v0, hv0, F, ρ, y, ρa, g, e1, fun w F2 H2 s2 g2 r2 => ⟨a, b, ?_, vw_int (r2.vw g2 e2), ?_⟩⟩
          · cases rv
            rfl
          · obtain ⟨g3, o3⟩ := g2.storeD (i := i) (v := .int (f a b)) (.int (f a b))
            exact q _ F2 H2 .set (s2.weak o3) g3
        | _ => cases ev
      | _ => cases ev
  cases op with
  | Add => exact go ip_add fun a b r z => (Option.some.inj z).symm
  | Sub => exact go ip_sub fun a b r z => (Option.some.inj z).symm
  | _ => exact nomatch h0
theorem x_dput (C : COk t Φ k c X) {i : Nat} {ix e : E} {x : Str} {xp q p : Pos} {r v : Expr} (h1 : varB c i x = true) (h2 : chkE t ix c r = true) (h3 : plainIxT r = true) (h4 : chkE t e c v = true) (h5 : (!isComp v) = true) :
    PS X (.Assign [.Subscript (.Name x xp) r q] v p) (tS Φ X.K (.dput i ix e)) := by
  have w1 : swapsWithSole [.Subscript (.Name x xp) r q] v p.line X.env = pure false := by
    cases v <;> first | rfl | exact nomatch h5
  have w2 : swappedStores [.Subscript (.Name x xp) r q] v X.env = pure none := by
    cases v <;> rfl
  refine (ps_asg ((all_E e).ae C h4) (pg_sub (C.pvar h1) ((all_E ix).op C h2) (set_dict C.u1) (by
    intro u
    cases r with
    | Constant w kk pos => cases w <;> first | rfl | exact nomatch h3
    | _ => first | rfl | exact nomatch h3)) w1 w2).imp fun D σ H ⟨F, ρ, fl, ρ1, g, ev, q⟩ => ?_
  obtain ⟨⟨r, ρa⟩, e1, ev⟩ := bnd ev
  obtain ⟨d, e2, ev⟩ := bnd ev
  obtain ⟨r0, e0, ev⟩ := bnd ev
  obtain ⟨⟨y, ρb⟩, e3, ev⟩ := bnd ev
  obtain ⟨kd, e4, ev⟩ := bnd ev
  obtain ⟨rr, e5, ev⟩ := bnd ev
  cases rr with
  | m tt kvs =>
    obtain ⟨kk, e6, ev⟩ := bnd ev
    have ev : (if okN (kvs.length + 1) = true then some (Fl.next, setS ρb i (some (.m tt (putM kvs kk d)))) else none) = some (fl, ρ1) := ev
    obtain ⟨hz, ev⟩ := ite_some ev
    cases ev
    refine s_frz g e1 e2 fun w F2 H2 s2 g2 rp => ?_
    obtain ⟨v0, hv0⟩ := g2.has i r0 (getS_eq.mp e0)
    refine ⟨v0, hv0, F2, ρa, y, ρb, g2, e3, fun u F3 H3 s3 g3 r3 => ?_⟩
    obtain ⟨ad, o, ea, a1, a2, a3⟩ := g3.dict e5 hv0
    subst ea
    obtain ⟨o', b1, b2⟩ := dput_of g3.sub a1 a2 (r3.vw g3 e4) e6 (rp.mono s3.fz) hz
    refine ⟨ad, _, rfl, b1, ?_⟩
    refine q σ F3 _ .refl (((s2.trans s3).trans (Step.write ⟨i, _, ⟨getS_eq.mp e5, hv0⟩, rfl⟩)).weak fun b z => own_writeR e5 rfl z) (g3.writeR e5 rfl hv0 fun hf => ⟨ad, o', rfl, upd_same, b2, hf⟩)
  | _ => cases ev
/-- x[k], y = a, b and x[k], x[l] = a, b: the stores one by one -/
theorem two_frz {a b : E} {ds : List PyData} {Q : List V → Hp → Prop} (g : Good K F H ρ σ) (ev : evF Φ (.cons a (.cons b .nil)) ρ = some (ds, ρ1)) (q : ∀ vs F1 H1, Step F H (Own ρ σ) F1 H1 (Own ρ1 σ) → Good K F1 H1 ρ1 σ → RpAll F1 vs ds → Q vs H1) : tF Φ K (.cons a (.cons b .nil)) σ H Q := ⟨F, ρ, ds, ρ1, g, ev, q⟩
end
end Pv
namespace Pv
open PySem PySem.Spec L2
/-! ## pairs of stores, loops -/
section
variable {t : Tab} {Φ : Phi} {k : Nat} {c : Ctx} {X : Cx} {K : PySem.W.Frag} {F H F1 H1 : Hp} {ρ ρ1 ρ2 : Env} {σ σ1 : St} {D : Ends} {fl : Fl} {st : List Nat}
theorem par_core {a b : E} {r q' : R} {ρa ρb : Env} {i j : Nat} {P : V → V → Hp → Prop} (g : Good K F H ρ σ) (e1 : evE Φ a ρ = some (r, ρa)) (e2 : evE Φ b ρa = some (q', ρb)) (hi : i < ρb.length) (hj : j < ρb.length)
    (q : ∀ v w F2 H2, Step F H (Own ρ σ) F2 H2 (Own (setS (setS ρb i (some r)) j (some q')) ((σ.set i (some v)).set j (some w))) → Good K F2 H2 (setS (setS ρb i (some r)) j (some q')) ((σ.set i (some v)).set j (some w)) → P v w H2) :
    tE Φ K a σ H fun v H1 => tE Φ K b σ H1 fun w H2 => P v w H2 := by
  refine ⟨F, ρ, r, ρa, g, e1, fun v F1 H1 s1 g1 => ⟨F1, ρa, q', ρb, g1.left (len1 g1), e2, fun w F2 H2 s2 g2 => ?_⟩⟩
  have hl := len1 g1
  have hl2 := len1 g2
  have hl3 : (ρb ++ [some q']).length = (σ ++ [some w]).length := g2.len
  have z := g1.frame hl s2 g2
  have sA := s1.trans (s2.app (τ := [some r]) (υ := [some v]) hl hl3)
  have z2 := z.put hl3 i
  have sB := sA.weak fun b y => own_put (i := i) (r := r) (v := v) hl3 y
  have ea : setS (ρb ++ [some q']) i (some r) = setS ρb i (some r) ++ [some q'] := by rw [setS_eq, setS_eq, List.set_append_left _ _ hi]
  have eb : (σ ++ [some w]).set i (some v) = σ.set i (some v) ++ [some w] := List.set_append_left _ _ (by omega)
  rw [ea, eb] at z2 sB
  have hl4 : (setS ρb i (some r)).length = (σ.set i (some v)).length := by rw [setS_len, List.length_set]; exact hl2
  exact q v w F2 H2 (sB.weak fun b y => own_put hl4 y) (z2.put hl4 j)
theorem Kp.two {i j : Nat} {v w : Option V} : Kp [i, j] σ ((σ.set i v).set j w) := ⟨by rw [List.length_set, List.length_set], fun m hm => by
  rw [List.mem_cons, List.mem_singleton, not_or] at hm
  rw [List.getElem?_set_ne (Ne.symm hm.2), List.getElem?_set_ne (Ne.symm hm.1)]⟩
theorem swap_yes {x y : Str} {px py pt p2 : Pos} {kt k2 : Nat} {v w : Expr} {env : PySem.Env} (hk : env.scope.kind = .function) (hv : (!isStar v) = true) (hw : (!isStar w) = true) (hx : env.scope.names.lookup x = some .local) (hy : env.scope.names.lookup y = some .local)
    (hl : (px.line == py.line) = true) (hxy : x ≠ y) (hf : (foldedForSure 8 v && foldedForSure 8 w) = false) (hc : (constantsAlone 8 v && constantsAlone 8 w) = false) :
    swappedStores [.Tuple [.Name x px, .Name y py] kt pt] (.Tuple [v, w] k2 p2) env = pure (some [x, y]) := by
  have ky : env.kindOf y = some .local := hy
  have kx : env.kindOf x = some .local := hx
  have hb : env.blockKind = .function := by unfold Env.blockKind; rw [hk]; rfl
  have hl2 : (py.line == px.line) = true := by
    have := eq_of_beq hl
    rw [this]
    exact beq_self_eq_true _
  have nx : (x == y) = false := by simpa using hxy
  have ny : (y == x) = false := by simpa using Ne.symm hxy
  have sv : isStar v = false := star_of hv
  have sw : isStar w = false := star_of hw
  have any2 : ∀ (f : Expr → Bool), (∀ e, f e = isStar e) → [v, w].any f = false := fun f h => by simp [h, sv, sw]
  have all1 : [v, w].all (foldedForSure 8) = false := by simpa using hf
  have all2 : [v, w].all (constantsAlone 8) = false := by simpa using hc
  unfold swappedStores
  dsimp only
  rw [hb]
  rw [any2 _ (fun e => by cases e <;> rfl)]
  rw [all1, all2]
  simp only [List.filterMap_cons, List.filterMap_nil, kx, ky, hl2, List.head?, Option.map, Option.getD, Expr.pos, beq_self_eq_true, Bool.and_self, if_true]
  have ed : [x, y].eraseDups = [x, y] := by simp [List.eraseDups_cons, ny]
  rw [ed]
  rfl
theorem swap_no {x y : Str} {px py pt p2 : Pos} {kt k2 : Nat} {v w : Expr} {env : PySem.Env} (hv : (!isStar v) = true) (hw : (!isStar w) = true)
    (h : (env.kindOf x == some .local) = false ∨ (env.kindOf y == some .local) = false ∨ (py.line == px.line) = false ∨ (foldedForSure 8 v && foldedForSure 8 w) = true) :
    swappedStores [.Tuple [.Name x px, .Name y py] kt pt] (.Tuple [v, w] k2 p2) env = pure none := by
  have sv : isStar v = false := star_of hv
  have sw : isStar w = false := star_of hw
  have any2 : ∀ (f : Expr → Bool), (∀ e, f e = isStar e) → [v, w].any f = false := fun f h => by simp [h, sv, sw]
  have e1 : [v, w].all (foldedForSure 8) = (foldedForSure 8 v && foldedForSure 8 w) := by simp
  unfold swappedStores
  dsimp only
  rw [any2 _ (fun e => by cases e <;> rfl), e1]
  by_cases hb : (!(2 == 2 || 2 == 3) || 2 != 2 || env.blockKind != ScopeKind.function) = true
  · have hb' : (!([Expr.Name x px, Expr.Name y py].length == 2 || [Expr.Name x px, Expr.Name y py].length == 3) || [v, w].length != [Expr.Name x px, Expr.Name y py].length || env.blockKind != ScopeKind.function) = true := hb
    rw [if_pos hb']
  · have hb' : ¬ (!([Expr.Name x px, Expr.Name y py].length == 2 || [Expr.Name x px, Expr.Name y py].length == 3) || [v, w].length != [Expr.Name x px, Expr.Name y py].length || env.blockKind != ScopeKind.function) = true := hb
    rw [if_neg hb', if_neg Bool.false_ne_true]
    simp only [List.filterMap_cons, List.filterMap_nil, List.head?, Option.map, Option.getD, Expr.pos, beq_self_eq_true, Bool.and_true]
    rcases Bool.eq_false_or_eq_true (env.kindOf x == some .local) with q1 | q1 <;> rcases Bool.eq_false_or_eq_true (env.kindOf y == some .local) with q2 | q2 <;> rcases Bool.eq_false_or_eq_true (py.line == px.line) with q3 | q3 <;> simp only [q1, q2, q3, Bool.and_self, Bool.and_false, Bool.false_and, Bool.false_eq_true, if_true, if_false, reduceIte] at h ⊢ <;> first | rfl | skip
    have h : (foldedForSure 8 v && foldedForSure 8 w) = true := by simpa using h
    rw [h]
    split
    · rfl
    · rfl
theorem not_t {b : Bool} (h : (!b) = true) : b = false := by
  cases b with
  | false => rfl
  | true => cases h
theorem x_par (C : COk t Φ k c X) {i j : Nat} {a b : E} {x y : Str} {px py qt q2 p : Pos} {kt k2 : Nat} {v w : Expr} (hx : stoB c i x = true) (hy : stoB c j y = true) (hij : i ≠ j) (ha : chkE t a c v = true) (hb : chkE t b c w = true)
    (sv : (!isStar v) = true) (sw : (!isStar w) = true) (hp : parA c x y px py v w = true ∨ parB c x y px py v w = true) (hk : X.env.scope.kind = .function) :
    PS X (.Assign [.Tuple [.Name x px, .Name y py] kt qt] (.Tuple [v, w] k2 q2) p) (tS Φ X.K (.par i j a b)) := by
  obtain ⟨l1, l2, l3⟩ := C.loc hx
  obtain ⟨m1, m2, m3⟩ := C.loc hy
  have pa := pa_cons ((all_E a).ae C ha) (pa_cons ((all_E b).ae C hb) pa_nil (noStar_cons (es := []) (env := X.env) (star_of sw))) (noStar_cons (es := [w]) (env := X.env) (star_of sv))
  rcases hp with hp | hp
  · obtain ⟨hp, h6⟩ := and_t hp
    obtain ⟨hp, h5⟩ := and_t hp
    obtain ⟨hp, h4⟩ := and_t hp
    obtain ⟨hp, h3⟩ := and_t hp
    obtain ⟨h1, h2⟩ := and_t hp
    have kx : X.env.scope.names.lookup x = some .local := by
      rw [C.sc]
      exact kind_t h1
    have ky : X.env.scope.names.lookup y = some .local := by
      rw [C.sc]
      exact kind_t h2
    have hne : x ≠ y := fun e => by
      rw [e] at h4
      simp [sEq] at h4
    refine (ps_par (pos := p) C.calm C.nd l1 m1 hij kx ky pa (swap_yes hk sv sw kx ky h3 hne (not_t h5) (not_t h6))).imp fun D σ H ⟨F, ρ, fl, ρ1, g, ev, q⟩ => ?_
    obtain ⟨⟨r, ρa⟩, e1, ev⟩ := bnd ev
    obtain ⟨⟨q', ρb⟩, e2, ev⟩ := bnd ev
    have ev : (if i < ρb.length ∧ j < ρb.length then some (Fl.next, setS (setS ρb i (some r)) j (some q')) else none) = some (fl, ρ1) := ev
    obtain ⟨⟨hi, hj⟩, ev⟩ := ite_some ev
    cases ev
    exact par_core (P := fun v w H2 => ∃ v' w', [v, w] = [v', w'] ∧ D.nx ((σ.set i (some v')).set j (some w')) H2) g e1 e2 hi hj fun v w F2 H2 s2 g2 => ⟨v, w, rfl, q _ F2 H2 .two s2 g2⟩
  · have hh : (X.env.kindOf x == some .local) = false ∨ (X.env.kindOf y == some .local) = false ∨ (py.line == px.line) = false ∨ (foldedForSure 8 v && foldedForSure 8 w) = true := by
      rcases Bool.or_eq_true_iff.mp hp with hp | hp
      · rcases Bool.or_eq_true_iff.mp hp with hp | hp
        · rcases Bool.or_eq_true_iff.mp hp with hp | hp
          · refine .inl ?_
            have hp : kindIs c.sc x .local = false := by simpa using hp
            have hp : ¬ c.sc.names.lookup x = some .local := of_decide_eq_false hp
            have : ¬ X.env.kindOf x = some .local := by
              show ¬ X.env.scope.names.lookup x = _
              rw [C.sc]
              exact hp
            simpa using this
          · refine .inr (.inl ?_)
            have hp : kindIs c.sc y .local = false := by simpa using hp
            have hp : ¬ c.sc.names.lookup y = some .local := of_decide_eq_false hp
            have : ¬ X.env.kindOf y = some .local := by
              show ¬ X.env.scope.names.lookup y = _
              rw [C.sc]
              exact hp
            simpa using this
        · refine .inr (.inr (.inl ?_))
          have hp : (px.line == py.line) = false := by simpa using hp
          have hp : ¬ px.line = py.line := by simpa using hp
          simpa using Ne.symm hp
      · exact .inr (.inr (.inr hp))
    refine (ps_asg (pe_tup pa) (pg_tup (n := 2) C.calm (pgs_cons (pg_name C.nd l1 l2 l3) (pgs_cons (pg_name C.nd m1 m2 m3) pgs_nil rfl) rfl) rfl rfl) rfl (swap_no sv sw hh)).imp fun D σ H ⟨F, ρ, fl, ρ1, g, ev, q⟩ => ?_
    obtain ⟨⟨r, ρa⟩, e1, ev⟩ := bnd ev
    obtain ⟨⟨q', ρb⟩, e2, ev⟩ := bnd ev
    have ev : (if i < ρb.length ∧ j < ρb.length then some (Fl.next, setS (setS ρb i (some r)) j (some q')) else none) = some (fl, ρ1) := ev
    obtain ⟨⟨hi, hj⟩, ev⟩ := ite_some ev
    cases ev
    refine par_core (P := fun v w H2 => [v, w].length ≤ sizeLine ∧ ∀ pt, H2 pt = none → gTup X.K 2 (gCons (gName i) (gCons (gName j) gNil)) (.ref pt) σ (upd H2 pt (.tup [v, w])) D.nx) g e1 e2 hi hj fun v w F2 H2 s2 g2 => ⟨by rw [sizeLine_eq]; show 2 ≤ 16777216; decide, fun pt hpt => ?_⟩
    exact ⟨pt, [v, w], rfl, SqT.of upd_same, rfl, v, [w], rfl, w, [], rfl, rfl, q _ F2 _ .two (s2.trans (Step.junk hpt)) (g2.junk hpt)⟩
theorem Kp.three {i j l : Nat} {v w u : Option V} : Kp [i, j, l] σ (((σ.set i v).set j w).set l u) := ⟨by rw [List.length_set, List.length_set, List.length_set], fun m hm => by
  simp only [List.mem_cons, List.not_mem_nil, or_false, not_or] at hm
  rw [List.getElem?_set_ne (Ne.symm hm.2.2), List.getElem?_set_ne (Ne.symm hm.2.1), List.getElem?_set_ne (Ne.symm hm.1)]⟩
theorem swap_yes3 {x y z : Str} {px py pz pt p2 : Pos} {kt k2 : Nat} {u v w : Expr} {env : PySem.Env} (hk : env.scope.kind = .function) (hu : (!isStar u) = true) (hv : (!isStar v) = true) (hw : (!isStar w) = true)
    (hx : env.scope.names.lookup x = some .local) (hy : env.scope.names.lookup y = some .local) (hz : env.scope.names.lookup z = some .local)
    (hl : (px.line == py.line) = true) (hl2 : (px.line == pz.line) = true) (hxy : x ≠ y) (hxz : x ≠ z) (hyz : y ≠ z) (hf : (foldedForSure 8 u && foldedForSure 8 v && foldedForSure 8 w) = false) (hc : (constantsAlone 8 u && constantsAlone 8 v && constantsAlone 8 w) = false) :
    swappedStores [.Tuple [.Name x px, .Name y py, .Name z pz] kt pt] (.Tuple [u, v, w] k2 p2) env = pure (some [x, y, z]) := by
  have kx : env.kindOf x = some .local := hx
  have ky' : env.kindOf y = some .local := hy
  have kz : env.kindOf z = some .local := hz
  have hb' : env.blockKind = .function := by
    unfold Env.blockKind
    rw [hk]
    rfl
  have l1 : (py.line == px.line) = true := by rw [eq_of_beq hl]; exact beq_self_eq_true _
  have l2 : (pz.line == px.line) = true := by rw [eq_of_beq hl2]; exact beq_self_eq_true _
  have n1 : (y == x) = false := by simpa using Ne.symm hxy
  have n2 : (z == x) = false := by simpa using Ne.symm hxz
  have n3 : (z == y) = false := by simpa using Ne.symm hyz
  have su := star_of hu
  have sv := star_of hv
  have sw := star_of hw
  have any3 : ∀ (f : Expr → Bool), (∀ e, f e = isStar e) → [u, v, w].any f = false := fun f h => by simp [h, su, sv, sw]
  have all1 : [u, v, w].all (foldedForSure 8) = false := by
    rw [← hf]
    simp [Bool.and_assoc]
  have all2 : [u, v, w].all (constantsAlone 8) = false := by
    rw [← hc]
    simp [Bool.and_assoc]
  unfold swappedStores
  dsimp only
  rw [hb', any3 _ (fun e => by cases e <;> rfl), all1, all2]
  simp only [List.filterMap_cons, List.filterMap_nil, kx, ky', kz, l1, l2, List.head?, Option.map, Option.getD, Expr.pos, beq_self_eq_true, Bool.and_self, if_true]
  have ed : [x, y, z].eraseDups = [x, y, z] := by simp [List.eraseDups_cons, n1, n2, n3]
  rw [ed]
  rfl
theorem swap_sub {l r : Expr} {y : Str} {pr py pt p2 : Pos} {kt k2 : Nat} {v w : Expr} {env : PySem.Env} (hv : (!isStar v) = true) (hw : (!isStar w) = true) :
    swappedStores [.Tuple [.Subscript l r pr, .Name y py] kt pt] (.Tuple [v, w] k2 p2) env = pure none := by
  have sv := star_of hv
  have sw := star_of hw
  have any2 : ∀ (f : Expr → Bool), (∀ e, f e = isStar e) → [v, w].any f = false := fun f h => by simp [h, sv, sw]
  unfold swappedStores
  dsimp only
  rw [any2 _ (fun e => by cases e <;> rfl)]
  split
  · rfl
  · rw [if_neg Bool.false_ne_true, if_pos]
    rw [List.filterMap_cons]
    simp only [List.filterMap_cons, List.filterMap_nil]
    split <;> rfl
theorem swap_sub2 {l r l2 r2 : Expr} {pr pr2 pt p2 : Pos} {kt k2 : Nat} {v w : Expr} {env : PySem.Env} (hv : (!isStar v) = true) (hw : (!isStar w) = true) :
    swappedStores [.Tuple [.Subscript l r pr, .Subscript l2 r2 pr2] kt pt] (.Tuple [v, w] k2 p2) env = pure none := by
  have sv := star_of hv
  have sw := star_of hw
  have any2 : ∀ (f : Expr → Bool), (∀ e, f e = isStar e) → [v, w].any f = false := fun f h => by simp [h, sv, sw]
  unfold swappedStores
  dsimp only
  rw [any2 _ (fun e => by cases e <;> rfl)]
  split
  · rfl
  · rw [if_neg Bool.false_ne_true, if_pos]
    rfl
theorem par3_core {a b d : E} {r q' u' : R} {ρa ρb ρd : Env} {i j l : Nat} {P : V → V → V → Hp → Prop} (g : Good K F H ρ σ) (e1 : evE Φ a ρ = some (r, ρa)) (e2 : evE Φ b ρa = some (q', ρb)) (e3 : evE Φ d ρb = some (u', ρd)) (hi : i < ρd.length) (hj : j < ρd.length) (hl0 : l < ρd.length)
    (q : ∀ v w u F2 H2, Step F H (Own ρ σ) F2 H2 (Own (setS (setS (setS ρd i (some r)) j (some q')) l (some u')) (((σ.set i (some v)).set j (some w)).set l (some u))) → Good K F2 H2 (setS (setS (setS ρd i (some r)) j (some q')) l (some u')) (((σ.set i (some v)).set j (some w)).set l (some u)) → P v w u H2) :
    tE Φ K a σ H fun v H1 => tE Φ K b σ H1 fun w H2 => tE Φ K d σ H2 fun u H3 => P v w u H3 := by
  refine ⟨F, ρ, r, ρa, g, e1, fun v F1 H1 s1 g1 => ⟨F1, ρa, q', ρb, g1.left (len1 g1), e2, fun w F2 H2 s2 g2 => ⟨F2, ρb, u', ρd, g2.left (len1 g2), e3, fun u F3 H3 s3 g3 => ?_⟩⟩⟩
  have h1 := len1 g1
  have h2 := len1 g2
  have h3 := len1 g3
  -- [v], [w] stand by
  have z2 := g1.frame h1 s2 g2
  have S2 := s1.trans (s2.app (τ := [some r]) (υ := [some v]) h1 g2.len)
  have hlw : (ρb ++ [some q']).length = (σ ++ [some w]).length := g2.len
  have a2 : ((ρb ++ [some q']) ++ [some r]) = ρb ++ ([some q'] ++ [some r]) := List.append_assoc ..
  have b2 : ((σ ++ [some w]) ++ [some v]) = σ ++ ([some w] ++ [some v]) := List.append_assoc ..
  rw [a2, b2] at z2 S2
  have z3 := z2.frame h2 s3 g3
  have S3 := S2.trans (s3.app (τ := [some q'] ++ [some r]) (υ := [some w] ++ [some v]) h2 g3.len)
  -- put the first one
  have a3 : (ρd ++ [some u']) ++ ([some q'] ++ [some r]) = ((ρd ++ [some u']) ++ [some q']) ++ [some r] := by simp
  have b3 : (σ ++ [some u]) ++ ([some w] ++ [some v]) = ((σ ++ [some u]) ++ [some w]) ++ [some v] := by simp
  rw [a3, b3] at z3 S3
  have h4 : ((ρd ++ [some u']) ++ [some q']).length = ((σ ++ [some u]) ++ [some w]).length := by simp [h3]
  have y1 := z3.put h4 i
  have T1 := S3.weak fun c y => own_put (i := i) (r := r) (v := v) h4 y
  have e5 : setS ((ρd ++ [some u']) ++ [some q']) i (some r) = (setS ρd i (some r) ++ [some u']) ++ [some q'] := by rw [setS_eq, setS_eq, List.set_append_left _ _ (by simp; omega), List.set_append_left _ _ hi]
  have e6 : ((σ ++ [some u]) ++ [some w]).set i (some v) = (σ.set i (some v) ++ [some u]) ++ [some w] := by rw [List.set_append_left _ _ (by simp; omega), List.set_append_left _ _ (by omega)]
  rw [e5, e6] at y1 T1
  have h5 : (setS ρd i (some r) ++ [some u']).length = (σ.set i (some v) ++ [some u]).length := by simp [setS_len, h3]
  have y2 := y1.put h5 j
  have T2 := T1.weak fun c y => own_put (i := j) (r := q') (v := w) h5 y
  have e7 : setS (setS ρd i (some r) ++ [some u']) j (some q') = setS (setS ρd i (some r)) j (some q') ++ [some u'] := by rw [setS_eq, setS_eq (setS ρd i (some r)), List.set_append_left _ _ (by rw [setS_len]; exact hj)]
  have e8 : (σ.set i (some v) ++ [some u]).set j (some w) = (σ.set i (some v)).set j (some w) ++ [some u] := List.set_append_left _ _ (by rw [List.length_set]; omega)
  rw [e7, e8] at y2 T2
  have h6 : (setS (setS ρd i (some r)) j (some q')).length = ((σ.set i (some v)).set j (some w)).length := by rw [setS_len, setS_len, List.length_set, List.length_set]; exact h3
  exact q v w u F3 H3 (T2.weak fun c y => own_put (i := l) (r := u') (v := u) h6 y) (y2.put h6 l)
theorem x_par3 (C : COk t Φ k c X) {i j l : Nat} {a b d : E} {x y z : Str} {px py pz qt q2 p : Pos} {kt k2 : Nat} {u v w : Expr} (hx : stoB c i x = true) (hy : stoB c j y = true) (hz : stoB c l z = true) (hij : i ≠ j ∧ i ≠ l ∧ j ≠ l) (ha : chkE t a c u = true) (hb : chkE t b c v = true) (hd : chkE t d c w = true)
    (su : (!isStar u) = true) (sv : (!isStar v) = true) (sw : (!isStar w) = true) (hp : par3B c x y z px py pz u v w = true) (hk : X.env.scope.kind = .function) :
    PS X (.Assign [.Tuple [.Name x px, .Name y py, .Name z pz] kt qt] (.Tuple [u, v, w] k2 q2) p) (tS Φ X.K (.par3 i j l a b d)) := by
  obtain ⟨l1, l2, l3⟩ := C.loc hx
  obtain ⟨m1, m2, m3⟩ := C.loc hy
  obtain ⟨n1, n2, n3⟩ := C.loc hz
  have pa := pa_cons ((all_E a).ae C ha) (pa_cons ((all_E b).ae C hb) (pa_cons ((all_E d).ae C hd) pa_nil (noStar_cons (es := []) (env := X.env) (star_of sw))) (noStar_cons (es := [w]) (env := X.env) (star_of sv))) (noStar_cons (es := [v, w]) (env := X.env) (star_of su))
  unfold par3B at hp
  obtain ⟨hp, h10⟩ := and_t hp
  obtain ⟨hp, h9⟩ := and_t hp
  obtain ⟨hp, h8⟩ := and_t hp
  obtain ⟨hp, h7⟩ := and_t hp
  obtain ⟨hp, h6⟩ := and_t hp
  obtain ⟨hp, h5⟩ := and_t hp
  obtain ⟨hp, h4⟩ := and_t hp
  obtain ⟨hp, h3⟩ := and_t hp
  obtain ⟨h1, h2⟩ := and_t hp
  have lk : ∀ {x : Str}, kindIs c.sc x .local = true → X.env.scope.names.lookup x = some .local := fun h => by
    rw [C.sc]
    exact kind_t h
  have ne : ∀ {x y : Str}, (!sEq x y) = true → x ≠ y := fun h e => by
    rw [e] at h
    simp [sEq] at h
  refine (ps_par3 (pos := p) C.calm C.nd l1 m1 n1 hij.1 hij.2.1 hij.2.2 (lk h1) (lk h2) (lk h3) pa (swap_yes3 hk su sv sw (lk h1) (lk h2) (lk h3) h4 h5 (ne h6) (ne h7) (ne h8) (not_t h9) (not_t h10))).imp fun D σ H ⟨F, ρ, fl, ρ1, g, ev, q⟩ => ?_
  obtain ⟨⟨r, ρa⟩, e1, ev⟩ := bnd ev
  obtain ⟨⟨q', ρb⟩, e2, ev⟩ := bnd ev
  obtain ⟨⟨u', ρd⟩, e3, ev⟩ := bnd ev
  have ev : (if i < ρd.length ∧ j < ρd.length ∧ l < ρd.length then some (Fl.next, setS (setS (setS ρd i (some r)) j (some q')) l (some u')) else none) = some (fl, ρ1) := ev
  obtain ⟨⟨hi, hj, hl⟩, ev⟩ := ite_some ev
  cases ev
  exact par3_core (P := fun v w u H2 => ∃ a1 a2 a3, [v, w, u] = [a1, a2, a3] ∧ D.nx (((σ.set i (some a1)).set j (some a2)).set l (some a3)) H2) g e1 e2 e3 hi hj hl fun v w u F2 H2 s2 g2 => ⟨v, w, u, rfl, q _ F2 H2 .three s2 g2⟩
theorem ixOk {r : Expr} {l : Expr} {pr : Pos} {env : PySem.Env} (h : plainIx r = true) : ∀ v, assign (.Subscript l r pr) env v = (do
      let ov ← holding [v] (eval l env)
      let iv ← holding [v, ov] (eval r env)
      standAt pr
      holding [v, ov, iv] (setItem ov iv v)
      release [v, ov, iv] []) := by
  intro u
  cases r with
  | Constant w kk pos => cases w <;> first | rfl | exact nomatch h
  | _ => first | rfl | exact nomatch h
theorem x_xpar (C : COk t Φ k c X) {i j : Nat} {ix a b : E} {x y : Str} {r : Expr} {px pr py qt q2 p : Pos} {kt k2 : Nat} {v w : Expr} (hx : varB c i x = true) (hy : stoB c j y = true) (hij : i ≠ j) (hr : chkE t ix c r = true) (hp : plainIx r = true) (ha : chkE t a c v = true) (hb : chkE t b c w = true)
    (sv : (!isStar v) = true) (sw : (!isStar w) = true) : PS X (.Assign [.Tuple [.Subscript (.Name x px) r pr, .Name y py] kt qt] (.Tuple [v, w] k2 q2) p) (tS Φ X.K (.xpar i ix j a b)) := by
  obtain ⟨m1, m2, m3⟩ := C.loc hy
  have pa : PA X [v, w] (tF Φ X.K (.cons a (.cons b .nil))) := f_cons sv ((all_E a).ae C ha) (f_cons sw ((all_E b).ae C hb) f_nil)
  refine (ps_asg (pe_tup pa) (pg_tup (n := 2) C.calm (pgs_cons (pg_sub (C.pvar hx) ((all_E ix).op C hr) (set_dict C.u1) (ixOk hp)) (pgs_cons (pg_name C.nd m1 m2 m3) pgs_nil rfl) rfl) rfl rfl) rfl (swap_sub sv sw)).imp fun D σ H ⟨F, ρ, fl, ρ1, g, ev, q⟩ => ?_
  obtain ⟨⟨ds, ρa⟩, e1, ev⟩ := bnd ev
  match ds, ev with
  | [d, e], ev =>
    obtain ⟨r0, e0, ev⟩ := bnd ev
    obtain ⟨⟨y, ρb⟩, e3, ev⟩ := bnd ev
    obtain ⟨kd, e4, ev⟩ := bnd ev
    obtain ⟨rr, e5, ev⟩ := bnd ev
    cases rr with
    | m tt kvs =>
      obtain ⟨kk, e6, ev⟩ := bnd ev
      have ev : (if okN (kvs.length + 1) = true then some (Fl.next, setS (setS ρb i (some (.m tt (putM kvs kk d)))) j (some (.v e))) else none) = some (fl, ρ1) := ev
      obtain ⟨hz, ev⟩ := ite_some ev
      cases ev
      refine two_frz g e1 fun vs F2 H2 s2 g2 rp => ?_
      obtain ⟨v1, w1, rfl, rv, rw'⟩ : ∃ v1 w1, vs = [v1, w1] ∧ Rp F2 v1 d ∧ Rp F2 w1 e := by
        cases rp with
        | cons p1 p2 =>
          cases p2 with
          | cons p3 p4 =>
            cases p4
            exact ⟨_, _, rfl, p1, p3⟩
      refine ⟨by rw [sizeLine_eq]; show 2 ≤ 16777216; decide, fun pt hpt => ?_⟩
      have g3 := g2.junk (o := .tup [v1, w1]) hpt
      have s3 : Step F H (Own ρ σ) F2 (upd H2 pt (.tup [v1, w1])) (Own ρa σ) := s2.trans (Step.junk hpt)
      obtain ⟨v0, hv0⟩ := g3.has i r0 (getS_eq.mp e0)
      refine ⟨pt, [v1, w1], rfl, SqT.of upd_same, rfl, v1, [w1], rfl, v0, hv0, F2, ρa, y, ρb, g3, e3, fun u F4 H4 s4 g4 r4 => ?_⟩
      obtain ⟨ad, o, ea, a1, a2, a3⟩ := g4.dict e5 hv0
      subst ea
      obtain ⟨o', b1, b2⟩ := dput_of g4.sub a1 a2 (r4.vw g4 e4) e6 (rv.mono s4.fz) hz
      refine ⟨ad, _, rfl, b1, w1, [], rfl, rfl, ?_⟩
      have g5 := g4.writeR (r := .m tt (putM kvs kk d)) (o := o') e5 rfl hv0 fun hf => ⟨ad, o', rfl, upd_same, b2, hf⟩
      have s5 := ((s3.trans s4).trans (Step.write (o := o') ⟨i, _, ⟨getS_eq.mp e5, hv0⟩, rfl⟩)).weak fun b z => own_writeR (r := .m tt (putM kvs kk d)) e5 rfl z
      obtain ⟨g6, o6⟩ := g5.storeD (i := j) (rw'.mono s4.fz)
      exact q _ F4 _ .set (s5.weak o6) g6
    | _ => cases ev
  | [], ev => exact nomatch (show (none : Option (Fl × Env)) = some _ from ev)
  | [_], ev => exact nomatch (show (none : Option (Fl × Env)) = some _ from ev)
  | _ :: _ :: _ :: _, ev => exact nomatch (show (none : Option (Fl × Env)) = some _ from ev)
theorem x_swp (C : COk t Φ k c X) {i : Nat} {ix iy a b : E} {x y : Str} {r r2 : Expr} {px pr py pr2 qt q2 p : Pos} {kt k2 : Nat} {v w : Expr} (hx : varB c i x = true) (hy : varB c i y = true) (hr : chkE t ix c r = true) (hp : plainIx r = true) (hr2 : chkE t iy c r2 = true) (hp2 : plainIx r2 = true) (ha : chkE t a c v = true) (hb : chkE t b c w = true)
    (sv : (!isStar v) = true) (sw : (!isStar w) = true) : PS X (.Assign [.Tuple [.Subscript (.Name x px) r pr, .Subscript (.Name y py) r2 pr2] kt qt] (.Tuple [v, w] k2 q2) p) (tS Φ X.K (.swp i ix iy a b)) := by
  have pa : PA X [v, w] (tF Φ X.K (.cons a (.cons b .nil))) := f_cons sv ((all_E a).ae C ha) (f_cons sw ((all_E b).ae C hb) f_nil)
  refine (ps_asg (pe_tup pa) (pg_tup (n := 2) C.calm (pgs_cons (pg_sub (C.pvar hx) ((all_E ix).op C hr) set_list (ixOk hp)) (pgs_cons (pg_sub (C.pvar hy) ((all_E iy).op C hr2) set_list (ixOk hp2)) pgs_nil rfl) rfl) rfl rfl) rfl (swap_sub2 sv sw)).imp fun D σ H ⟨F, ρ, fl, ρ1, g, ev, q⟩ => ?_
  obtain ⟨⟨ds, ρa⟩, e1, ev⟩ := bnd ev
  match ds, ev with
  | [d, e], ev =>
    obtain ⟨r0, e0, ev⟩ := bnd ev
    obtain ⟨⟨y, ρb⟩, e3, ev⟩ := bnd ev
    obtain ⟨kd, e4, ev⟩ := bnd ev
    obtain ⟨rr, e5, ev⟩ := bnd ev
    cases rr with
    | l xs =>
      cases kd with
      | int z =>
        obtain ⟨n, e6, ev⟩ := bnd ev
        obtain ⟨⟨y2, ρd⟩, e7, ev⟩ := bnd ev
        obtain ⟨ld, e8, ev⟩ := bnd ev
        obtain ⟨rr2, e9, ev⟩ := bnd ev
        cases rr2 with
        | l ys =>
          cases ld with
          | int z2 =>
            obtain ⟨m, e10, ev⟩ := bnd ev
            cases ev
            refine two_frz g e1 fun vs F2 H2 s2 g2 rp => ?_
            obtain ⟨v1, w1, rfl, rv, rw'⟩ : ∃ v1 w1, vs = [v1, w1] ∧ Rp F2 v1 d ∧ Rp F2 w1 e := by
              cases rp with
              | cons p1 p2 =>
                cases p2 with
                | cons p3 p4 =>
                  cases p4
                  exact ⟨_, _, rfl, p1, p3⟩
            refine ⟨by rw [sizeLine_eq]; show 2 ≤ 16777216; decide, fun pt hpt => ?_⟩
            have g3 := g2.junk (o := .tup [v1, w1]) hpt
            have s3 : Step F H (Own ρ σ) F2 (upd H2 pt (.tup [v1, w1])) (Own ρa σ) := s2.trans (Step.junk hpt)
            obtain ⟨v0, hv0⟩ := g3.has i r0 (getS_eq.mp e0)
            refine ⟨pt, [v1, w1], rfl, SqT.of upd_same, rfl, v1, [w1], rfl, v0, hv0, F2, ρa, y, ρb, g3, e3, fun u F4 H4 s4 g4 r4 => ?_⟩
            obtain ⟨ad, us, ea, a1, a2, a3⟩ := g4.at e5 hv0
            subst ea
            refine ⟨ad, us, z, n, rfl, vw_int (r4.vw g4 e4), a1, by rw [a2.len]; exact e6, w1, [], rfl, ?_⟩
            have g5 := g4.write e5 hv0 (a2.set n (rv.mono s4.fz))
            have s5 := ((s3.trans s4).trans (Step.write (o := .lst (us.set n v1)) ⟨i, _, ⟨getS_eq.mp e5, hv0⟩, rfl⟩)).weak fun b z => own_write (ys := xs.set n d) e5 z
            refine ⟨_, hv0, F4, _, y2, ρd, g5, e7, fun u2 F6 H6 s6 g6 r6 => ?_⟩
            obtain ⟨ad2, us2, ea2, b1, b2, b3⟩ := g6.at e9 hv0
            cases ea2
            refine ⟨ad, us2, z2, m, rfl, vw_int (r6.vw g6 e8), b1, by rw [b2.len]; exact e10, rfl, ?_⟩
            have g7 := g6.write e9 hv0 (b2.set m ((rw'.mono s4.fz).mono s6.fz))
            have s7 := ((s5.trans s6).trans (Step.write (o := .lst (us2.set m w1)) ⟨i, _, ⟨getS_eq.mp e9, hv0⟩, rfl⟩)).weak fun b z => own_write (ys := ys.set m e) e9 z
            exact q σ F6 _ .refl s7 g7
          | _ => cases ev
        | _ => cases ev
      | _ => cases ev
    | _ => cases ev
  | [], ev => exact nomatch (show (none : Option (Fl × Env)) = some _ from ev)
  | [_], ev => exact nomatch (show (none : Option (Fl × Env)) = some _ from ev)
  | _ :: _ :: _ :: _, ev => exact nomatch (show (none : Option (Fl × Env)) = some _ from ev)
theorem x_for (C : COk t Φ k c X) {tg : Tg} {it : E} {b : S} {g iter : Expr} {body : List Stmt} {p : Pos} (h1 : chkI t it c g iter = true) (h2 : noSet iter = true) (h3 : chkTg c tg g = true) (hb : PSs X body (tS Φ X.K b)) : PS X (.For g iter body [] p) (tS Φ X.K (.for_ tg it b)) := by
  refine (ps_for (by rw [C.xe]; exact .never) C.calm ((all_E it).ai C h1) ((g_all C tg).1 g h3) hb (fold_of h2)).imp fun D σ H ⟨F, ρ, fl, ρz, g, ev, q⟩ => ?_
  obtain ⟨⟨ds, ρ1⟩, e1, ev⟩ := bnd ev
  refine ⟨F, ρ, ds, ρ1, g, e1, fun J F1 H1 s1 g1 wk => ?_⟩
  let f : PyData → Env → Option (Fl × Env) := fun d ρ => (bindT tg d ρ).bind fun ρ2 => ex Φ b ρ2
  have ev : forL f ds ρ1 = some (fl, ρz) := ev
  let P : Nat → St → Hp → Prop := fun i σ' H' => ∃ F' ρ', Kp (tg.sl ++ b.st) σ σ' ∧ Step F H (Own ρ σ) F' H' (Own ρ' σ') ∧ Sub F1 F' ∧ Good X.K F' H' ρ' σ' ∧ forL f (ds.drop i) ρ' = some (fl, ρz)
  refine ⟨fun i m σ' H' => m = ds.length - i ∧ i ≤ ds.length ∧ P i σ' H', ⟨ds.length, by simp, Nat.zero_le _, F1, ρ1, .refl, s1, Sub.rfl, g1, ev⟩, ?_⟩
  rintro i m σ' H' ⟨rfl, hi, F', ρ', kp, sg, sb, gg, ef⟩
  by_cases lt : i < ds.length
  · refine .inr ⟨wk.go i F' H' lt sb gg.sub, P (i + 1), fun σ'' H'' p' => ⟨ds.length - (i + 1), by omega, rfl, lt, p'⟩, fun x H'' y => ?_⟩
    obtain ⟨F2, s2, sub2, rp⟩ := wk.yld i F' H' x H'' _ (List.getElem?_eq_getElem lt) sb gg.sub y
    have g2 := gg.grow s2 sub2
    have sg2 := sg.trans (step_none s2)
    rw [List.drop_eq_getElem_cons lt] at ef
    obtain ⟨⟨fb, ρb⟩, e3, ef⟩ := bnd ef
    obtain ⟨ρa, e4, e5⟩ := bnd e3
    refine ⟨F2, ds[i], ρ', ρa, g2, rp, e4, fun σ2 hk g3 o3 => ?_⟩
    have kt : Kp tg.sl σ' σ2 := by
      refine ⟨?_, hk⟩
      have l3 := g3.len
      have l2 := g2.len
      rw [← l3, (bindT_len tg ds[i] _ _).1 e4, l2]
    have sg3 : Step F H (Own ρ σ) F2 H'' (Own ρa σ2) := sg2.trans (Step.refl.weak o3)
    have kp3 : Kp (tg.sl ++ b.st) σ σ2 := kp.trans kt (fun j z => z) fun j z => List.mem_append_left _ z
    refine ⟨F2, ρa, fb, ρb, g3, e5, ?_⟩
    cases fb with
    | next => exact fun σ4 F4 H4 k4 s4 g4 => ⟨F4, ρb, kp3.trans k4 (fun j z => z) (fun j z => List.mem_append_right _ z), sg3.trans s4, (sb.trans s2.fz).trans s4.fz, g4, ef⟩
    | cont => exact fun σ4 F4 H4 k4 s4 g4 => ⟨F4, ρb, kp3.trans k4 (fun j z => z) (fun j z => List.mem_append_right _ z), sg3.trans s4, (sb.trans s2.fz).trans s4.fz, g4, ef⟩
    | brk =>
      cases ef
      exact fun σ4 F4 H4 k4 s4 g4 => q σ4 F4 H4 (kp3.trans k4 (fun j z => z) (fun j z => List.mem_append_right _ z)) (sg3.trans s4) g4
    | ret r =>
      cases ef
      exact fun v σ4 F4 H4 k4 s4 g4 => q v σ4 F4 H4 (kp3.trans k4 (fun j z => z) (fun j z => List.mem_append_right _ z)) (sg3.trans s4) g4
  · have e : i = ds.length := by omega
    subst e
    rw [List.drop_length] at ef
    cases ef
    exact .inl ⟨wk.stop F' H' sb gg.sub, q σ' F' H' kp sg gg⟩
theorem x_while (C : COk t Φ k c X) {d : E} {b : S} {x : Expr} {body : List Stmt} {p : Pos} (hd : PT X x (tT Φ X.K d)) (hb : PSs X body (tS Φ X.K b)) : PS X (.While x body [] p) (tS Φ X.K (.while_ d b)) := by
  refine (ps_while (by rw [C.xe]; exact .never) hd hb).imp fun D σ H ⟨F, ρ, fl, ρz, g, ev, q⟩ => ?_
  refine ⟨fun m σ' H' => ∃ F' ρ', Kp b.st σ σ' ∧ Step F H (Own ρ σ) F' H' (Own ρ' σ') ∧ Good X.K F' H' ρ' σ' ∧ whileN (evT Φ d) (ex Φ b) m ρ' = some (fl, ρz), ⟨WF, F, ρ, .refl, Step.refl, g, ev⟩, ?_⟩
  rintro m σ' H' ⟨F', ρ', kp, sg, gg, ew⟩
  cases m with
  | zero => cases ew
  | succ n =>
    obtain ⟨⟨bb, ρa⟩, e1, ew⟩ := bnd ew
    refine ⟨F', ρ', bb, ρa, gg, e1, fun F2 H2 s2 g2 => ?_⟩
    have sg2 := sg.trans s2
    cases bb with
    | false =>
      cases ew
      exact q σ' F2 H2 kp sg2 g2
    | true =>
      obtain ⟨⟨fb, ρb⟩, e2, ew⟩ := bnd ew
      refine ⟨fun σ'' H'' => ∃ F'' ρ'', Kp b.st σ σ'' ∧ Step F H (Own ρ σ) F'' H'' (Own ρ'' σ'') ∧ Good X.K F'' H'' ρ'' σ'' ∧ whileN (evT Φ d) (ex Φ b) n ρ'' = some (fl, ρz), fun σ'' H'' h => ⟨n, Nat.lt_succ_self n, h⟩, F2, ρa, fb, ρb, g2, e2, ?_⟩
      cases fb with
      | next => exact fun σ4 F4 H4 k4 s4 g4 => ⟨F4, ρb, kp.trans k4 (fun j z => z) (fun j z => z), sg2.trans s4, g4, ew⟩
      | cont => exact fun σ4 F4 H4 k4 s4 g4 => ⟨F4, ρb, kp.trans k4 (fun j z => z) (fun j z => z), sg2.trans s4, g4, ew⟩
      | brk =>
        cases ew
        exact fun σ4 F4 H4 k4 s4 g4 => q σ4 F4 H4 (kp.trans k4 (fun j z => z) (fun j z => z)) (sg2.trans s4) g4
      | ret r =>
        cases ew
        exact fun v σ4 F4 H4 k4 s4 g4 => q v σ4 F4 H4 (kp.trans k4 (fun j z => z) (fun j z => z)) (sg2.trans s4) g4
theorem tS_never {D : Ends} {σ : St} {H : Hp} : tS Φ K .never D σ H → tNever D σ H := fun ⟨_, _, _, _, _, ev, _⟩ => nomatch (show (none : Option (Fl × Env)) = some _ from ev)
theorem all_S (C : COk t Φ k c X) (hk : X.env.scope.kind = .function) (s : S) : (∀ x, chkS t s c x = true → PS X x (tS Φ X.K s)) ∧ (∀ xs, chkSs t s c xs = true → PSs X xs (tS Φ X.K s)) := by
  induction s with
  | skip => exact ⟨fun x h => (nomatch (show false = true from h)), fun xs h => by
      obtain rfl := w_skip h
      exact x_skip⟩
  | seq a b iha ihb => exact ⟨fun x h => (nomatch (show false = true from h)), fun xs h => by
      obtain ⟨y, ys, rfl, h1, h2⟩ := w_seq h
      exact x_seq (iha.1 _ h1) (ihb.2 _ h2)⟩
  | asg i e => exact ⟨fun x h => by
      obtain ⟨y, py, v, p, rfl, h1, h2, h3⟩ := w_asg h
      exact (x_asg C h1 h2 h3 hk).1, fun xs h => (nomatch (show false = true from h))⟩
  | asgF i e => exact ⟨fun x h => by
      obtain ⟨y, py, v, p, rfl, h1, h2, h3⟩ := w_asgF h
      exact (x_asg C h1 h2 h3 hk).2, fun xs h => (nomatch (show false = true from h))⟩
  | asgT tg e => exact ⟨fun x h => by
      obtain ⟨es, kk, q, v, p, rfl, h1, h2, h3⟩ := w_asgT h
      exact x_asgT C h1 h2 h3, fun xs h => (nomatch (show false = true from h))⟩
  | par i j a b => exact ⟨fun x h => by
      obtain ⟨x, px, y, py, kt, qt, v, w, k2, q2, p, rfl, h1, h2, h3, h4, h5, h6, h7, h8⟩ := w_par h
      exact x_par C h1 h2 h3 h4 h5 h6 h7 h8 hk, fun xs h => (nomatch (show false = true from h))⟩
  | aug i op e => exact ⟨fun x h => by
      obtain ⟨x, xp, v, p, rfl, h1, h2, h3, h4⟩ := w_aug h
      exact x_aug C h1 h3 h4, fun xs h => (nomatch (show false = true from h))⟩
  | setx i ix e => exact ⟨fun x h => by
      obtain ⟨x, xp, r, q, v, p, rfl, h1, h2, h3, h4, h5⟩ := w_setx h
      exact x_setx C h1 h2 h3 h4 h5, fun xs h => (nomatch (show false = true from h))⟩
  | app i e => exact ⟨fun x h => by
      obtain ⟨x, xp, ap, v, cp, p, rfl, h1, h2, h3, h4⟩ := w_app h
      exact x_app C h1 h2 h3 h4, fun xs h => (nomatch (show false = true from h))⟩
  | ext i e => exact ⟨fun x h => by
      obtain ⟨x, xp, ap, v, cp, p, rfl, h1, h2, h3, h4⟩ := w_ext h
      exact x_ext C h1 h2 h3 h4, fun xs h => (nomatch (show false = true from h))⟩
  | ret e => exact ⟨fun x h => by
      obtain ⟨v, p, rfl, h1⟩ := w_ret h
      exact x_ret ((all_E e).ae C h1), fun xs h => (nomatch (show false = true from h))⟩
  | retN => exact ⟨fun x h => by
      obtain ⟨p, rfl⟩ := w_retN h
      exact x_retN, fun xs h => (nomatch (show false = true from h))⟩
  | if_ d a b iha ihb => exact ⟨fun x h => by
      obtain ⟨x, xs, ys, p, rfl, h1, h2, h3⟩ := w_if h
      exact x_if ((all_E d).aq C h1) (iha.2 _ h2) (ihb.2 _ h3), fun xs h => (nomatch (show false = true from h))⟩
  | for_ tg it b ih => exact ⟨fun x h => by
      obtain ⟨g, iter, body, p, rfl, h1, h2, h3, h4⟩ := w_for h
      exact x_for C h1 h2 h3 (ih.2 _ h4), fun xs h => (nomatch (show false = true from h))⟩
  | while_ d b ih => exact ⟨fun x h => by
      obtain ⟨x, body, p, rfl, h1, h2⟩ := w_while h
      exact x_while C ((all_E d).aq C h1) (ih.2 _ h2), fun xs h => (nomatch (show false = true from h))⟩
  | brk => exact ⟨fun x h => by
      obtain ⟨p, rfl⟩ := w_brk h
      exact x_brk, fun xs h => (nomatch (show false = true from h))⟩
  | cont => exact ⟨fun x h => by
      obtain ⟨p, rfl⟩ := w_cont h
      exact x_cont, fun xs h => (nomatch (show false = true from h))⟩
  | pass => exact ⟨fun x h => by
      obtain ⟨p, rfl⟩ := w_pass h
      exact x_pass, fun xs h => (nomatch (show false = true from h))⟩
  | drop e => exact ⟨fun x h => by
      obtain ⟨v, p, rfl, h1, h2⟩ := w_drop h
      exact x_drop h2 ((all_E e).ae C h1), fun xs h => (nomatch (show false = true from h))⟩
  | dput i ix e => exact ⟨fun x h => by
      obtain ⟨x, xp, r, q, v, p, rfl, h1, h2, h3, h4, h5⟩ := w_dput h
      exact x_dput C h1 h2 h3 h4 h5, fun xs h => (nomatch (show false = true from h))⟩
  | par3 i j l a b d => exact ⟨fun x h => by
      obtain ⟨x, px, y, py, z, pz, kt, qt, u, v, w, k2, q2, p, rfl, h1, h2, h3, h4, h5, h6, h7, h8, h9, h10, h11⟩ := w_par3 h
      exact x_par3 C h1 h2 h3 h4 h5 h6 h7 h8 h9 h10 h11 hk, fun xs h => (nomatch (show false = true from h))⟩
  | xpar i ix j a b => exact ⟨fun x h => by
      obtain ⟨x, px, r, pr, y, py, kt, qt, v, w, k2, q2, p, rfl, h1, h2, h3, h4, h5, h6, h7, h8, h9⟩ := w_xpar h
      exact x_xpar C h1 h2 h3 h4 h5 h6 h7 h8 h9, fun xs h => (nomatch (show false = true from h))⟩
  | swp i ix iy a b => exact ⟨fun x h => by
      obtain ⟨x, px, r, pr, y, py, r2, pr2, kt, qt, v, w, k2, q2, p, rfl, h1, h2, h3, h4, h5, h6, h7, h8, h9, h10⟩ := w_swp h
      exact x_swp C h1 h2 h3 h4 h5 h6 h7 h8 h9 h10, fun xs h => (nomatch (show false = true from h))⟩
  | never => exact ⟨fun x _ => ps_never.imp fun D σ H h => tS_never h, fun xs _ => pss_never.imp fun D σ H h => tS_never h⟩
end
end Pv
namespace Pv
open PySem PySem.Spec L2
/-! ## functions -/
section
variable {K : PySem.W.Frag} {F H F1 H1 : Hp} {ρ ρ1 τ : Env} {σ σ1 : St}
theorem entryL_get (f : Fn) : ∀ (rs : List R) (j i : Nat), (entryL f j rs)[i]? = (rs[i]?).map fun r => if f.io (j + i) = true then some r else frzE r
  | [], j, i => by
    show ([] : Env)[i]? = _
    simp
  | r :: rs, j, 0 => by
    show ((if f.io j = true then some r else frzE r) :: entryL f (j + 1) rs)[0]? = _
    simp
  | r :: rs, j, i + 1 => by
    show ((if f.io j = true then some r else frzE r) :: entryL f (j + 1) rs)[i + 1]? = _
    rw [List.getElem?_cons_succ, List.getElem?_cons_succ, entryL_get f rs (j + 1) i, show j + 1 + i = j + (i + 1) by omega]
theorem entryL_len (f : Fn) : ∀ (rs : List R) (j : Nat), (entryL f j rs).length = rs.length
  | [], _ => rfl
  | r :: rs, j => congrArg (· + 1) (entryL_len f rs (j + 1))
theorem outsL_get (f : Fn) (ρ : Env) : ∀ (rs : List R) (j : Nat) (outs : List R), outsL f ρ j rs = some outs → outs.length = rs.length ∧ ∀ i r, rs[i]? = some r → ∃ q, outs[i]? = some q ∧ ((f.io (j + i) = true ∧ getS ρ (j + i) = some q) ∨ (f.io (j + i) = false ∧ some q = frzE r))
  | [], j, outs, h => by
    cases h
    exact ⟨rfl, fun i r e => by simp at e⟩
  | r :: rs, j, outs, h => by
    obtain ⟨q, e1, h⟩ := bnd h
    obtain ⟨qs, e2, h⟩ := bnd h
    cases h
    obtain ⟨l, ih⟩ := outsL_get f ρ rs (j + 1) qs e2
    refine ⟨congrArg (· + 1) l, fun i r' e => ?_⟩
    cases i with
    | zero =>
      cases e
      refine ⟨q, rfl, ?_⟩
      by_cases z : f.io j = true
      · rw [if_pos z] at e1
        exact .inl ⟨z, e1⟩
      · rw [if_neg z] at e1
        exact .inr ⟨by simpa using z, e1.symm⟩
    | succ i =>
      have := ih i r' (by simpa using e)
      rw [show j + 1 + i = j + (i + 1) by omega] at this
      simpa using this
theorem frz_own {r q : R} (h : some q = frzE r) : q.own = false := by
  cases r <;> cases h <;> rfl
/-- the parameters that the body stores are given up at the entry -/
theorem entry_step (f : Fn) : ∀ (rs : List R) (dn : Env) (F : Hp), Good K F H (dn ++ rs.map some) σ → ∃ F', Step F H (Own (dn ++ rs.map some) σ) F' H (Own (dn ++ entryL f dn.length rs) σ) ∧ Good K F' H (dn ++ entryL f dn.length rs) σ
  | [], dn, F, g => ⟨F, Step.refl, g⟩
  | r :: rs, dn, F, g => by
    have go : ∀ (q : Option R) (F1 : Hp), Good K F1 H (dn ++ (q :: rs.map some)) σ → q = (if f.io dn.length = true then some r else frzE r) → ∃ F', Step F1 H (Own (dn ++ (q :: rs.map some)) σ) F' H (Own (dn ++ entryL f dn.length (r :: rs)) σ) ∧ Good K F' H (dn ++ entryL f dn.length (r :: rs)) σ := fun q F1 g1 eq => by
      have ea : dn ++ (q :: rs.map some) = (dn ++ [q]) ++ rs.map some := by rw [List.append_assoc]; rfl
      have eb : dn ++ entryL f dn.length (r :: rs) = (dn ++ [q]) ++ entryL f (dn ++ [q]).length rs := by
        rw [List.append_assoc, List.length_append, eq]
        rfl
      rw [ea] at g1 ⊢
      rw [eb]
      exact entry_step f rs (dn ++ [q]) F1 g1
    by_cases z : f.io dn.length = true
    · exact go (some r) F g (by rw [if_pos z])
    · cases r with
      | v d => exact go (some (.v d)) F g (by rw [if_neg z]; rfl)
      | s ns => exact go (some (.s ns)) F g (by rw [if_neg z]; rfl)
      | m tt kvs =>
        have e : setS (dn ++ List.map some (R.m tt kvs :: rs)) dn.length none = dn ++ (none :: rs.map some) := by
          rw [setS_eq, List.set_append_right _ _ (Nat.le_refl _), Nat.sub_self]
          rfl
        have g1 := g.drop dn.length
        have o1 : ∀ a, Own (setS (dn ++ List.map some (R.m tt kvs :: rs)) dn.length none) σ a → Own (dn ++ List.map some (R.m tt kvs :: rs)) σ a := fun a h => own_drop h
        rw [e] at g1 o1
        obtain ⟨F2, s2, g2⟩ := go none F g1 (by rw [if_neg z]; rfl)
        exact ⟨F2, s2.wide o1, g2⟩
      | l xs =>
        have hr : getS (dn ++ List.map some (R.l xs :: rs)) dn.length = some (.l xs) := by
          rw [getS_eq, List.getElem?_append_right (Nat.le_refl _), Nat.sub_self]
          rfl
        obtain ⟨v, hv⟩ := g.has _ _ (getS_eq.mp hr)
        obtain ⟨a, us, ea, _⟩ := g.at hr hv
        subst ea
        obtain ⟨F1, s1, g1, _⟩ := g.freeze hr hv
        have e : setS (dn ++ List.map some (R.l xs :: rs)) dn.length (some (.v (.list xs))) = dn ++ (some (.v (.list xs)) :: rs.map some) := by
          rw [setS_eq, List.set_append_right _ _ (Nat.le_refl _), Nat.sub_self]
          rfl
        rw [e] at s1 g1
        obtain ⟨F2, s2, g2⟩ := go (some (.v (.list xs))) F1 g1 (by rw [if_neg z]; rfl)
        exact ⟨F2, s1.trans s2, g2⟩
theorem pad_hold {n m i : Nat} {r : R} {v : V} (hl : ρ.length = σ.length) (h : Hold (ρ ++ List.replicate n none) (σ ++ List.replicate m none) i r v) : Hold ρ σ i r v := by
  by_cases hi : i < ρ.length
  · exact (hold_left hl hi).mp h
  · have h := ((hold_right hl (by omega)).mp h).1
    rw [List.getElem?_replicate] at h
    split at h <;> cases h
theorem Good.pad (g : Good K F H ρ σ) {n m : Nat} (e : n = m) : Good K F H (ρ ++ List.replicate n none) (σ ++ List.replicate m none) := by
  have hl := g.len
  refine g.map (by simp only [List.length_append, List.length_replicate]; omega) (fun i r h => ?_) id (fun i r v h => pad_hold hl h) (fun _ _ _ _ _ _ _ _ _ e => e)
  by_cases hi : i < ρ.length
  · rw [List.getElem?_append_left hi] at h
    obtain ⟨v, e⟩ := g.has i r h
    exact ⟨v, by rw [List.getElem?_append_left (by omega)]; exact e⟩
  · rw [List.getElem?_append_right (by omega), List.getElem?_replicate] at h
    split at h <;> cases h
theorem rep_old {v : V} {r : R} (h : RepR K F H v r) (ho : r.own = false) (s : Sub F F1) : RepR K F1 H1 v r := by
  cases r with
  | v d => exact Rp.mono s h
  | l xs => cases ho
  | m _ _ => cases ho
  | s ns =>
    obtain ⟨a, e, h⟩ := h
    exact ⟨a, e, SqL.sub s h⟩
theorem back_good {f : Fn} {rs outs : List R} {vs : List V} {F0 H0 : Hp} {r : R} {v : V} {n m : Nat} (g0 : Good K F0 H0 (entryL f 0 rs ++ List.replicate n none) (vs.map some ++ List.replicate m none)) (hl : rs.length = vs.length) (sb : Sub F0 F1)
    (kp : Kp f.body.st (vs.map some ++ List.replicate m none) σ1) (ho : outsL f ρ1 0 rs = some outs) (g : Good K F1 H1 (ρ1 ++ [some r]) (σ1 ++ [some v])) :
    Good K F1 H1 (outs.map some ++ [some r]) (vs.map some ++ [some v]) ∧ ∀ a, Own (outs.map some ++ [some r]) (vs.map some ++ [some v]) a → Own (ρ1 ++ [some r]) (σ1 ++ [some v]) a := by
  obtain ⟨lo, og⟩ := outsL_get f ρ1 rs 0 outs ho
  have hl1 := len1 g
  have hlo : (outs.map some).length = (vs.map some).length := by rw [List.length_map, List.length_map, lo, hl]
  have at_ : ∀ i q w, Hold (outs.map some ++ [some r]) (vs.map some ++ [some v]) i q w → (i = outs.length ∧ q = r ∧ w = v) ∨ (i < outs.length ∧ f.io i = true ∧ Hold (ρ1 ++ [some r]) (σ1 ++ [some v]) i q w) ∨ (i < outs.length ∧ q.own = false ∧ RepR K F1 H1 w q) := fun i q w h => by
    rcases hold_last (τ := []) (υ := []) hlo h with ⟨e, e1, e2⟩ | ⟨lt, h⟩
    · rw [List.length_map] at e
      exact .inl ⟨e, e1, e2⟩
    · rw [List.length_map] at lt
      obtain ⟨h1, h2⟩ := h
      have lr : i < rs.length := by omega
      obtain ⟨q', e1, e2⟩ := og i rs[i] (List.getElem?_eq_getElem lr)
      rw [List.getElem?_map, e1] at h1
      cases h1
      rw [Nat.zero_add] at e2
      have hσ : (vs.map some ++ List.replicate m none)[i]? = some (some w) := by
        rw [List.getElem?_append_left (by rw [List.length_map]; omega)]
        exact h2
      rcases e2 with ⟨z, e2⟩ | ⟨z, e2⟩
      · refine .inr (.inl ⟨lt, z, hold_app ⟨getS_eq.mp e2, ?_⟩⟩)
        have hn : i ∉ f.body.st := fun y => by
          have z := (and_t z).1
          rw [List.contains_iff_mem.mpr y] at z
          cases z
        rw [kp.2 i hn]
        exact hσ
      · refine .inr (.inr ⟨lt, frz_own e2, ?_⟩)
        have z0 : RepR K F0 H0 w q := g0.rep i q w ⟨by
          rw [List.getElem?_append_left (by rw [entryL_len]; omega), entryL_get, List.getElem?_eq_getElem lr, Nat.zero_add, z, e2]
          rfl, hσ⟩
        exact rep_old z0 (frz_own e2) sb
  have own_at : ∀ i q w, Hold (outs.map some ++ [some r]) (vs.map some ++ [some v]) i q w → q.own = true → Hold (ρ1 ++ [some r]) (σ1 ++ [some v]) (if i = outs.length then ρ1.length else i) q w := fun i q w h o => by
    rcases at_ i q w h with ⟨e, rfl, rfl⟩ | ⟨lt, _, h⟩ | ⟨_, o', _⟩
    · rw [if_pos e]
      exact hold_top hl1
    · rw [if_neg (by omega)]
      exact h
    · rw [o'] at o
      cases o
  refine ⟨⟨g.sub, by simp only [List.length_append, List.length_map, List.length_singleton]; omega, fun i q h => ?_, fun i q w h => ?_, fun i j q q' a h1 h2 o1 o2 => ?_⟩, fun a ⟨i, q, h, o⟩ => ⟨_, q, own_at i q _ h o, o⟩⟩
  · have lt := (List.getElem?_eq_some_iff.mp h).1
    have lt2 : i < (vs.map some ++ [some v]).length := by
      simp only [List.length_append, List.length_map, List.length_singleton] at lt ⊢
      omega
    by_cases hi : i < vs.length
    · exact ⟨vs[i], by rw [List.getElem?_append_left (by rw [List.length_map]; exact hi), List.getElem?_map, List.getElem?_eq_getElem hi]; rfl⟩
    · refine ⟨v, ?_⟩
      simp only [List.length_append, List.length_map, List.length_singleton] at lt2
      rw [List.getElem?_append_right (by rw [List.length_map]; omega), List.length_map, show i - vs.length = 0 by omega]
      rfl
  · rcases at_ i q w h with ⟨e, rfl, rfl⟩ | ⟨lt, _, h⟩ | ⟨_, _, h⟩
    · exact top_rep g
    · exact g.rep i q w h
    · exact h
  · have z := g.dis _ _ q q' a (own_at i q _ h1 o1) (own_at j q' _ h2 o2) o1 o2
    have b1 : i = outs.length ∨ f.io i = true ∧ i < outs.length := by
      rcases at_ i q _ h1 with ⟨e, _, _⟩ | ⟨lt, y, _⟩ | ⟨_, o', _⟩
      · exact .inl e
      · exact .inr ⟨y, lt⟩
      · rw [o'] at o1
        cases o1
    have b2 : j = outs.length ∨ f.io j = true ∧ j < outs.length := by
      rcases at_ j q' _ h2 with ⟨e, _, _⟩ | ⟨lt, y, _⟩ | ⟨_, o', _⟩
      · exact .inl e
      · exact .inr ⟨y, lt⟩
      · rw [o'] at o2
        cases o2
    have lb := kp.1
    simp only [List.length_append, List.length_map, List.length_replicate] at lb
    rcases b1 with b1 | ⟨_, b1⟩ <;> rcases b2 with b2 | ⟨_, b2⟩
    · omega
    · rw [if_pos b1, if_neg (by omega)] at z
      omega
    · rw [if_neg (by omega), if_pos b2] at z
      omega
    · rw [if_neg (by omega), if_neg (by omega)] at z
      exact z
end
/-- a def -/
structure Df where
  nm : Str
  ps : List Str
  N : List Str
  fn : Fn
  st : Stmt
def scB (N P : List Str) (sc : Scope) : Bool := (match sc.kind with | .function => true | _ => false) && !sc.isCoroutine && !sc.isGenerator && decide N.Nodup && decide (N.take P.length = P) && (P.all fun x => kindIs sc x .local || kindIs sc x .cell) && (sc.names.all fun y => match y.2 with | .free => false | _ => true)
theorem sc_of {N P : List Str} {sc : Scope} (h : scB N P sc = true) : FnScope N P sc := by
  obtain ⟨h, h7⟩ := and_t h
  obtain ⟨h, h6⟩ := and_t h
  obtain ⟨h, h5⟩ := and_t h
  obtain ⟨h, h4⟩ := and_t h
  obtain ⟨h, h3⟩ := and_t h
  obtain ⟨h1, h2⟩ := and_t h
  refine ⟨?_, not_t h2, not_t h3, of_decide_eq_true h4, of_decide_eq_true h5, fun x hx => ?_, fun y hy e => ?_⟩
  · split at h1
    · assumption
    · cases h1
  · exact (Bool.or_eq_true_iff.mp (List.all_eq_true.mp h6 x hx)).imp kind_t kind_t
  · have z := List.all_eq_true.mp h7 y hy
    rw [e] at z
    cases z
def chkDf (t : Tab) (d : Df) : Bool := scB d.N d.ps (defScope d.st) && chkSs t d.fn.body ⟨d.N, defScope d.st, fun _ => true⟩ (defBody d.st) && decide (d.fn.np = d.ps.length) && decide (d.fn.ns = d.N.length) && decide (d.ps.length ≤ d.N.length)
section
variable {t : Tab} {P : Program} {w : World} {K : PySem.W.Frag} {mg : Str → Option Value} {base : Heap}
theorem start_step {f : Fn} {rs : List R} {vs : List V} {F H : Hp} {n m : Nat} (g : Good K F H (rs.map some) (vs.map some)) (e : n = m) : ∃ F0, Step F H (Own (rs.map some) (vs.map some)) F0 H (Own (entryL f 0 rs ++ List.replicate n none) (vs.map some ++ List.replicate m none)) ∧ Good K F0 H (entryL f 0 rs ++ List.replicate n none) (vs.map some ++ List.replicate m none) := by
  obtain ⟨F0, s0, g0⟩ := entry_step f rs [] F (H := H) (σ := vs.map some) (K := K) g
  exact ⟨F0, s0.weak fun a ⟨i, r, h, o⟩ => ⟨i, r, pad_hold g0.len h, o⟩, g0.pad e⟩
theorem fn_ok {Φ Φ' : Phi} {k : Nat} {d : Df} {a : Addr} {fd : FuncData} (FD : FunD K d.nm d.nm (defArgs d.st) (defBody d.st) (defScope d.st) [] [] a fd) (hc : chkDf t d = true)
    (hΦ : ∀ rs, Φ' d.nm rs = runF Φ d.fn rs)
    (cs : ∀ p ∈ t.cs, ∃ tk, mg p.1 = some (.int p.2 tk)) (fr : ∀ x ∈ t.fr, mg x = none)
    (fns : ∀ p ∈ t.fns, ∃ a fd ps, ps.length = p.2 ∧ mg p.1 = some (.ref a) ∧ PySem.W.keepIn K (.ref a) = true ∧ Binds K fd ps [] ∧ FnOk P w K mg base (fun _ _ _ _ _ _ => False) k a fd ps (spF Φ K p.1)) :
    FnOk P w K mg base CX0 (k + 1) a fd d.ps (spF Φ' K d.nm) := by
  obtain ⟨hc, c5⟩ := and_t hc
  obtain ⟨hc, c4⟩ := and_t hc
  obtain ⟨hc, c3⟩ := and_t hc
  obtain ⟨c1, c2⟩ := and_t hc
  have c3 : d.fn.np = d.ps.length := of_decide_eq_true c3
  have c4 : d.fn.ns = d.N.length := of_decide_eq_true c4
  have S := sc_of c1
  have hlen : ∀ vs H Q E, spF Φ' K d.nm vs H Q E → vs.length = d.ps.length := fun vs H Q E ⟨F, rs, r, outs, g, ev, _⟩ => by
    have l := g.len
    rw [List.length_map, List.length_map] at l
    rw [hΦ] at ev
    unfold runF at ev
    by_cases z : rs.length = d.fn.np
    · omega
    · rw [if_neg z] at ev
      cases ev
  refine FD.ok S hlen (fun cdv A outer s H vs Q E hr h => ⟨tS Φ K d.fn.body, PSs.nox ?_, ?_⟩)
  · have C : COk t Φ k ⟨d.N, defScope d.st, fun _ => true⟩ (cxOf CX0 P w K mg base d.N d.nm (defScope d.st) a cdv A outer s H E).nox := ⟨rfl, rfl, S.nd, rfl, rfl, rfl, hr, cs, fr, fns⟩
    exact (all_S C S.kind d.fn.body).2 _ c2
  · have hl := hlen vs H Q E h
    obtain ⟨F, rs, r, outs, g, ev, q⟩ := h
    have l := g.len
    rw [List.length_map, List.length_map] at l
    rw [hΦ] at ev
    unfold runF at ev
    obtain ⟨z, ev⟩ := ite_on ev
    obtain ⟨⟨fl, ρ1⟩, e1, ev⟩ := bnd ev
    obtain ⟨r', e2, ev⟩ := bnd ev
    obtain ⟨outs', e3, ev⟩ := bnd ev
    cases ev
    obtain ⟨F0, s0, g0⟩ := start_step (f := d.fn) (n := d.fn.ns - d.fn.np) (m := d.N.length - vs.length) g (by omega)
    refine ⟨F0, _, fl, ρ1, g0, e1, ?_⟩
    cases fl with
    | brk => cases e2
    | cont => cases e2
    | ret r0 =>
      cases e2
      intro v σ1 F1 H1 kp s1 g1
      obtain ⟨gb, ob⟩ := back_good g0 l s1.fz kp e3 g1
      exact q v F1 H1 ((s0.trans s1).weak ob) gb
    | next =>
      cases e2
      intro σ1 F1 H1 kp s1 g1
      have g2 : Good K F1 H1 (ρ1 ++ [some (.v .none)]) (σ1 ++ [some .non]) := g1.more rfl (show RepR _ _ _ .non (.v .none) from .non)
      obtain ⟨gb, ob⟩ := back_good g0 l s1.fz kp e3 g2
      exact q .non F1 H1 ((s0.trans s1).weak fun a z => own_more g1.len rfl (ob a z)) gb
/-- every def of the text, at every depth -/
theorem fns_ok {defs : List Df} {prog : Str → Option Fn} (hc : ∀ d ∈ defs, chkDf t d = true) (hp : ∀ d ∈ defs, prog d.nm = some d.fn) (ht : ∀ p ∈ t.fns, ∃ d ∈ defs, d.nm = p.1 ∧ d.ps.length = p.2)
    (cs : ∀ p ∈ t.cs, ∃ tk, mg p.1 = some (.int p.2 tk)) (fr : ∀ x ∈ t.fr, mg x = none)
    (hd : ∀ d ∈ defs, ∃ a fd, FunD K d.nm d.nm (defArgs d.st) (defBody d.st) (defScope d.st) [] [] a fd ∧ mg d.nm = some (.ref a) ∧ Binds K fd d.ps []) :
    ∀ (k : Nat) (d : Df), d ∈ defs → ∀ a fd, FunD K d.nm d.nm (defArgs d.st) (defBody d.st) (defScope d.st) [] [] a fd → FnOk P w K mg base CX0 k a fd d.ps (spF (Ph prog k) K d.nm) := by
  intro k
  induction k with
  | zero => exact fun d _ a fd _ => ⟨fun vs H Q E ⟨_, _, _, _, _, ev, _⟩ => (nomatch (show (none : Option (R × List R)) = some _ from ev)), fun A outer s H args us vs Q E _ _ _ _ ⟨_, _, _, _, _, ev, _⟩ => nomatch (show (none : Option (R × List R)) = some _ from ev)⟩
  | succ k ih =>
    intro d hm a fd FD
    refine fn_ok (Φ := Ph prog k) FD (hc d hm) (fun rs => ?_) cs fr fun p hpt => ?_
    · show ((prog d.nm).bind fun fn => runF (Ph prog k) fn rs) = _
      rw [hp d hm]
      rfl
    · obtain ⟨d', hm', e1, e2⟩ := ht p hpt
      obtain ⟨a', fd', F', m', b'⟩ := hd d' hm'
      refine ⟨a', fd', d'.ps, e2, by rw [← e1]; exact m', F'.kp, b', ?_⟩
      rw [← e1]
      exact ih d' hm' a' fd' F'
/-- the law's def: True of every script -/
theorem law_sp {Φ : Phi} {x : Str} {H : Hp} {a : Addr} {ns : List Int} {outs : List R} {E : XK} (hS : SqL K H a (ns.map V.int)) (h : Φ x [.s ns] = some (.v (.bool true), outs)) : spF Φ K x [.ref a] H (fun v _ => v = .bl true) E := by
  refine ⟨H, [.s ns], _, outs, ⟨Sub.rfl, rfl, fun i r e => ?_, fun i r v hh => ?_, fun i j r q b h1 h2 o1 o2 => ?_⟩, h, fun v F1 H1 s1 g1 => ?_⟩
  · cases i with
    | zero => exact ⟨.ref a, rfl⟩
    | succ i => simp at e
  · cases i with
    | zero =>
      obtain ⟨h1, h2⟩ := hh
      cases h1
      cases h2
      exact ⟨a, rfl, hS⟩
    | succ i => exact absurd hh.1 (by simp)
  · cases i with
    | zero =>
      obtain ⟨h3, _⟩ := h1
      cases h3
      cases o1
    | succ i => exact absurd h1.1 (by simp)
  · have z := top_rep g1
    have z : Rp F1 v (.bool true) := z
    cases z
    rfl
end
end Pv
namespace Pv
open PySem PySem.Spec L2
/-! ## to run the small language by simp -/
section
variable {Φ : Phi} {ρ : Env}
@[simp] theorem ev_var {i : Nat} : evE Φ (.var i) ρ = (getS ρ i).bind fun r => match r with
    | .l xs => some (.v (.list xs), setS ρ i (some (.v (.list xs))))
    | .m _ _ => none
    | r => some (r, ρ) := rfl
@[simp] theorem ev_mv {i : Nat} : evE Φ (.mv i) ρ = (getS ρ i).bind fun r => some (r, setS ρ i none) := rfl
@[simp] theorem ev_num {z : Int} : evE Φ (.num z) ρ = some (.v (.int z), ρ) := rfl
@[simp] theorem ev_bl {z : Bool} : evE Φ (.bl z) ρ = some (.v (.bool z), ρ) := rfl
@[simp] theorem ev_non : evE Φ .non ρ = some (.v .none, ρ) := rfl
@[simp] theorem ev_str {z : Str} : evE Φ (.str z) ρ = some (.v (.str z), ρ) := rfl
@[simp] theorem ev_cst {x : Str} {z : Int} : evE Φ (.cst x z) ρ = some (.v (.int z), ρ) := rfl
@[simp] theorem ev_bin {op : Operator} {a b : E} : evE Φ (.bin op a b) ρ = (opd a (evE Φ a) ρ).bind fun p => (opd b (evE Φ b) p.2).bind fun q =>
      (der q.2 p.1).bind fun d => (der q.2 q.1).bind fun e => (binD op d e).bind fun r => some (r, q.2) := rfl
@[simp] theorem ev_neg {a : E} : evE Φ (.neg a) ρ = (opd a (evE Φ a) ρ).bind fun p => (der p.2 p.1).bind fun d => (negD d).bind fun r => some (.v r, p.2) := rfl
@[simp] theorem ev_cmp {op : CmpOp} {a b : E} : evE Φ (.cmp op a b) ρ = (opd a (evE Φ a) ρ).bind fun p => (opd b (evE Φ b) p.2).bind fun q =>
      (der q.2 p.1).bind fun d => (der q.2 q.1).bind fun e => (cmpD op d e).bind fun r => some (.v (.bool r), q.2) := rfl
@[simp] theorem ev_chain {o1 o2 : CmpOp} {a b c : E} : evE Φ (.chain o1 o2 a b c) ρ = (opd a (evE Φ a) ρ).bind fun p => (opd b (evE Φ b) p.2).bind fun q =>
      (der q.2 p.1).bind fun d => (der q.2 q.1).bind fun e => (cmpD o1 d e).bind fun r => match r with
        | false => some (.v (.bool false), q.2)
        | true => (opd c (evE Φ c) q.2).bind fun u => (der u.2 q.1).bind fun e => (der u.2 u.1).bind fun g => (cmpD o2 e g).bind fun r => some (.v (.bool r), u.2) := rfl
@[simp] theorem ev_and {a b : E} : evE Φ (.and_ a b) ρ = (evE Φ a ρ).bind fun p => (truR p.1).bind fun k => match k with
      | true => evE Φ b p.2
      | false => some (p.1, p.2) := rfl
@[simp] theorem ev_or {a b : E} : evE Φ (.or_ a b) ρ = (evE Φ a ρ).bind fun p => (truR p.1).bind fun k => match k with
      | true => some (p.1, p.2)
      | false => evE Φ b p.2 := rfl
@[simp] theorem ev_not {a : E} : evE Φ (.not_ a) ρ = (opd a (evE Φ a) ρ).bind fun p => (derS p.2 p.1).bind fun d => (truD d).bind fun k => some (.v (.bool (!k)), p.2) := rfl
@[simp] theorem ev_ife {c a b : E} : evE Φ (.ife c a b) ρ = (evT Φ c ρ).bind fun p => match p.1 with
      | true => evE Φ a p.2
      | false => evE Φ b p.2 := rfl
@[simp] theorem ev_tup {a : E} : evE Φ (.tup a) ρ = (evF Φ a ρ).bind fun p => if okN p.1.length = true then some (.v (.tuple p.1), p.2) else none := rfl
@[simp] theorem ev_lst {a : E} : evE Φ (.lst a) ρ = (evF Φ a ρ).bind fun p => if okN p.1.length = true then some (.l p.1, p.2) else none := rfl
@[simp] theorem ev_idx {a b : E} : evE Φ (.idx a b) ρ = (opd a (evE Φ a) ρ).bind fun p => (opd b (evE Φ b) p.2).bind fun q =>
      (derS q.2 p.1).bind fun d => (der q.2 q.1).bind fun e => (idxD d e).bind fun r => some (.v r, q.2) := rfl
@[simp] theorem ev_slc {a lo hi : E} : evE Φ (.slc a lo hi) ρ = (opd a (evE Φ a) ρ).bind fun p => (evB Φ lo p.2).bind fun l => (evB Φ hi l.2).bind fun h =>
      (derS h.2 p.1).bind fun d => (slcD d l.1 h.1).bind fun r => some (r, h.2) := rfl
@[simp] theorem ev_rev {a : E} : evE Φ (.rev a) ρ = (opd a (evE Φ a) ρ).bind fun p => (der p.2 p.1).bind fun d => (revD d).bind fun r => some (r, p.2) := rfl
@[simp] theorem ev_call {f : Str} {es : E} : evE Φ (.call f es) ρ = (evL Φ es ρ).bind fun p => (Φ f (p.1.map (·.1))).bind fun o =>
      if o.2.length = p.1.length then some (o.1, wb p.2 p.1 o.2) else none := rfl
@[simp] theorem ev_len {es : E} : evE Φ (.bi .len es) ρ = (evOs Φ es ρ).bind fun p => match p.1 with
      | [o] => (derS p.2 o).bind fun d => (biD .len [d]).bind fun r => some (r, p.2)
      | os => (derAll p.2 os).bind fun ds => (biD .len ds).bind fun r => some (r, p.2) := by
  show (evOs Φ es ρ).bind _ = _
  congr 1
  funext p
  obtain ⟨os, ρ1⟩ := p
  cases os with
  | nil => rfl
  | cons o os => cases os <;> rfl
@[simp] theorem ev_list {es : E} : evE Φ (.bi .list es) ρ = (evOs Φ es ρ).bind fun p => match p.1 with
      | [o] => (derS p.2 o).bind fun d => (biD .list [d]).bind fun r => some (r, p.2)
      | os => (derAll p.2 os).bind fun ds => (biD .list ds).bind fun r => some (r, p.2) := by
  show (evOs Φ es ρ).bind _ = _
  congr 1
  funext p
  obtain ⟨os, ρ1⟩ := p
  cases os with
  | nil => rfl
  | cons o os => cases os <;> rfl
theorem ev_bi {b : Bi} {es : E} (h1 : b ≠ .len) (h2 : b ≠ .list) : evE Φ (.bi b es) ρ = (evOs Φ es ρ).bind fun p => (derAll p.2 p.1).bind fun ds => (biD b ds).bind fun r => some (r, p.2) := by
  cases b <;> first | exact absurd rfl h1 | exact absurd rfl h2 | rfl
@[simp] theorem ev_btuple {es : E} : evE Φ (.bi .tuple es) ρ = (evOs Φ es ρ).bind fun p => (derAll p.2 p.1).bind fun ds => (biD .tuple ds).bind fun r => some (r, p.2) := rfl
@[simp] theorem ev_ball {es : E} : evE Φ (.bi .all es) ρ = (evOs Φ es ρ).bind fun p => (derAll p.2 p.1).bind fun ds => (biD .all ds).bind fun r => some (r, p.2) := rfl
@[simp] theorem ev_bany {es : E} : evE Φ (.bi .any es) ρ = (evOs Φ es ρ).bind fun p => (derAll p.2 p.1).bind fun ds => (biD .any ds).bind fun r => some (r, p.2) := rfl
@[simp] theorem ev_bint {es : E} : evE Φ (.bi .int es) ρ = (evOs Φ es ρ).bind fun p => (derAll p.2 p.1).bind fun ds => (biD .int ds).bind fun r => some (r, p.2) := rfl
@[simp] theorem ev_babs {es : E} : evE Φ (.bi .abs es) ρ = (evOs Φ es ρ).bind fun p => (derAll p.2 p.1).bind fun ds => (biD .abs ds).bind fun r => some (r, p.2) := rfl
@[simp] theorem ev_bmin2 {es : E} : evE Φ (.bi .min2 es) ρ = (evOs Φ es ρ).bind fun p => (derAll p.2 p.1).bind fun ds => (biD .min2 ds).bind fun r => some (r, p.2) := rfl
@[simp] theorem ev_bmax2 {es : E} : evE Φ (.bi .max2 es) ρ = (evOs Φ es ρ).bind fun p => (derAll p.2 p.1).bind fun ds => (biD .max2 ds).bind fun r => some (r, p.2) := rfl
@[simp] theorem ev_bsum {es : E} : evE Φ (.bi .sum es) ρ = (evOs Φ es ρ).bind fun p => (derAll p.2 p.1).bind fun ds => (biD .sum ds).bind fun r => some (r, p.2) := rfl
@[simp] theorem ev_bmin {es : E} : evE Φ (.bi .min es) ρ = (evOs Φ es ρ).bind fun p => (derAll p.2 p.1).bind fun ds => (biD .min ds).bind fun r => some (r, p.2) := rfl
@[simp] theorem ev_bmax {es : E} : evE Φ (.bi .max es) ρ = (evOs Φ es ρ).bind fun p => (derAll p.2 p.1).bind fun ds => (biD .max ds).bind fun r => some (r, p.2) := rfl
@[simp] theorem ev_bsorted {es : E} : evE Φ (.bi .sorted es) ρ = (evOs Φ es ρ).bind fun p => (derAll p.2 p.1).bind fun ds => (biD .sorted ds).bind fun r => some (r, p.2) := rfl
@[simp] theorem ev_isi {a : E} {ts : List Ty} : evE Φ (.isi a ts) ρ = (opd a (evE Φ a) ρ).bind fun p => (der p.2 p.1).bind fun d => some (.v (.bool (ts.any (isiD d))), p.2) := rfl
@[simp] theorem ev_mt {m : Mt} {o es : E} : evE Φ (.mt m o es) ρ = (opd o (evE Φ o) ρ).bind fun p => (der p.2 p.1).bind fun d0 => if isLst d0 = true then (evOs Φ es p.2).bind fun q =>
      (der q.2 p.1).bind fun d => (derAll q.2 q.1).bind fun ds => (mtD m d ds).bind fun r => some (r, q.2) else none := rfl
@[simp] theorem ev_pop {i : Nat} : evE Φ (.pop i) ρ = (getS ρ i).bind fun r => match r with
      | .l xs => (xs.getLast?).bind fun y => some (.v y, setS ρ i (some (.l xs.dropLast)))
      | _ => none := rfl
@[simp] theorem ev_lrg {t : Bool} {it : E} : evE Φ (.lrg t it) ρ = (evI Φ it ρ).bind fun p => if okN p.1.length = true then some (if t then .v (.tuple p.1) else .l p.1, p.2) else none := rfl
@[simp] theorem ev_comp {elt : E} {tg : Tg} {it ifs : E} {vs : List Nat} : evE Φ (.comp elt tg it ifs vs) ρ = (evI Φ it ρ).bind fun p => if okN p.1.length = true then
      (compL (turnE Φ elt tg ifs) vs p.1 (wipeE p.2 vs)).bind fun q => some (.l q.1, back p.2 q.2 vs) else none := rfl
@[simp] theorem tv_tt {a : E} : evT Φ (.tt a) ρ = (opd a (evE Φ a) ρ).bind fun p => (derS p.2 p.1).bind fun d => (truD d).bind fun k => some (k, p.2) := rfl
@[simp] theorem tv_cmp {op : CmpOp} {a b : E} : evT Φ (.tcmp op a b) ρ = (opd a (evE Φ a) ρ).bind fun p => (opd b (evE Φ b) p.2).bind fun q =>
      (der q.2 p.1).bind fun d => (der q.2 q.1).bind fun e => (cmpD op d e).bind fun r => some (r, q.2) := rfl
@[simp] theorem tv_chain {o1 o2 : CmpOp} {a b c : E} : evT Φ (.tchain o1 o2 a b c) ρ = (opd a (evE Φ a) ρ).bind fun p => (opd b (evE Φ b) p.2).bind fun q =>
      (der q.2 p.1).bind fun d => (der q.2 q.1).bind fun e => (cmpD o1 d e).bind fun r => match r with
        | false => some (false, q.2)
        | true => (opd c (evE Φ c) q.2).bind fun u => (der u.2 q.1).bind fun e => (der u.2 u.1).bind fun g => (cmpD o2 e g).bind fun r => some (r, u.2) := rfl
@[simp] theorem tv_and {a b : E} : evT Φ (.tand a b) ρ = (evT Φ a ρ).bind fun p => match p.1 with
      | true => evT Φ b p.2
      | false => some (false, p.2) := rfl
@[simp] theorem tv_or {a b : E} : evT Φ (.tor a b) ρ = (evT Φ a ρ).bind fun p => match p.1 with
      | true => some (true, p.2)
      | false => evT Φ b p.2 := rfl
@[simp] theorem tv_not {a : E} : evT Φ (.tnot a) ρ = (evT Φ a ρ).bind fun p => some (!p.1, p.2) := rfl
@[simp] theorem tv_yes : evT Φ .tyes ρ = some (true, ρ) := rfl
@[simp] theorem fv_nil : evF Φ .nil ρ = some ([], ρ) := rfl
@[simp] theorem fv_cons {a b : E} : evF Φ (.cons a b) ρ = (evE Φ a ρ).bind fun p => (frzO p.1).bind fun d => (evF Φ b p.2).bind fun q => some (d :: q.1, q.2) := rfl
@[simp] theorem ov_nil : evOs Φ .nil ρ = some ([], ρ) := rfl
@[simp] theorem ov_cons {a b : E} : evOs Φ (.cons a b) ρ = (opd a (evE Φ a) ρ).bind fun p => (evOs Φ b p.2).bind fun q => some (p.1 :: q.1, q.2) := rfl
@[simp] theorem lv_nil : evL Φ .nil ρ = some ([], ρ) := rfl
@[simp] theorem lv_var {i : Nat} {b : E} : evL Φ (.cons (.var i) b) ρ = (getS ρ i).bind fun _ => (evL Φ b ρ).bind fun q => (getS q.2 i).bind fun r => if r.own = true then some ((r, some i) :: q.1, setS q.2 i none) else some ((r, none) :: q.1, q.2) := rfl
theorem lv_cons {a b : E} (h : ∀ i, a ≠ .var i) : evL Φ (.cons a b) ρ = (evE Φ a ρ).bind fun p => (evL Φ b p.2).bind fun q => some ((p.1, none) :: q.1, q.2) := by
  cases a <;> first | rfl | exact absurd rfl (h _)
@[simp] theorem bv_nob : evB Φ .nob ρ = some (none, ρ) := rfl
@[simp] theorem bv_it {a : E} : evB Φ (.it a) ρ = (opd a (evE Φ a) ρ).bind fun p => (der p.2 p.1).bind fun d => match d with
      | .int i => some (some i, p.2)
      | _ => none := rfl
@[simp] theorem iv_it {a : E} : evI Φ (.it a) ρ = (evE Φ a ρ).bind fun p => (frzO p.1).bind fun d => (seqD d).bind fun ds => some (ds, p.2) := rfl
theorem iv_1 {a : E} : evI Φ (.rng1 a) ρ = (opd a (evE Φ a) ρ).bind fun p => (der p.2 p.1).bind fun d => match d with
      | .int j => if in62 j = true then some (rngD 0 j, p.2) else none
      | _ => none := rfl
theorem iv_2 {a b : E} : evI Φ (.rng2 a b) ρ = (opd a (evE Φ a) ρ).bind fun p => (opd b (evE Φ b) p.2).bind fun q =>
      (der q.2 p.1).bind fun d => (der q.2 q.1).bind fun e => match d, e with
        | .int i, .int j => if in62 i = true ∧ in62 j = true then some (rngD i j, q.2) else none
        | _, _ => none := rfl
theorem iv_3 {a b c : E} : evI Φ (.rng3 a b c) ρ = (opd a (evE Φ a) ρ).bind fun p => (opd b (evE Φ b) p.2).bind fun q => (opd c (evE Φ c) q.2).bind fun u =>
      (der u.2 p.1).bind fun d => (der u.2 q.1).bind fun e => (der u.2 u.1).bind fun g => match d, e, g with
        | .int i, .int j, .int k => if in62 i = true ∧ in62 j = true ∧ k = -1 then some (rngC i (-1) (i - j).toNat, u.2) else none
        | _, _, _ => none := rfl
@[simp] theorem iv_enum {a : E} : evI Φ (.enum a) ρ = (evE Φ a ρ).bind fun p => (frzO p.1).bind fun d => match d with
      | .list xs => some (enumD xs, p.2)
      | _ => none := rfl
@[simp] theorem iv_zip {a b : E} : evI Φ (.zip a b) ρ = (evE Φ a ρ).bind fun p => (frzO p.1).bind fun d => (evE Φ b p.2).bind fun q => (frzO q.1).bind fun e => match d, e with
      | .list xs, .list ys => some (zipD xs ys, q.2)
      | .tuple xs, .tuple ys => some (zipD xs ys, q.2)
      | _, _ => none := rfl
/-! operands -/
@[simp] theorem op_var {i : Nat} {f : Env → Option (R × Env)} : opd (.var i) f ρ = (getS ρ i).bind fun _ => some (.sl i, ρ) := rfl
theorem op_val {e : E} {f : Env → Option (R × Env)} (h : ∀ i, e ≠ .var i) : opd e f ρ = (f ρ).bind fun p => (frzO p.1).bind fun d => some (.d d, p.2) := opd_ne h
@[simp] theorem op_mv {i : Nat} {f : Env → Option (R × Env)} : opd (.mv i) f ρ = (f ρ).bind fun p => (frzO p.1).bind fun d => some (.d d, p.2) := rfl
@[simp] theorem lv_mv {i : Nat} {bb : E} : evL Φ (.cons (.mv i) bb) ρ = (evE Φ (.mv i) ρ).bind fun p => (evL Φ bb p.2).bind fun q => some ((p.1, none) :: q.1, q.2) := lv_cons fun _ => nofun
@[simp] theorem op_num {z : Int} {f : Env → Option (R × Env)} : opd (.num z) f ρ = (f ρ).bind fun p => (frzO p.1).bind fun d => some (.d d, p.2) := rfl
@[simp] theorem lv_num {z : Int} {bb : E} : evL Φ (.cons (.num z) bb) ρ = (evE Φ (.num z) ρ).bind fun p => (evL Φ bb p.2).bind fun q => some ((p.1, none) :: q.1, q.2) := lv_cons fun _ => nofun
@[simp] theorem op_bl {z : Bool} {f : Env → Option (R × Env)} : opd (.bl z) f ρ = (f ρ).bind fun p => (frzO p.1).bind fun d => some (.d d, p.2) := rfl
@[simp] theorem lv_bl {z : Bool} {bb : E} : evL Φ (.cons (.bl z) bb) ρ = (evE Φ (.bl z) ρ).bind fun p => (evL Φ bb p.2).bind fun q => some ((p.1, none) :: q.1, q.2) := lv_cons fun _ => nofun
@[simp] theorem op_non  {f : Env → Option (R × Env)} : opd (.non) f ρ = (f ρ).bind fun p => (frzO p.1).bind fun d => some (.d d, p.2) := rfl
@[simp] theorem lv_non  {bb : E} : evL Φ (.cons (.non) bb) ρ = (evE Φ (.non) ρ).bind fun p => (evL Φ bb p.2).bind fun q => some ((p.1, none) :: q.1, q.2) := lv_cons fun _ => nofun
@[simp] theorem op_str {z : Str} {f : Env → Option (R × Env)} : opd (.str z) f ρ = (f ρ).bind fun p => (frzO p.1).bind fun d => some (.d d, p.2) := rfl
@[simp] theorem lv_str {z : Str} {bb : E} : evL Φ (.cons (.str z) bb) ρ = (evE Φ (.str z) ρ).bind fun p => (evL Φ bb p.2).bind fun q => some ((p.1, none) :: q.1, q.2) := lv_cons fun _ => nofun
@[simp] theorem op_cst {x : Str} {z : Int} {f : Env → Option (R × Env)} : opd (.cst x z) f ρ = (f ρ).bind fun p => (frzO p.1).bind fun d => some (.d d, p.2) := rfl
@[simp] theorem lv_cst {x : Str} {z : Int} {bb : E} : evL Φ (.cons (.cst x z) bb) ρ = (evE Φ (.cst x z) ρ).bind fun p => (evL Φ bb p.2).bind fun q => some ((p.1, none) :: q.1, q.2) := lv_cons fun _ => nofun
@[simp] theorem op_bin {op : Operator} {a b : E} {f : Env → Option (R × Env)} : opd (.bin op a b) f ρ = (f ρ).bind fun p => (frzO p.1).bind fun d => some (.d d, p.2) := rfl
@[simp] theorem lv_bin {op : Operator} {a b : E} {bb : E} : evL Φ (.cons (.bin op a b) bb) ρ = (evE Φ (.bin op a b) ρ).bind fun p => (evL Φ bb p.2).bind fun q => some ((p.1, none) :: q.1, q.2) := lv_cons fun _ => nofun
@[simp] theorem op_neg {a : E} {f : Env → Option (R × Env)} : opd (.neg a) f ρ = (f ρ).bind fun p => (frzO p.1).bind fun d => some (.d d, p.2) := rfl
@[simp] theorem lv_neg {a : E} {bb : E} : evL Φ (.cons (.neg a) bb) ρ = (evE Φ (.neg a) ρ).bind fun p => (evL Φ bb p.2).bind fun q => some ((p.1, none) :: q.1, q.2) := lv_cons fun _ => nofun
@[simp] theorem op_cmp {op : CmpOp} {a b : E} {f : Env → Option (R × Env)} : opd (.cmp op a b) f ρ = (f ρ).bind fun p => (frzO p.1).bind fun d => some (.d d, p.2) := rfl
@[simp] theorem lv_cmp {op : CmpOp} {a b : E} {bb : E} : evL Φ (.cons (.cmp op a b) bb) ρ = (evE Φ (.cmp op a b) ρ).bind fun p => (evL Φ bb p.2).bind fun q => some ((p.1, none) :: q.1, q.2) := lv_cons fun _ => nofun
@[simp] theorem op_chain {o1 o2 : CmpOp} {a b c : E} {f : Env → Option (R × Env)} : opd (.chain o1 o2 a b c) f ρ = (f ρ).bind fun p => (frzO p.1).bind fun d => some (.d d, p.2) := rfl
@[simp] theorem lv_chain {o1 o2 : CmpOp} {a b c : E} {bb : E} : evL Φ (.cons (.chain o1 o2 a b c) bb) ρ = (evE Φ (.chain o1 o2 a b c) ρ).bind fun p => (evL Φ bb p.2).bind fun q => some ((p.1, none) :: q.1, q.2) := lv_cons fun _ => nofun
@[simp] theorem op_and {a b : E} {f : Env → Option (R × Env)} : opd (.and_ a b) f ρ = (f ρ).bind fun p => (frzO p.1).bind fun d => some (.d d, p.2) := rfl
@[simp] theorem lv_and {a b : E} {bb : E} : evL Φ (.cons (.and_ a b) bb) ρ = (evE Φ (.and_ a b) ρ).bind fun p => (evL Φ bb p.2).bind fun q => some ((p.1, none) :: q.1, q.2) := lv_cons fun _ => nofun
@[simp] theorem op_or {a b : E} {f : Env → Option (R × Env)} : opd (.or_ a b) f ρ = (f ρ).bind fun p => (frzO p.1).bind fun d => some (.d d, p.2) := rfl
@[simp] theorem lv_or {a b : E} {bb : E} : evL Φ (.cons (.or_ a b) bb) ρ = (evE Φ (.or_ a b) ρ).bind fun p => (evL Φ bb p.2).bind fun q => some ((p.1, none) :: q.1, q.2) := lv_cons fun _ => nofun
@[simp] theorem op_not {a : E} {f : Env → Option (R × Env)} : opd (.not_ a) f ρ = (f ρ).bind fun p => (frzO p.1).bind fun d => some (.d d, p.2) := rfl
@[simp] theorem lv_not {a : E} {bb : E} : evL Φ (.cons (.not_ a) bb) ρ = (evE Φ (.not_ a) ρ).bind fun p => (evL Φ bb p.2).bind fun q => some ((p.1, none) :: q.1, q.2) := lv_cons fun _ => nofun
@[simp] theorem op_ife {c a b : E} {f : Env → Option (R × Env)} : opd (.ife c a b) f ρ = (f ρ).bind fun p => (frzO p.1).bind fun d => some (.d d, p.2) := rfl
@[simp] theorem lv_ife {c a b : E} {bb : E} : evL Φ (.cons (.ife c a b) bb) ρ = (evE Φ (.ife c a b) ρ).bind fun p => (evL Φ bb p.2).bind fun q => some ((p.1, none) :: q.1, q.2) := lv_cons fun _ => nofun
@[simp] theorem op_tup {a : E} {f : Env → Option (R × Env)} : opd (.tup a) f ρ = (f ρ).bind fun p => (frzO p.1).bind fun d => some (.d d, p.2) := rfl
@[simp] theorem lv_tup {a : E} {bb : E} : evL Φ (.cons (.tup a) bb) ρ = (evE Φ (.tup a) ρ).bind fun p => (evL Φ bb p.2).bind fun q => some ((p.1, none) :: q.1, q.2) := lv_cons fun _ => nofun
@[simp] theorem op_lst {a : E} {f : Env → Option (R × Env)} : opd (.lst a) f ρ = (f ρ).bind fun p => (frzO p.1).bind fun d => some (.d d, p.2) := rfl
@[simp] theorem lv_lst {a : E} {bb : E} : evL Φ (.cons (.lst a) bb) ρ = (evE Φ (.lst a) ρ).bind fun p => (evL Φ bb p.2).bind fun q => some ((p.1, none) :: q.1, q.2) := lv_cons fun _ => nofun
@[simp] theorem op_idx {a b : E} {f : Env → Option (R × Env)} : opd (.idx a b) f ρ = (f ρ).bind fun p => (frzO p.1).bind fun d => some (.d d, p.2) := rfl
@[simp] theorem lv_idx {a b : E} {bb : E} : evL Φ (.cons (.idx a b) bb) ρ = (evE Φ (.idx a b) ρ).bind fun p => (evL Φ bb p.2).bind fun q => some ((p.1, none) :: q.1, q.2) := lv_cons fun _ => nofun
@[simp] theorem op_slc {a lo hi : E} {f : Env → Option (R × Env)} : opd (.slc a lo hi) f ρ = (f ρ).bind fun p => (frzO p.1).bind fun d => some (.d d, p.2) := rfl
@[simp] theorem lv_slc {a lo hi : E} {bb : E} : evL Φ (.cons (.slc a lo hi) bb) ρ = (evE Φ (.slc a lo hi) ρ).bind fun p => (evL Φ bb p.2).bind fun q => some ((p.1, none) :: q.1, q.2) := lv_cons fun _ => nofun
@[simp] theorem op_rev {a : E} {f : Env → Option (R × Env)} : opd (.rev a) f ρ = (f ρ).bind fun p => (frzO p.1).bind fun d => some (.d d, p.2) := rfl
@[simp] theorem lv_rev {a : E} {bb : E} : evL Φ (.cons (.rev a) bb) ρ = (evE Φ (.rev a) ρ).bind fun p => (evL Φ bb p.2).bind fun q => some ((p.1, none) :: q.1, q.2) := lv_cons fun _ => nofun
@[simp] theorem op_call {x : Str} {es : E} {f : Env → Option (R × Env)} : opd (.call x es) f ρ = (f ρ).bind fun p => (frzO p.1).bind fun d => some (.d d, p.2) := rfl
@[simp] theorem lv_call {x : Str} {es : E} {bb : E} : evL Φ (.cons (.call x es) bb) ρ = (evE Φ (.call x es) ρ).bind fun p => (evL Φ bb p.2).bind fun q => some ((p.1, none) :: q.1, q.2) := lv_cons fun _ => nofun
@[simp] theorem op_bi {b : Bi} {es : E} {f : Env → Option (R × Env)} : opd (.bi b es) f ρ = (f ρ).bind fun p => (frzO p.1).bind fun d => some (.d d, p.2) := rfl
@[simp] theorem lv_bi {b : Bi} {es : E} {bb : E} : evL Φ (.cons (.bi b es) bb) ρ = (evE Φ (.bi b es) ρ).bind fun p => (evL Φ bb p.2).bind fun q => some ((p.1, none) :: q.1, q.2) := lv_cons fun _ => nofun
@[simp] theorem op_isi {a : E} {ts : List Ty} {f : Env → Option (R × Env)} : opd (.isi a ts) f ρ = (f ρ).bind fun p => (frzO p.1).bind fun d => some (.d d, p.2) := rfl
@[simp] theorem lv_isi {a : E} {ts : List Ty} {bb : E} : evL Φ (.cons (.isi a ts) bb) ρ = (evE Φ (.isi a ts) ρ).bind fun p => (evL Φ bb p.2).bind fun q => some ((p.1, none) :: q.1, q.2) := lv_cons fun _ => nofun
@[simp] theorem op_mt {m : Mt} {o es : E} {f : Env → Option (R × Env)} : opd (.mt m o es) f ρ = (f ρ).bind fun p => (frzO p.1).bind fun d => some (.d d, p.2) := rfl
@[simp] theorem lv_mt {m : Mt} {o es : E} {bb : E} : evL Φ (.cons (.mt m o es) bb) ρ = (evE Φ (.mt m o es) ρ).bind fun p => (evL Φ bb p.2).bind fun q => some ((p.1, none) :: q.1, q.2) := lv_cons fun _ => nofun
@[simp] theorem op_pop {i : Nat} {f : Env → Option (R × Env)} : opd (.pop i) f ρ = (f ρ).bind fun p => (frzO p.1).bind fun d => some (.d d, p.2) := rfl
@[simp] theorem lv_pop {i : Nat} {bb : E} : evL Φ (.cons (.pop i) bb) ρ = (evE Φ (.pop i) ρ).bind fun p => (evL Φ bb p.2).bind fun q => some ((p.1, none) :: q.1, q.2) := lv_cons fun _ => nofun
@[simp] theorem op_lrg {t : Bool} {it : E} {f : Env → Option (R × Env)} : opd (.lrg t it) f ρ = (f ρ).bind fun p => (frzO p.1).bind fun d => some (.d d, p.2) := rfl
@[simp] theorem lv_lrg {t : Bool} {it : E} {bb : E} : evL Φ (.cons (.lrg t it) bb) ρ = (evE Φ (.lrg t it) ρ).bind fun p => (evL Φ bb p.2).bind fun q => some ((p.1, none) :: q.1, q.2) := lv_cons fun _ => nofun
@[simp] theorem op_comp {elt : E} {tg : Tg} {it ifs : E} {vs : List Nat} {f : Env → Option (R × Env)} : opd (.comp elt tg it ifs vs) f ρ = (f ρ).bind fun p => (frzO p.1).bind fun d => some (.d d, p.2) := rfl
@[simp] theorem lv_comp {elt : E} {tg : Tg} {it ifs : E} {vs : List Nat} {bb : E} : evL Φ (.cons (.comp elt tg it ifs vs) bb) ρ = (evE Φ (.comp elt tg it ifs vs) ρ).bind fun p => (evL Φ bb p.2).bind fun q => some ((p.1, none) :: q.1, q.2) := lv_cons fun _ => nofun
@[simp] theorem ev_dnew {t : Bool} : evE Φ (.dnew t) ρ = some (.m t [], ρ) := rfl
@[simp] theorem ev_dget {i : Nat} {a : E} : evE Φ (.dget i a) ρ = (getS ρ i).bind fun _ => (opd a (evE Φ a) ρ).bind fun p => (der p.2 p.1).bind fun d => (getS p.2 i).bind fun r => match r with
      | .m t kvs => (keyD t d).bind fun k => (getM kvs k).bind fun v => some (.v v, p.2)
      | _ => none := rfl
@[simp] theorem ev_din {n : Bool} {i : Nat} {a : E} : evE Φ (.din n i a) ρ = (opd a (evE Φ a) ρ).bind fun p => (der p.2 p.1).bind fun d => (getS p.2 i).bind fun r => match r with
      | .m t kvs => (keyD t d).bind fun k => some (.v (.bool (xor n (getM kvs k).isSome)), p.2)
      | _ => none := rfl
@[simp] theorem tv_din {n : Bool} {i : Nat} {a : E} : evT Φ (.tdin n i a) ρ = (opd a (evE Φ a) ρ).bind fun p => (der p.2 p.1).bind fun d => (getS p.2 i).bind fun r => match r with
      | .m t kvs => (keyD t d).bind fun k => some (xor n (getM kvs k).isSome, p.2)
      | _ => none := rfl
@[simp] theorem ev_dsort {i : Nat} : evE Φ (.dsort i) ρ = (getS ρ i).bind fun r => match r with
      | .m false kvs => some (.l ((srtI (kvs.map fun p => p.1.headD 0)).map PyData.int), ρ)
      | _ => none := rfl
@[simp] theorem ev_dlen {i : Nat} : evE Φ (.dlen i) ρ = (getS ρ i).bind fun r => match r with
      | .m false kvs => some (.v (.int kvs.length), ρ)
      | _ => none := rfl
@[simp] theorem ev_bits {a : E} : evE Φ (.bits a) ρ = (opd a (evE Φ a) ρ).bind fun p => (der p.2 p.1).bind fun d => match d with
      | .int i => some (.v (.int (Builtin.Int.intBits i : Nat)), p.2)
      | _ => none := rfl
@[simp] theorem ev_sset {a : E} : evE Φ (.sset a) ρ = (opd a (evE Φ a) ρ).bind fun p => (der p.2 p.1).bind fun d => (seqD d).bind fun ds => (intsOf ds).bind fun ns =>
      if ns.length ≤ 4000 then some (.l ((setU ns).map PyData.int), p.2) else none := rfl
@[simp] theorem ev_stc {g : Str} {a : E} : evE Φ (.stc g a) ρ = (opd a (evE Φ a) ρ).bind fun p => (der p.2 p.1).bind fun d => (seqD d).bind fun ds =>
      (Φ g (ds.map R.v)).bind fun o => some (o.1, p.2) := rfl
@[simp] theorem ky_i {z : Int} : keyD false (.int z) = some [z] := rfl
@[simp] theorem ky_t {ds : List D} : keyD true (.tuple ds) = intsOf ds := rfl
@[simp] theorem op_dget {i : Nat} {a : E} {f : Env → Option (R × Env)} : opd (.dget i a) f ρ = (f ρ).bind fun p => (frzO p.1).bind fun d => some (.d d, p.2) := rfl
@[simp] theorem lv_dget {i : Nat} {a : E} {bb : E} : evL Φ (.cons (.dget i a) bb) ρ = (evE Φ (.dget i a) ρ).bind fun p => (evL Φ bb p.2).bind fun q => some ((p.1, none) :: q.1, q.2) := lv_cons fun _ => nofun
@[simp] theorem op_din {n : Bool} {i : Nat} {a : E} {f : Env → Option (R × Env)} : opd (.din n i a) f ρ = (f ρ).bind fun p => (frzO p.1).bind fun d => some (.d d, p.2) := rfl
@[simp] theorem lv_din {n : Bool} {i : Nat} {a : E} {bb : E} : evL Φ (.cons (.din n i a) bb) ρ = (evE Φ (.din n i a) ρ).bind fun p => (evL Φ bb p.2).bind fun q => some ((p.1, none) :: q.1, q.2) := lv_cons fun _ => nofun
@[simp] theorem op_dsort {i : Nat} {f : Env → Option (R × Env)} : opd (.dsort i) f ρ = (f ρ).bind fun p => (frzO p.1).bind fun d => some (.d d, p.2) := rfl
@[simp] theorem lv_dsort {i : Nat} {bb : E} : evL Φ (.cons (.dsort i) bb) ρ = (evE Φ (.dsort i) ρ).bind fun p => (evL Φ bb p.2).bind fun q => some ((p.1, none) :: q.1, q.2) := lv_cons fun _ => nofun
@[simp] theorem op_dlen {i : Nat} {f : Env → Option (R × Env)} : opd (.dlen i) f ρ = (f ρ).bind fun p => (frzO p.1).bind fun d => some (.d d, p.2) := rfl
@[simp] theorem lv_dlen {i : Nat} {bb : E} : evL Φ (.cons (.dlen i) bb) ρ = (evE Φ (.dlen i) ρ).bind fun p => (evL Φ bb p.2).bind fun q => some ((p.1, none) :: q.1, q.2) := lv_cons fun _ => nofun
@[simp] theorem op_bits {a : E} {f : Env → Option (R × Env)} : opd (.bits a) f ρ = (f ρ).bind fun p => (frzO p.1).bind fun d => some (.d d, p.2) := rfl
@[simp] theorem lv_bits {a : E} {bb : E} : evL Φ (.cons (.bits a) bb) ρ = (evE Φ (.bits a) ρ).bind fun p => (evL Φ bb p.2).bind fun q => some ((p.1, none) :: q.1, q.2) := lv_cons fun _ => nofun
@[simp] theorem op_sset {a : E} {f : Env → Option (R × Env)} : opd (.sset a) f ρ = (f ρ).bind fun p => (frzO p.1).bind fun d => some (.d d, p.2) := rfl
@[simp] theorem lv_sset {a : E} {bb : E} : evL Φ (.cons (.sset a) bb) ρ = (evE Φ (.sset a) ρ).bind fun p => (evL Φ bb p.2).bind fun q => some ((p.1, none) :: q.1, q.2) := lv_cons fun _ => nofun
@[simp] theorem op_stc {g : Str} {a : E} {f : Env → Option (R × Env)} : opd (.stc g a) f ρ = (f ρ).bind fun p => (frzO p.1).bind fun d => some (.d d, p.2) := rfl
@[simp] theorem lv_stc {g : Str} {a : E} {bb : E} : evL Φ (.cons (.stc g a) bb) ρ = (evE Φ (.stc g a) ρ).bind fun p => (evL Φ bb p.2).bind fun q => some ((p.1, none) :: q.1, q.2) := lv_cons fun _ => nofun
@[simp] theorem op_dnew {t : Bool} {f : Env → Option (R × Env)} : opd (.dnew t) f ρ = (f ρ).bind fun p => (frzO p.1).bind fun d => some (.d d, p.2) := rfl
@[simp] theorem lv_dnew {t : Bool} {bb : E} : evL Φ (.cons (.dnew t) bb) ρ = (evE Φ (.dnew t) ρ).bind fun p => (evL Φ bb p.2).bind fun q => some ((p.1, none) :: q.1, q.2) := lv_cons fun _ => nofun
/-! statements -/
@[simp] theorem x0_dput {i : Nat} {ix e : E} : ex Φ (.dput i ix e) ρ = (evE Φ e ρ).bind fun p => (frzO p.1).bind fun d => (getS p.2 i).bind fun _ => (opd ix (evE Φ ix) p.2).bind fun y =>
      (der y.2 y.1).bind fun kd => (getS y.2 i).bind fun r => match r with
        | .m t kvs => (keyD t kd).bind fun k => if okN (kvs.length + 1) = true then some (.next, setS y.2 i (some (.m t (putM kvs k d)))) else none
        | _ => none := rfl
@[simp] theorem x0_par3 {i j l : Nat} {a b c : E} : ex Φ (.par3 i j l a b c) ρ = (evE Φ a ρ).bind fun p => (evE Φ b p.2).bind fun q => (evE Φ c q.2).bind fun u =>
      if i < u.2.length ∧ j < u.2.length ∧ l < u.2.length then some (.next, setS (setS (setS u.2 i (some p.1)) j (some q.1)) l (some u.1)) else none := rfl
@[simp] theorem x0_aug {i : Nat} {op : Operator} {e : E} : ex Φ (.aug i op e) ρ = (getS ρ i).bind fun r => match r with
      | .v (.int a) => (opd e (evE Φ e) ρ).bind fun y => (der y.2 y.1).bind fun d => match d with
        | .int b => (augI op a b).bind fun z => some (.next, setS y.2 i (some (.v (.int z))))
        | _ => none
      | _ => none := rfl
@[simp] theorem ag_a {a b : Int} : augI .Add a b = some (a + b) := rfl
@[simp] theorem ag_s {a b : Int} : augI .Sub a b = some (a - b) := rfl
@[simp] theorem x0_ext {i : Nat} {e : E} : ex Φ (.ext i e) ρ = (getS ρ i).bind fun r0 => if r0.isL = true then (opd e (evE Φ e) ρ).bind fun p => (der p.2 p.1).bind fun d => (getS p.2 i).bind fun r => match r, d with
      | .l xs, .list ys => if okN (xs.length + ys.length) = true then some (.next, setS p.2 i (some (.l (xs ++ ys)))) else none
      | _, _ => none
    else none := rfl
@[simp] theorem x0_xpar {i j : Nat} {ix a b : E} : ex Φ (.xpar i ix j a b) ρ = (evF Φ (.cons a (.cons b .nil)) ρ).bind fun p => match p.1 with
      | [d, e] => (getS p.2 i).bind fun _ => (opd ix (evE Φ ix) p.2).bind fun y => (der y.2 y.1).bind fun kd => (getS y.2 i).bind fun r => match r with
        | .m t kvs => (keyD t kd).bind fun k => if okN (kvs.length + 1) = true then some (.next, setS (setS y.2 i (some (.m t (putM kvs k d)))) j (some (.v e))) else none
        | _ => none
      | _ => none := rfl
@[simp] theorem x0_swp {i : Nat} {ix iy a b : E} : ex Φ (.swp i ix iy a b) ρ = (evF Φ (.cons a (.cons b .nil)) ρ).bind fun p => match p.1 with
      | [d, e] => (getS p.2 i).bind fun _ => (opd ix (evE Φ ix) p.2).bind fun y => (der y.2 y.1).bind fun kd => (getS y.2 i).bind fun r => match r, kd with
        | .l xs, .int k => (ixN xs.length k).bind fun n => (opd iy (evE Φ iy) (setS y.2 i (some (.l (xs.set n d))))).bind fun z => (der z.2 z.1).bind fun ld => (getS z.2 i).bind fun r => match r, ld with
          | .l ys, .int l => (ixN ys.length l).bind fun m => some (.next, setS z.2 i (some (.l (ys.set m e))))
          | _, _ => none
        | _, _ => none
      | _ => none := rfl
@[simp] theorem x0_skip : ex Φ .skip ρ = some (.next, ρ) := rfl
@[simp] theorem x0_seq {s t : S} : ex Φ (.seq s t) ρ = (ex Φ s ρ).bind fun p => match p.1 with
      | .next => ex Φ t p.2
      | f => some (f, p.2) := rfl
theorem seq_next {s t : S} {ρ1 : Env} (h : ex Φ s ρ = some (.next, ρ1)) : ex Φ (.seq s t) ρ = ex Φ t ρ1 := by
  show (ex Φ s ρ).bind _ = _
  rw [h]
  rfl
theorem seq_ret {s t : S} {ρ1 : Env} {r : R} (h : ex Φ s ρ = some (.ret r, ρ1)) : ex Φ (.seq s t) ρ = some (.ret r, ρ1) := by
  show (ex Φ s ρ).bind _ = _
  rw [h]
  rfl
@[simp] theorem x0_asg {i : Nat} {e : E} : ex Φ (.asg i e) ρ = (evE Φ e ρ).bind fun p => some (.next, setS p.2 i (some p.1)) := rfl
@[simp] theorem x0_asgF {i : Nat} {e : E} : ex Φ (.asgF i e) ρ = (evE Φ e ρ).bind fun p => (frzO p.1).bind fun d => some (.next, setS p.2 i (some (.v d))) := rfl
@[simp] theorem x0_asgT {tg : Tg} {e : E} : ex Φ (.asgT tg e) ρ = (evE Φ e ρ).bind fun p => (frzO p.1).bind fun d => (bindT tg d p.2).bind fun ρ2 => some (.next, ρ2) := rfl
@[simp] theorem x0_par {i j : Nat} {a b : E} : ex Φ (.par i j a b) ρ = (evE Φ a ρ).bind fun p => (evE Φ b p.2).bind fun q => if i < q.2.length ∧ j < q.2.length then some (.next, setS (setS q.2 i (some p.1)) j (some q.1)) else none := rfl
@[simp] theorem x0_setx {i : Nat} {ix e : E} : ex Φ (.setx i ix e) ρ = (evE Φ e ρ).bind fun p => (frzO p.1).bind fun d => (getS p.2 i).bind fun _ => (opd ix (evE Φ ix) p.2).bind fun y =>
      (der y.2 y.1).bind fun k => (getS y.2 i).bind fun r => match r, k with
        | .l xs, .int k => (ixN xs.length k).bind fun j => some (.next, setS y.2 i (some (.l (xs.set j d))))
        | _, _ => none := rfl
@[simp] theorem x0_app {i : Nat} {e : E} : ex Φ (.app i e) ρ = (getS ρ i).bind fun r0 => if r0.isL = true then (evE Φ e ρ).bind fun p => (frzO p.1).bind fun d => (getS p.2 i).bind fun r => match r with
      | .l xs => if okN (xs.length + 1) = true then some (.next, setS p.2 i (some (.l (xs ++ [d])))) else none
      | _ => none
    else none := rfl
@[simp] theorem x0_ret {e : E} : ex Φ (.ret e) ρ = (evE Φ e ρ).bind fun p => some (.ret p.1, p.2) := rfl
@[simp] theorem x0_retN : ex Φ .retN ρ = some (.ret (.v .none), ρ) := rfl
@[simp] theorem x0_if {c : E} {s t : S} : ex Φ (.if_ c s t) ρ = (evT Φ c ρ).bind fun p => match p.1 with
      | true => ex Φ s p.2
      | false => ex Φ t p.2 := rfl
@[simp] theorem x0_for {tg : Tg} {it : E} {b : S} : ex Φ (.for_ tg it b) ρ = (evI Φ it ρ).bind fun p => forL (fun d ρ => (bindT tg d ρ).bind fun ρ2 => ex Φ b ρ2) p.1 p.2 := rfl
@[simp] theorem x0_while {c : E} {b : S} : ex Φ (.while_ c b) ρ = whileN (evT Φ c) (ex Φ b) WF ρ := rfl
@[simp] theorem x0_brk : ex Φ .brk ρ = some (.brk, ρ) := rfl
@[simp] theorem x0_cont : ex Φ .cont ρ = some (.cont, ρ) := rfl
@[simp] theorem x0_pass : ex Φ .pass ρ = some (.next, ρ) := rfl
@[simp] theorem x0_drop {e : E} : ex Φ (.drop e) ρ = (evE Φ e ρ).bind fun p => some (.next, p.2) := rfl
@[simp] theorem bt_nm {i : Nat} {d : D} : bindT (.nm i) d ρ = some (setS ρ i (some (.v d))) := rfl
@[simp] theorem bt_tp {a : Tg} {ds : List D} : bindT (.tp a) (.tuple ds) ρ = bindTs a ds ρ := rfl
@[simp] theorem bt_tpl {a : Tg} {ds : List D} : bindT (.tp a) (.list ds) ρ = bindTs a ds ρ := rfl
@[simp] theorem bts_nil : bindTs .nil [] ρ = some ρ := rfl
@[simp] theorem bts_cons {a b : Tg} {d : D} {ds : List D} : bindTs (.cons a b) (d :: ds) ρ = (bindT a d ρ).bind fun ρ1 => bindTs b ds ρ1 := rfl
/-! slots -/
@[simp] theorem gs_0 {r : Option R} : getS (r :: ρ) 0 = r := rfl
@[simp] theorem gs_s {r : Option R} {i : Nat} : getS (r :: ρ) (i + 1) = getS ρ i := rfl
@[simp] theorem ss_0 {r q : Option R} : setS (r :: ρ) 0 q = q :: ρ := rfl
@[simp] theorem ss_s {r q : Option R} {i : Nat} : setS (r :: ρ) (i + 1) q = r :: setS ρ i q := rfl
end
@[simp] theorem fz_v {d : D} : frzO (.v d) = some d := rfl
@[simp] theorem fz_l {d : List D} : frzO (.l d) = some (.list d) := rfl
@[simp] theorem dr_v {d : D} : derR (.v d) = some d := rfl
@[simp] theorem dr_l {d : List D} : derR (.l d) = some (.list d) := rfl
@[simp] theorem da_v {d : D} : derA (.v d) = some d := rfl
@[simp] theorem da_l {d : List D} : derA (.l d) = some (.list d) := rfl
@[simp] theorem da_s {ns : List Int} : derA (.s ns) = some (.list (ns.map PyData.int)) := rfl
@[simp] theorem de_s {ρ : Env} {i : Nat} : der ρ (.sl i) = (getS ρ i).bind derR := rfl
@[simp] theorem de_d {ρ : Env} {d : D} : der ρ (.d d) = some d := rfl
@[simp] theorem ds_s {ρ : Env} {i : Nat} : derS ρ (.sl i) = (getS ρ i).bind derA := rfl
@[simp] theorem ds_d {ρ : Env} {d : D} : derS ρ (.d d) = some d := rfl
@[simp] theorem dl_n {ρ : Env} : derAll ρ [] = some [] := rfl
@[simp] theorem dl_c {ρ : Env} {o : Op} {os : List Op} : derAll ρ (o :: os) = (der ρ o).bind fun d => (derAll ρ os).bind fun ds => some (d :: ds) := rfl
@[simp] theorem ow_v {d : D} : (R.v d).own = false := rfl
@[simp] theorem ow_l {d : List D} : (R.l d).own = true := rfl
@[simp] theorem ow_m {t : Bool} {d : MP} : (R.m t d).own = true := rfl
@[simp] theorem il_v {d : D} : (R.v d).isL = false := rfl
@[simp] theorem il_l {d : List D} : (R.l d).isL = true := rfl
@[simp] theorem il_s {d : List Int} : (R.s d).isL = false := rfl
@[simp] theorem il_m {t : Bool} {d : MP} : (R.m t d).isL = false := rfl
@[simp] theorem ow_s {d : List Int} : (R.s d).own = false := rfl
@[simp] theorem wb_n {ρ : Env} : wb ρ [] [] = ρ := rfl
@[simp] theorem wb_s {ρ : Env} {x r : R} {i : Nat} {as : List (R × Option Nat)} {rs : List R} : wb ρ ((x, some i) :: as) (r :: rs) = wb (setS ρ i (some r)) as rs := rfl
@[simp] theorem wb_c {ρ : Env} {x r : R} {as : List (R × Option Nat)} {rs : List R} : wb ρ ((x, none) :: as) (r :: rs) = wb ρ as rs := rfl
@[simp] theorem fr_r {r : R} : flR (.ret r) = some r := rfl
@[simp] theorem fr_n : flR .next = some (.v .none) := rfl
@[simp] theorem wp_n {ρ : Env} : wipeE ρ [] = ρ := rfl
@[simp] theorem wp_c {ρ : Env} {v : Nat} {vs : List Nat} : wipeE ρ (v :: vs) = setS (wipeE ρ vs) v none := rfl
@[simp] theorem bk_n {ρ ρ' : Env} : back ρ ρ' [] = ρ' := rfl
@[simp] theorem bk_c {ρ ρ' : Env} {v : Nat} {vs : List Nat} : back ρ ρ' (v :: vs) = setS (back ρ ρ' vs) v (getS ρ v) := rfl
@[simp] theorem en_n {f : Fn} {j : Nat} : entryL f j [] = [] := rfl
@[simp] theorem en_c {f : Fn} {j : Nat} {r : R} {rs : List R} : entryL f j (r :: rs) = (if f.io j = true then some r else frzE r) :: entryL f (j + 1) rs := rfl
@[simp] theorem ot_n {f : Fn} {ρ : Env} {j : Nat} : outsL f ρ j [] = some [] := rfl
@[simp] theorem ot_c {f : Fn} {ρ : Env} {j : Nat} {r : R} {rs : List R} : outsL f ρ j (r :: rs) = (if f.io j = true then getS ρ j else frzE r).bind fun q => (outsL f ρ (j + 1) rs).bind fun qs => some (q :: qs) := rfl
@[simp] theorem fzr_v {d : D} : frzE (.v d) = some (.v d) := rfl
@[simp] theorem fzr_l {d : List D} : frzE (.l d) = some (.v (.list d)) := rfl
@[simp] theorem fzr_s {d : List Int} : frzE (.s d) = some (.s d) := rfl
@[simp] theorem fzr_m {t : Bool} {d : MP} : frzE (.m t d) = none := rfl
@[simp] theorem bd_add {a b : Int} : binD .Add (.int a) (.int b) = some (.v (.int (a + b))) := rfl
@[simp] theorem bd_sub {a b : Int} : binD .Sub (.int a) (.int b) = some (.v (.int (a - b))) := rfl
@[simp] theorem bd_mul {a b : Int} : binD .Mult (.int a) (.int b) = if (-18446744073709551616 < a ∧ a < 18446744073709551616) ∨ (-18446744073709551616 < b ∧ b < 18446744073709551616) then some (.v (.int (a * b))) else none := rfl
@[simp] theorem bd_fdv {a b : Int} : binD .FloorDiv (.int a) (.int b) = if 0 < b ∧ b < 1073741824 then some (.v (.int (a / b))) else none := rfl
@[simp] theorem bd_mod {a b : Int} : binD .Mod (.int a) (.int b) = if 0 < b then some (.v (.int (a % b))) else none := rfl
@[simp] theorem bd_pow {a b : Int} : binD .Pow (.int a) (.int b) = if 0 ≤ b ∧ b ≤ 1000000 ∧ a.natAbs < 18446744073709551616 then some (.v (.int (a ^ b.toNat))) else none := rfl
@[simp] theorem bd_shl {a b : Int} : binD .LShift (.int a) (.int b) = if 0 ≤ b ∧ b ≤ 1000000 ∧ a.natAbs < 18446744073709551616 then some (.v (.int (a * 2 ^ b.toNat))) else none := rfl
@[simp] theorem bd_shr {a b : Int} : binD .RShift (.int a) (.int b) = if 0 ≤ b then some (.v (.int (a / 2 ^ b.toNat))) else none := rfl
@[simp] theorem bd_cat {a b : List D} : binD .Add (.list a) (.list b) = if okN (a.length + b.length) = true then some (.l (a ++ b)) else none := rfl
@[simp] theorem bd_catT {a b : List D} : binD .Add (.tuple a) (.tuple b) = if okN (a.length + b.length) = true then some (.v (.tuple (a ++ b))) else none := rfl
@[simp] theorem bd_rep {a : List D} {k : Int} : binD .Mult (.list a) (.int k) = if in62 k = true ∧ okN (a.length * k.toNat) = true then some (.l (List.replicate k.toNat a).flatten) else none := rfl
@[simp] theorem cd_lt {a b : Int} : cmpD .Lt (.int a) (.int b) = some (decide (a < b)) := rfl
@[simp] theorem cd_le {a b : Int} : cmpD .LtE (.int a) (.int b) = some (decide (a ≤ b)) := rfl
@[simp] theorem cd_gt {a b : Int} : cmpD .Gt (.int a) (.int b) = some (decide (b < a)) := rfl
@[simp] theorem cd_ge {a b : Int} : cmpD .GtE (.int a) (.int b) = some (decide (b ≤ a)) := rfl
@[simp] theorem cd_eq {a b : D} : cmpD .Eq a b = eqD a b := rfl
@[simp] theorem cd_ne {a b : D} : cmpD .NotEq a b = (eqD a b).map (!·) := rfl
@[simp] theorem cd_is {a : D} : cmpD .Is a .none = some (isNonD a) := rfl
@[simp] theorem cd_isn {a : D} : cmpD .IsNot a .none = some (!isNonD a) := rfl
@[simp] theorem cd_in {a b : D} : cmpD .In a b = inD a b := rfl
@[simp] theorem cd_nin {a b : D} : cmpD .NotIn a b = (inD a b).map (!·) := rfl
@[simp] theorem qd_int {a b : Int} : eqD (.int a) (.int b) = some (decide (a = b)) := rfl
@[simp] theorem qd_bool {a b : Bool} : eqD (.bool a) (.bool b) = some (decide (a = b)) := rfl
@[simp] theorem qd_str {a b : Str} : eqD (.str a) (.str b) = some (decide (a = b)) := rfl
@[simp] theorem xd_l {a : List D} {i : Int} : idxD (.list a) (.int i) = atI a i := rfl
@[simp] theorem xd_t {a : List D} {i : Int} : idxD (.tuple a) (.int i) = atI a i := rfl
@[simp] theorem nd_i {a : Int} : negD (.int a) = some (.int (-a)) := rfl
@[simp] theorem td_b {b : Bool} : truD (.bool b) = some b := rfl
@[simp] theorem td_i {i : Int} : truD (.int i) = some (decide (i ≠ 0)) := rfl
@[simp] theorem td_n : truD .none = some false := rfl
@[simp] theorem td_l {xs : List D} : truD (.list xs) = some (!xs.isEmpty) := rfl
@[simp] theorem td_t {xs : List D} : truD (.tuple xs) = some (!xs.isEmpty) := rfl
@[simp] theorem tr_r {r : R} : truR r = (derA r).bind truD := rfl
@[simp] theorem sd_l {xs : List D} {lo hi : Option Int} : slcD (.list xs) lo hi = some (.l (cutA xs lo hi)) := rfl
@[simp] theorem sd_t {xs : List D} {lo hi : Option Int} : slcD (.tuple xs) lo hi = some (.v (.tuple (cutA xs lo hi))) := rfl
@[simp] theorem rd_l {xs : List D} : revD (.list xs) = some (.l xs.reverse) := rfl
@[simp] theorem rd_t {xs : List D} : revD (.tuple xs) = some (.v (.tuple xs.reverse)) := rfl
@[simp] theorem bi_len {xs : List D} : biD .len [.list xs] = some (.v (.int xs.length)) := rfl
@[simp] theorem bi_lenT {xs : List D} : biD .len [.tuple xs] = some (.v (.int xs.length)) := rfl
@[simp] theorem bi_tup {xs : List D} : biD .tuple [.list xs] = some (.v (.tuple xs)) := rfl
@[simp] theorem bi_tupT {xs : List D} : biD .tuple [.tuple xs] = some (.v (.tuple xs)) := rfl
@[simp] theorem bi_lst {xs : List D} : biD .list [.list xs] = some (.l xs) := rfl
@[simp] theorem bi_lstT {xs : List D} : biD .list [.tuple xs] = some (.l xs) := rfl
@[simp] theorem bi_all {xs : List D} : biD .all [.list xs] = (boolsOf xs).bind fun bs => some (.v (.bool (bs.all id))) := rfl
@[simp] theorem bi_any {xs : List D} : biD .any [.list xs] = (boolsOf xs).bind fun bs => some (.v (.bool (bs.any id))) := rfl
@[simp] theorem bi_int {i : Int} : biD .int [.int i] = some (.v (.int i)) := rfl
@[simp] theorem bi_intB {b : Bool} : biD .int [.bool b] = some (.v (.int (if b then 1 else 0))) := rfl
@[simp] theorem bi_abs {i : Int} : biD .abs [.int i] = some (.v (.int (if i < 0 then -i else i))) := rfl
@[simp] theorem bi_min2 {i j : Int} : biD .min2 [.int i, .int j] = some (.v (.int (if j < i then j else i))) := rfl
@[simp] theorem bi_max2 {i j : Int} : biD .max2 [.int i, .int j] = some (.v (.int (if j > i then j else i))) := rfl
@[simp] theorem bi_sum {xs : List D} : biD .sum [.list xs] = (intsOf xs).bind fun ns => some (.v (.int ns.sum)) := rfl
@[simp] theorem bi_max {xs : List D} : biD .max [.list xs] = (intsOf xs).bind fun ns => (maxL ns).bind fun m => some (.v (.int m)) := rfl
@[simp] theorem bi_min {xs : List D} : biD .min [.list xs] = (intsOf xs).bind fun ns => (minL ns).bind fun m => some (.v (.int m)) := rfl
@[simp] theorem bi_srt {xs : List D} : biD .sorted [.list xs] = (intsOf xs).bind fun ns => some (.l ((srtI ns).map PyData.int)) := rfl
theorem okN_t {n : Nat} (h : n ≤ 16777216) : okN n = true := decide_eq_true h
theorem in62_of {i : Int} (h1 : -4611686018427387904 ≤ i) (h2 : i < 4611686018427387904) : in62 i = true := in62_b.mpr ⟨h1, h2⟩
/-- a loop that keeps to a form -/
theorem forL_keep {α : Type} {f : D → Env → Option (Fl × Env)} (Ev : α → Env) (step : α → D → α) : ∀ (ds : List D) (a : α), (∀ d ∈ ds, ∀ a, f d (Ev a) = some (.next, Ev (step a d))) → forL f ds (Ev a) = some (.next, Ev (ds.foldl step a))
  | [], a, _ => rfl
  | d :: ds, a, h => by
    show (f d (Ev a)).bind _ = _
    rw [h d (List.mem_cons_self ..) a]
    exact forL_keep Ev step ds (step a d) fun d' hd' => h d' (List.mem_cons_of_mem _ hd')
/-- .. by turns, under a word about the turn -/
theorem forL_turns {f : D → Env → Option (Fl × Env)} (Pt : Nat → Env → Prop) : ∀ (ds : List D) (i : Nat) (ρ : Env), Pt i ρ → (∀ j d ρ, ds[j]? = some d → Pt (i + j) ρ → ∃ ρ', (f d ρ = some (.next, ρ') ∨ f d ρ = some (.cont, ρ')) ∧ Pt (i + j + 1) ρ') → ∃ ρ', forL f ds ρ = some (.next, ρ') ∧ Pt (i + ds.length) ρ'
  | [], i, ρ, p, _ => ⟨ρ, rfl, p⟩
  | d :: ds, i, ρ, p, h => by
    obtain ⟨ρ1, e, p1⟩ := h 0 d ρ rfl p
    obtain ⟨ρ2, e2, p2⟩ := forL_turns Pt ds (i + 1) ρ1 p1 fun j d' ρ' hj pj => by
      have := h (j + 1) d' ρ' (by simpa using hj) (by rw [show i + (j + 1) = i + 1 + j by omega]; exact pj)
      rw [show i + (j + 1) + 1 = i + 1 + j + 1 by omega] at this
      exact this
    refine ⟨ρ2, ?_, by rw [List.length_cons, show i + (ds.length + 1) = i + 1 + ds.length by omega]; exact p2⟩
    show (f d ρ).bind _ = _
    rcases e with e | e <;> (rw [e]; exact e2)
/-- a comprehension whose turns leave the slots as they stood -/
theorem compL_map {g : D → Env → Option (Option D × Env)} {vs : List Nat} {h : D → Option D} {ρ : Env} : ∀ (ds : List D), (∀ d ∈ ds, ∃ ρ', g d ρ = some (h d, ρ') ∧ wipeE ρ' vs = ρ) → compL g vs ds ρ = some (ds.filterMap h, ρ)
  | [], _ => rfl
  | d :: ds, hh => by
    obtain ⟨ρ', e, e2⟩ := hh d (List.mem_cons_self ..)
    show (g d ρ).bind _ = _
    rw [e]
    show (compL g vs ds (wipeE ρ' vs)).bind _ = _
    rw [e2, compL_map ds fun d' hd' => hh d' (List.mem_cons_of_mem _ hd'), List.filterMap_cons]
    cases h d <;> rfl
/-- .. without tests -/
theorem compL_all {g : D → Env → Option (Option D × Env)} {vs : List Nat} {h : D → D} {ρ : Env} (ds : List D) (hh : ∀ d ∈ ds, ∃ ρ', g d ρ = some (some (h d), ρ') ∧ wipeE ρ' vs = ρ) : compL g vs ds ρ = some (ds.map h, ρ) := by
  rw [compL_map (h := fun d => some (h d)) ds hh, List.filterMap_eq_map']
/-- .. whose turns change the slots -/
theorem compL_turns {g : D → Env → Option (Option D × Env)} {vs : List Nat} (Pt : Nat → List D → Env → Prop) : ∀ (ds : List D) (i : Nat) (acc : List D) (ρ : Env), Pt i acc ρ →
    (∀ j d acc ρ, ds[j]? = some d → Pt (i + j) acc ρ → ∃ x ρ', g d ρ = some (some x, ρ') ∧ Pt (i + j + 1) (acc ++ [x]) (wipeE ρ' vs)) → ∃ xs ρ', compL g vs ds ρ = some (xs, ρ') ∧ Pt (i + ds.length) (acc ++ xs) ρ'
  | [], i, acc, ρ, p, _ => ⟨[], ρ, rfl, by rw [List.append_nil]; exact p⟩
  | d :: ds, i, acc, ρ, p, h => by
    obtain ⟨x, ρ1, e, p1⟩ := h 0 d acc ρ rfl p
    obtain ⟨xs, ρ2, e2, p2⟩ := compL_turns Pt ds (i + 1) (acc ++ [x]) (wipeE ρ1 vs) p1 fun j d' acc' ρ' hj pj => by
      have := h (j + 1) d' acc' ρ' (by simpa using hj) (by rw [show i + (j + 1) = i + 1 + j by omega]; exact pj)
      rw [show i + (j + 1) + 1 = i + 1 + j + 1 by omega] at this
      exact this
    refine ⟨x :: xs, ρ2, ?_, by rw [List.length_cons, show i + (ds.length + 1) = i + 1 + ds.length by omega, show acc ++ x :: xs = acc ++ [x] ++ xs by simp]; exact p2⟩
    show (g d ρ).bind _ = _
    rw [e]
    show (compL g vs ds (wipeE ρ1 vs)).bind _ = _
    rw [e2]
    rfl
theorem cut_take {α : Type} {xs : List α} {j : Int} (h : 0 ≤ j) : cutA xs none (some j) = xs.take j.toNat := by
  unfold cutA HT.sIx
  dsimp only
  rw [if_neg (by omega), List.drop_zero, Nat.sub_zero, List.take_eq_take_iff]
  omega
theorem cut_drop {α : Type} {xs : List α} {i : Int} (h : 0 ≤ i) : cutA xs (some i) none = xs.drop i.toNat := by
  unfold cutA HT.sIx
  dsimp only
  rw [if_neg (by omega)]
  by_cases hl : i.toNat ≤ xs.length
  · rw [Nat.min_eq_left hl, List.take_of_length_le (by rw [List.length_drop]; omega)]
  · rw [Nat.min_eq_right (by omega), List.drop_of_length_le (Nat.le_refl _), List.drop_of_length_le (by omega), List.take_nil]
theorem cut_both {α : Type} {xs : List α} {i j : Int} (h : 0 ≤ i) (h2 : 0 ≤ j) : cutA xs (some i) (some j) = (xs.take j.toNat).drop i.toNat := by
  unfold cutA HT.sIx
  dsimp only
  rw [if_neg (by omega), if_neg (by omega)]
  apply List.ext_getElem?
  intro m
  rw [List.getElem?_take, List.getElem?_drop, List.getElem?_drop, List.getElem?_take]
  by_cases hl : i.toNat ≤ xs.length
  · rw [Nat.min_eq_left hl]
    by_cases hm : i.toNat + m < j.toNat
    · rw [if_pos hm]
      by_cases hx : i.toNat + m < xs.length
      · rw [if_pos (by omega)]
      · rw [List.getElem?_eq_none (by omega)]
        split <;> rfl
    · rw [if_neg hm, if_neg (by omega)]
  · rw [List.getElem?_eq_none (i := i.toNat + m) (by omega), List.getElem?_eq_none (by omega)]
    split <;> split <;> rfl
theorem cut_last {α : Type} {xs : List α} : cutA xs none (some (-1)) = xs.dropLast := by
  unfold cutA HT.sIx
  dsimp only
  rw [if_pos (by omega), List.drop_zero, Nat.sub_zero, List.dropLast_eq_take]
  congr 1
  omega
theorem at_nat {α : Type} {xs : List α} {i : Int} {n : Nat} (h : i = n) : atI xs i = xs[n]? := by
  subst h
  unfold atI ixN
  rw [if_pos (by omega)]
  by_cases hl : (n : Int) < xs.length
  · rw [if_pos hl]
    rfl
  · rw [if_neg hl, List.getElem?_eq_none (by omega)]
    rfl
theorem at_last {α : Type} {xs : List α} : atI xs (-1) = xs.getLast? := by
  unfold atI ixN
  rw [if_neg (by omega)]
  by_cases hl : -(xs.length : Int) ≤ -1
  · rw [if_pos hl, List.getLast?_eq_getElem?]
    show xs[_]? = _
    congr 1
    omega
  · rw [if_neg hl]
    have : xs = [] := List.eq_nil_of_length_eq_zero (by omega)
    subst this
    rfl
theorem ix_nat {n j : Nat} {i : Int} (h : i = j) (hl : j < n) : ixN n i = some j := by
  subst h
  unfold ixN
  rw [if_pos (by omega), if_pos (by omega)]
  rfl
theorem runF_of {Φ : Phi} {f : Fn} {rs : List R} {ρ0 ρ1 : Env} {fl : Fl} {r : R} {outs : List R} (h1 : rs.length = f.np) (h2 : entryL f 0 rs ++ List.replicate (f.ns - f.np) none = ρ0) (h3 : ex Φ f.body ρ0 = some (fl, ρ1)) (h4 : flR fl = some r)
    (h5 : outsL f ρ1 0 rs = some outs) : runF Φ f rs = some (r, outs) := by
  unfold runF
  rw [if_pos h1, h2, h3]
  show (flR fl).bind _ = _
  rw [h4]
  show (outsL f ρ1 0 rs).bind _ = _
  rw [h5]
  rfl
theorem seq_n {Φ : Phi} {s t : S} {ρ ρ1 : Env} {x : Option (Fl × Env)} (h : ex Φ s ρ = some (.next, ρ1)) (h2 : ex Φ t ρ1 = x) : ex Φ (.seq s t) ρ = x := (seq_next h).trans h2
theorem asg_n {Φ : Phi} {i : Nat} {e : E} {ρ ρ1 : Env} {r : R} (h : evE Φ e ρ = some (r, ρ1)) : ex Φ (.asg i e) ρ = some (.next, setS ρ1 i (some r)) := by
  rw [x0_asg, h]
  rfl
theorem asgF_n {Φ : Phi} {i : Nat} {e : E} {ρ ρ1 : Env} {r : R} {d : D} (h : evE Φ e ρ = some (r, ρ1)) (h2 : frzO r = some d) : ex Φ (.asgF i e) ρ = some (.next, setS ρ1 i (some (.v d))) := by
  rw [x0_asgF, h]
  show (frzO r).bind _ = _
  rw [h2]
  rfl
theorem ret_n {Φ : Phi} {e : E} {t : S} {ρ ρ1 : Env} {r : R} (h : evE Φ e ρ = some (r, ρ1)) : ex Φ (.seq (.ret e) t) ρ = some (.ret r, ρ1) := by
  apply seq_ret
  rw [x0_ret, h]
  rfl
theorem for_n {Φ : Phi} {tg : Tg} {it : E} {b : S} {ρ ρ1 : Env} {ds : List D} {x : Option (Fl × Env)} (h : evI Φ it ρ = some (ds, ρ1)) (h2 : forL (fun d ρ => (bindT tg d ρ).bind fun ρ2 => ex Φ b ρ2) ds ρ1 = x) : ex Φ (.for_ tg it b) ρ = x := by
  rw [x0_for, h]
  exact h2
theorem comp_n {Φ : Phi} {elt : E} {tg : Tg} {it ifs : E} {vs : List Nat} {ρ ρ1 ρ2 : Env} {ds xs : List D} (h : evI Φ it ρ = some (ds, ρ1)) (hl : ds.length ≤ 16777216) (h2 : compL (turnE Φ elt tg ifs) vs ds (wipeE ρ1 vs) = some (xs, ρ2)) : evE Φ (.comp elt tg it ifs vs) ρ = some (.l xs, back ρ1 ρ2 vs) := by
  rw [ev_comp, h]
  show (if okN ds.length = true then _ else _) = _
  rw [if_pos (okN_t hl)]
  show (compL (turnE Φ elt tg ifs) vs ds (wipeE ρ1 vs)).bind _ = _
  rw [h2]
  rfl
theorem call_n {Φ : Phi} {f : Str} {es : E} {ρ ρ1 : Env} {as : List (R × Option Nat)} {r : R} {outs : List R} (h : evL Φ es ρ = some (as, ρ1)) (h2 : Φ f (as.map (·.1)) = some (r, outs)) (h3 : outs.length = as.length) : evE Φ (.call f es) ρ = some (r, wb ρ1 as outs) := by
  rw [ev_call, h]
  show (Φ f (as.map (·.1))).bind _ = _
  rw [h2]
  show (if outs.length = as.length then _ else _) = _
  rw [if_pos h3]
theorem all_n {Φ : Phi} {c : E} {ρ ρ1 : Env} {xs : List D} {bs : List Bool} (hv : ∀ i, c ≠ .var i) (h : evE Φ c ρ = some (.l xs, ρ1)) (hb : boolsOf xs = some bs) : evE Φ (.bi .all (.cons c .nil)) ρ = some (.v (.bool (bs.all id)), ρ1) := by
  rw [ev_ball, ov_cons, op_val hv, h]
  simp [hb]
theorem tup_n {Φ : Phi} {c : E} {ρ ρ1 : Env} {xs : List D} (hv : ∀ i, c ≠ .var i) (h : evE Φ c ρ = some (.l xs, ρ1)) : evE Φ (.bi .tuple (.cons c .nil)) ρ = some (.v (.tuple xs), ρ1) := by
  rw [ev_btuple, ov_cons, op_val hv, h]
  simp
theorem rng1_n {Φ : Phi} {a : E} {ρ ρ1 : Env} {j : Int} {o : Op} (h : opd a (evE Φ a) ρ = some (o, ρ1)) (h2 : der ρ1 o = some (.int j)) (h3 : -4611686018427387904 ≤ j) (h4 : j < 4611686018427387904) : evI Φ (.rng1 a) ρ = some (rngD 0 j, ρ1) := by
  rw [iv_1, h]
  show (der ρ1 o).bind _ = _
  rw [h2]
  show (if in62 j = true then _ else _) = _
  rw [if_pos (in62_of h3 h4)]
theorem rng2_n {Φ : Phi} {a b : E} {ρ ρ1 ρ2 : Env} {i j : Int} {o p : Op} (h : opd a (evE Φ a) ρ = some (o, ρ1)) (hb : opd b (evE Φ b) ρ1 = some (p, ρ2)) (h2 : der ρ2 o = some (.int i)) (h2b : der ρ2 p = some (.int j)) (h3 : -4611686018427387904 ≤ i) (h4 : i < 4611686018427387904)
    (h5 : -4611686018427387904 ≤ j) (h6 : j < 4611686018427387904) : evI Φ (.rng2 a b) ρ = some (rngD i j, ρ2) := by
  rw [iv_2, h]
  show (opd b (evE Φ b) ρ1).bind _ = _
  rw [hb]
  show (der ρ2 o).bind _ = _
  rw [h2]
  show (der ρ2 p).bind _ = _
  rw [h2b]
  show (if in62 i = true ∧ in62 j = true then _ else _) = _
  rw [if_pos ⟨in62_of h3 h4, in62_of h5 h6⟩]
theorem rng3_n {Φ : Phi} {a b c : E} {ρ ρ1 ρ2 ρ3 : Env} {i j : Int} {o p u : Op} (h : opd a (evE Φ a) ρ = some (o, ρ1)) (hb : opd b (evE Φ b) ρ1 = some (p, ρ2)) (hc : opd c (evE Φ c) ρ2 = some (u, ρ3)) (h2 : der ρ3 o = some (.int i)) (h2b : der ρ3 p = some (.int j)) (h2c : der ρ3 u = some (.int (-1)))
    (h3 : -4611686018427387904 ≤ i) (h4 : i < 4611686018427387904) (h5 : -4611686018427387904 ≤ j) (h6 : j < 4611686018427387904) : evI Φ (.rng3 a b c) ρ = some (rngC i (-1) (i - j).toNat, ρ3) := by
  rw [iv_3, h]
  show (opd b (evE Φ b) ρ1).bind _ = _
  rw [hb]
  show (opd c (evE Φ c) ρ2).bind _ = _
  rw [hc]
  show (der ρ3 o).bind _ = _
  rw [h2]
  show (der ρ3 p).bind _ = _
  rw [h2b]
  show (der ρ3 u).bind _ = _
  rw [h2c]
  show (if in62 i = true ∧ in62 j = true ∧ (-1 : Int) = -1 then _ else _) = _
  rw [if_pos ⟨in62_of h3 h4, in62_of h5 h6, rfl⟩]
/-- a while by turns -/
theorem while_turns {c : Env → Option (Bool × Env)} {f : Env → Option (Fl × Env)} (Pt : Nat → Env → Prop) (Qt : Env → Prop) (p : Nat) (hc : ∀ j ρ, j < p → Pt j ρ → ∃ ρ1 ρ2, c ρ = some (true, ρ1) ∧ f ρ1 = some (.next, ρ2) ∧ Pt (j + 1) ρ2)
    (he : ∀ ρ, Pt p ρ → ∃ ρ1, c ρ = some (false, ρ1) ∧ Qt ρ1) : ∀ (fuel i : Nat) (ρ : Env), i ≤ p → p - i < fuel → Pt i ρ → ∃ ρ', whileN c f fuel ρ = some (.next, ρ') ∧ Qt ρ'
  | 0, _, _, _, h, _ => absurd h (Nat.not_lt_zero _)
  | fuel + 1, i, ρ, hi, hf, hp => by
    by_cases q : i = p
    · subst q
      obtain ⟨ρ1, e, h⟩ := he ρ hp
      refine ⟨ρ1, ?_, h⟩
      show (c ρ).bind _ = _
      rw [e]
      rfl
    · obtain ⟨ρ1, ρ2, e1, e2, h⟩ := hc i ρ (by omega) hp
      obtain ⟨ρ3, e3, h3⟩ := while_turns Pt Qt p hc he fuel (i + 1) ρ2 (by omega) (by omega) h
      refine ⟨ρ3, ?_, h3⟩
      show (c ρ).bind _ = _
      rw [e1]
      show (f ρ1).bind _ = _
      rw [e2]
      exact e3
theorem whl_n {Φ : Phi} {c : E} {b : S} {ρ : Env} {x : Option (Fl × Env)} (h : whileN (evT Φ c) (ex Φ b) WF ρ = x) : ex Φ (.while_ c b) ρ = x := h
theorem rngC_at {i : Int} {n j : Nat} (h : j < n) : (rngC i (-1) n)[j]? = some (.int (i - j)) := by
  unfold rngC
  rw [List.getElem?_map, List.getElem?_range h]
  show some (PyData.int (i + (j : Int) * -1)) = _
  rw [show i + (j : Int) * -1 = i - j by omega]
theorem rngC_len {i c : Int} {n : Nat} : (rngC i c n).length = n := by simp [rngC]
theorem rngD_at {i j : Int} {m : Nat} (h : (m : Int) < j - i) : (rngD i j)[m]? = some (.int (i + m)) := by
  unfold rngD
  rw [List.getElem?_map, List.getElem?_range (by omega)]
  rfl
@[simp] theorem okN_0 : okN 0 = true := rfl
@[simp] theorem in62_0 : in62 0 = true := rfl
@[simp] theorem okN_1 : okN 1 = true := rfl
@[simp] theorem in62_1 : in62 1 = true := rfl
@[simp] theorem okN_2 : okN 2 = true := rfl
@[simp] theorem in62_2 : in62 2 = true := rfl
@[simp] theorem okN_3 : okN 3 = true := rfl
@[simp] theorem in62_3 : in62 3 = true := rfl
@[simp] theorem okN_4 : okN 4 = true := rfl
@[simp] theorem in62_4 : in62 4 = true := rfl
@[simp] theorem okN_5 : okN 5 = true := rfl
@[simp] theorem in62_5 : in62 5 = true := rfl
@[simp] theorem okN_6 : okN 6 = true := rfl
@[simp] theorem in62_6 : in62 6 = true := rfl
@[simp] theorem okN_7 : okN 7 = true := rfl
@[simp] theorem in62_7 : in62 7 = true := rfl
@[simp] theorem okN_8 : okN 8 = true := rfl
@[simp] theorem in62_8 : in62 8 = true := rfl
@[simp] theorem okN_9 : okN 9 = true := rfl
@[simp] theorem in62_9 : in62 9 = true := rfl
theorem lrg_n {Φ : Phi} {it : E} {ρ ρ1 : Env} {ds : List D} (h : evI Φ it ρ = some (ds, ρ1)) (hl : ds.length ≤ 16777216) : evE Φ (.lrg false it) ρ = some (.l ds, ρ1) := by
  rw [ev_lrg, h]
  show (if okN ds.length = true then _ else _) = _
  rw [if_pos (okN_t hl)]
  rfl
theorem bin_n {Φ : Phi} {o : Operator} {a b : E} {ρ ρ1 ρ2 : Env} {x y : Op} {d e : D} {r : R} (h1 : opd a (evE Φ a) ρ = some (x, ρ1)) (h2 : opd b (evE Φ b) ρ1 = some (y, ρ2)) (h3 : der ρ2 x = some d) (h4 : der ρ2 y = some e) (h5 : binD o d e = some r) : evE Φ (.bin o a b) ρ = some (r, ρ2) := by
  rw [ev_bin, h1]
  show (opd b (evE Φ b) ρ1).bind _ = _
  rw [h2]
  show (der ρ2 x).bind _ = _
  rw [h3]
  show (der ρ2 y).bind _ = _
  rw [h4]
  show (binD o d e).bind _ = _
  rw [h5]
  rfl
theorem lst1_n {Φ : Phi} {a : E} {ρ ρ1 : Env} {r : R} {d : D} (h : evE Φ a ρ = some (r, ρ1)) (h2 : frzO r = some d) : evE Φ (.lst (.cons a .nil)) ρ = some (.l [d], ρ1) := by
  rw [ev_lst, fv_cons, h]
  simp [h2]
theorem opd_n {Φ : Phi} {a : E} {ρ ρ1 : Env} {r : R} {d : D} (hv : ∀ i, a ≠ .var i) (h : evE Φ a ρ = some (r, ρ1)) (h2 : frzO r = some d) : opd a (evE Φ a) ρ = some (.d d, ρ1) := by
  rw [op_val hv, h]
  simp [h2]
theorem cat_n {a b : List D} (h : a.length + b.length ≤ 16777216) : binD .Add (.list a) (.list b) = some (.l (a ++ b)) := if_pos (okN_t h)
end Pv
/-! ## tables of levels: the mathematics -/
namespace Lv
def run (f : Nat → Nat) (s : Nat) : Nat → Nat
  | 0 => s
  | b + 1 => f (run f s b)
def T (N : Nat) : Nat → Nat → Nat → Nat
  | 0, _, b => b
  | d + 1, a, b => if a + (d + 1) = N then run (fun x => T N d x (a + 1)) (a + 1) (b - 1) else T N d a b
def op (N a b : Nat) : Nat := T N N a b
theorem T_same {N a b : Nat} : ∀ (e : Nat), N - a ≤ e → a ≤ N → T N e a b = T N (N - a) a b
  | 0, h, _ => by rw [show N - a = 0 by omega]
  | e + 1, h, ha => by
    by_cases q : N - a = e + 1
    · rw [q]
    · show (if a + (e + 1) = N then _ else T N e a b) = _
      rw [if_neg (by omega)]
      exact T_same e (by omega) ha
theorem op_N {N b : Nat} : op N N b = b := by
  unfold op
  rw [T_same N (by omega) (Nat.le_refl _), Nat.sub_self]
  rfl
theorem op_run {N a b : Nat} (h : a < N) : op N a b = run (fun x => T N (N - a - 1) x (a + 1)) (a + 1) (b - 1) := by
  unfold op
  rw [T_same N (by omega) (by omega)]
  obtain ⟨d, hd⟩ : ∃ d, N - a = d + 1 := ⟨N - a - 1, by omega⟩
  rw [hd]
  show (if a + (d + 1) = N then _ else _) = _
  rw [if_pos (by omega)]
  rfl
theorem op_one {N a : Nat} (h : a < N) : op N a 1 = a + 1 := by
  rw [op_run h]
  rfl
theorem op_both {N : Nat} : ∀ (d a : Nat), N - a ≤ d → a < N → ∀ b, 1 ≤ b → (a < op N a b ∧ op N a b ≤ N) ∧ op N a (b + 1) = op N (op N a b) (a + 1)
  | 0, a, h, ha => by omega
  | d + 1, a, h, ha => by
    have st : ∀ b, 1 ≤ b → a < op N a b ∧ op N a b ≤ N → op N a (b + 1) = op N (op N a b) (a + 1) := fun b hb hh => by
      rw [op_run ha (b := b + 1)]
      obtain ⟨m, rfl⟩ : ∃ m, b = m + 1 := ⟨b - 1, by omega⟩
      show T N (N - a - 1) (run _ _ m) (a + 1) = _
      have e : run (fun x => T N (N - a - 1) x (a + 1)) (a + 1) m = op N a (m + 1) := (op_run ha (b := m + 1)).symm
      rw [e]
      show _ = T N N _ _
      rw [T_same (N - a - 1) (by omega) hh.2, T_same N (by omega) hh.2]
    have bd : ∀ b, 1 ≤ b → a < op N a b ∧ op N a b ≤ N := fun b hb => by
      induction b with
      | zero => omega
      | succ b ih =>
        by_cases q : b = 0
        · subst q
          rw [op_one ha]
          omega
        · have z := ih (by omega)
          rw [st b (by omega) z]
          by_cases w : op N a b = N
          · rw [w, op_N]
            omega
          · have := (op_both (N := N) d (op N a b) (by omega) (by omega) (a + 1) (by omega)).1
            omega
    exact fun b hb => ⟨bd b hb, st b hb (bd b hb)⟩
theorem op_gt {N a b : Nat} (h : a < N) (hb : 1 ≤ b) : a < op N a b := (op_both (N - a) a (Nat.le_refl _) h b hb).1.1
theorem op_le {N a b : Nat} (h : a ≤ N) (hb : 1 ≤ b) (hb2 : b ≤ N) : op N a b ≤ N := by
  by_cases q : a = N
  · rw [q, op_N]
    exact hb2
  · exact (op_both (N - a) a (Nat.le_refl _) (by omega) b hb).1.2
theorem op_le' {N a b : Nat} (h : a < N) (hb : 1 ≤ b) : op N a b ≤ N := (op_both (N - a) a (Nat.le_refl _) (by omega) b hb).1.2
theorem op_succ {N a b : Nat} (h : a < N) (hb : 1 ≤ b) : op N a (b + 1) = op N (op N a b) (a + 1) := (op_both (N - a) a (Nat.le_refl _) h b hb).2
theorem op_pos {N a b : Nat} (ha : 1 ≤ a) (h : a ≤ N) (hb : 1 ≤ b) : 1 ≤ op N a b := by
  by_cases q : a = N
  · rw [q, op_N]
    exact hb
  · have := op_gt (N := N) (a := a) (by omega) hb
    omega
/-! ### the end of a row -/
theorem op_again {N a q : Nat} (h : a < N) (hq : 1 ≤ q) (e : op N a q = N) : ∀ j, 1 ≤ j → op N a (q + j) = op N a j := fun j hj => by
  induction j with
  | zero => omega
  | succ j ih =>
    by_cases w : j = 0
    · subst w
      rw [op_succ h hq, e, op_N, op_one h]
    · rw [show q + (j + 1) = q + j + 1 by omega, op_succ h (by omega), ih (by omega), op_succ h (by omega)]
theorem op_mul {N a q : Nat} (h : a < N) (hq : 1 ≤ q) (e : op N a q = N) : ∀ m, 1 ≤ m → op N a (m * q) = N := fun m hm => by
  induction m with
  | zero => omega
  | succ m ih =>
    by_cases w : m = 0
    · subst w
      rw [Nat.zero_add, Nat.one_mul]
      exact e
    · rw [Nat.succ_mul, Nat.add_comm, op_again h hq e _ (Nat.mul_pos (by omega) (by omega))]
      exact ih (by omega)
/-- p is where the row of a ends first -/
structure Per (N a p : Nat) : Prop where
  pos : 1 ≤ p
  at_ : op N a p = N
  lt : ∀ j, 1 ≤ j → j < p → op N a j < N
def Fine (N : Nat) : Prop := ∀ a, 1 ≤ a → a ≤ N → ∃ p, p ∣ N ∧ Per N a p
theorem Fine.top {N a : Nat} (h : Fine N) (ha : 1 ≤ a) (h2 : a ≤ N) : op N a N = N := by
  by_cases q : a = N
  · rw [q, op_N]
  · obtain ⟨p, ⟨m, e⟩, P⟩ := h a ha h2
    have hm : 1 ≤ m := by
      rcases Nat.eq_zero_or_pos m with z | z
      · subst z
        rw [Nat.mul_zero] at e
        omega
      · exact z
    have := op_mul (by omega) P.pos P.at_ m hm
    rwa [Nat.mul_comm, ← e] at this
/-! ### a level down -/
def pr (N x : Nat) : Nat := (x - 1) % N + 1
theorem pr_pos {N x : Nat} : 1 ≤ pr N x := Nat.le_add_left _ _
theorem pr_le {N x : Nat} (h : 1 ≤ N) : pr N x ≤ N := by
  have := Nat.mod_lt (x - 1) (show 0 < N by omega)
  unfold pr
  omega
theorem pr_id {N x : Nat} (h : 1 ≤ x) (h2 : x ≤ N) : pr N x = x := by
  unfold pr
  rw [Nat.mod_eq_of_lt (by omega)]
  omega
theorem pr_up {N x : Nat} (h : 1 ≤ x) (h2 : x ≤ N) : pr N (N + x) = x := by
  unfold pr
  rw [show N + x - 1 = x - 1 + N by omega, Nat.add_mod_right, Nat.mod_eq_of_lt (by omega)]
  omega
theorem pr_next {N b : Nat} (hN : 1 ≤ N) (hb : 1 ≤ b) : pr N (b + 1) = if pr N b = N then 1 else pr N b + 1 := by
  unfold pr
  have h1 := Nat.mod_lt (b - 1) (show 0 < N by omega)
  rw [show b + 1 - 1 = (b - 1) + 1 by omega, Nat.add_mod]
  by_cases q : (b - 1) % N + 1 = N
  · rw [if_pos q]
    by_cases o : N = 1
    · subst o
      omega
    · rw [Nat.mod_eq_of_lt (show 1 < N by omega), q, Nat.mod_self]
  · rw [if_neg q, Nat.mod_eq_of_lt (a := 1) (by omega), Nat.mod_eq_of_lt (by omega)]
section
variable {N : Nat} (hN : 1 ≤ N) (F : Fine N)
include hN F
/-- the next place below -/
theorem op_prn {a b : Nat} (ha : 1 ≤ a) (h : a < N) (hb : 1 ≤ b) : op N a (pr N (b + 1)) = op N (op N a (pr N b)) (a + 1) := by
  rw [pr_next hN hb]
  by_cases q : pr N b = N
  · rw [if_pos q, q, F.top ha (by omega), op_N, op_one h]
  · rw [if_neg q, op_succ h pr_pos]
theorem up_lt : ∀ (d a : Nat), N - a ≤ d → 1 ≤ a → a < N → ∀ b, 1 ≤ b → op (2 * N) (N + a) b = N + op N a (pr N b)
  | 0, a, h, _, h2 => by omega
  | d + 1, a, h, ha, h2 => fun b hb => by
    induction b with
    | zero => omega
    | succ b ih =>
      by_cases q : b = 0
      · subst q
        rw [op_one (by omega), pr_id (by omega) (by omega), op_one h2]
        omega
      · have hb : 1 ≤ b := by omega
        rw [op_succ (by omega) hb, ih hb, op_prn hN F ha h2 hb]
        have y1 := op_gt h2 (pr_pos (N := N) (x := b))
        have y2 := op_le' h2 (pr_pos (N := N) (x := b))
        by_cases w : op N a (pr N b) = N
        · rw [w, show N + N = 2 * N by omega, op_N, op_N]
          omega
        · rw [up_lt d (op N a (pr N b)) (by omega) (by omega) (by omega) (N + a + 1) (by omega), show N + a + 1 = N + (a + 1) by omega, pr_up (by omega) (by omega)]
theorem up_N {b : Nat} (hb : 1 ≤ b) : op (2 * N) N b = N + pr N b := by
  induction b with
  | zero => omega
  | succ b ih =>
    by_cases q : b = 0
    · subst q
      rw [op_one (by omega), pr_id (by omega) (by omega)]
    · have hb : 1 ≤ b := by omega
      rw [op_succ (by omega) hb, ih hb, pr_next hN hb]
      have y2 := pr_le (x := b) hN
      by_cases w : pr N b = N
      · rw [if_pos w, w, show N + N = 2 * N by omega, op_N]
      · rw [if_neg w, up_lt hN F N (pr N b) (by omega) pr_pos (by omega) (N + 1) (by omega), pr_up (by omega) (by omega), op_one (by omega)]
/-- a level down, products go to products -/
theorem op_pr (d : Nat) : ∀ (a : Nat), 2 * N - a ≤ d → 1 ≤ a → a ≤ 2 * N → ∀ b, 1 ≤ b → pr N (op (2 * N) a b) = op N (pr N a) (pr N b) := by
    induction d with
    | zero =>
      intro a h ha h2 b hb
      rw [show a = 2 * N by omega, op_N, show 2 * N = N + N by omega, pr_up hN (Nat.le_refl _), op_N]
    | succ d ihd =>
    intro a h ha h2 b hb
    by_cases c1 : a = 2 * N
    · rw [c1, op_N, show 2 * N = N + N by omega, pr_up hN (Nat.le_refl _), op_N]
    by_cases c2 : N < a
    · obtain ⟨a', rfl⟩ : ∃ a', a = N + a' := ⟨a - N, by omega⟩
      rw [up_lt hN F N a' (by omega) (by omega) (by omega) b hb, pr_up (x := a') (by omega) (by omega)]
      exact pr_up (op_pos (by omega) (by omega) pr_pos) (op_le' (by omega) pr_pos)
    by_cases c3 : a = N
    · rw [c3, up_N hN F hb, pr_up pr_pos (pr_le hN), pr_id hN (Nat.le_refl _), op_N]
    have c4 : a < N := by omega
    rw [pr_id ha (by omega)]
    induction b with
    | zero => omega
    | succ b ih =>
      by_cases q : b = 0
      · subst q
        rw [op_one (by omega), pr_id (by omega) (by omega), pr_id (by omega) (by omega), op_one c4]
      · have hb : 1 ≤ b := by omega
        have z1 := op_gt (N := 2 * N) (a := a) (by omega) hb
        have z2 := op_le' (N := 2 * N) (a := a) (by omega) hb
        rw [op_succ (by omega) hb, ihd (op (2 * N) a b) (by omega) (by omega) z2 (a + 1) (by omega), ih hb, op_prn hN F ha c4 hb, pr_id (x := a + 1) (by omega) (by omega)]
theorem fine_up : Fine (2 * N) := fun a ha h2 => by
  by_cases c1 : a = 2 * N
  · refine ⟨2 * N, Nat.dvd_refl _, by omega, by rw [c1, op_N], fun j h1 h2 => by rw [c1, op_N]; exact h2⟩
  by_cases c2 : N < a
  · obtain ⟨a', rfl⟩ : ∃ a', a = N + a' := ⟨a - N, by omega⟩
    obtain ⟨p, dv, P⟩ := F a' (by omega) (by omega)
    have pl : p ≤ N := Nat.le_of_dvd (by omega) dv
    have pp := P.pos
    refine ⟨p, Nat.dvd_trans dv ⟨2, by omega⟩, P.pos, ?_, fun j h1 h2 => ?_⟩
    · rw [up_lt hN F N a' (by omega) (by omega) (by omega) p P.pos, pr_id P.pos pl, P.at_]
      omega
    · rw [up_lt hN F N a' (by omega) (by omega) (by omega) j h1, pr_id h1 (by omega)]
      have := P.lt j h1 h2
      omega
  by_cases c3 : a = N
  · refine ⟨N, ⟨2, by omega⟩, hN, ?_, fun j h1 h2 => ?_⟩
    · rw [c3, up_N hN F hN, pr_id hN (Nat.le_refl _)]
      omega
    · rw [c3, up_N hN F h1, pr_id h1 (by omega)]
      omega
  have c4 : a < N := by omega
  obtain ⟨p, dv, P⟩ := F a ha (by omega)
  have pl : p ≤ N := Nat.le_of_dvd (by omega) dv
  have pp := P.pos
  have down : ∀ j, 1 ≤ j → j ≤ N → pr N (op (2 * N) a j) = op N a j := fun j h1 h2 => by
    rw [op_pr hN F (2 * N) a (by omega) ha (by omega) j h1, pr_id ha (by omega), pr_id h1 h2]
  have small : ∀ j, 1 ≤ j → j < p → op (2 * N) a j < 2 * N := fun j h1 h2 => by
    have l := op_le' (N := 2 * N) (a := a) (by omega) h1
    have e := down j h1 (by omega)
    have := P.lt j h1 h2
    rcases Nat.lt_or_ge (op (2 * N) a j) (2 * N) with z | z
    · exact z
    · rw [show op (2 * N) a j = N + N by omega, pr_up hN (Nat.le_refl _)] at e
      omega
  have e := down p P.pos pl
  rw [P.at_] at e
  have z1 := op_gt (N := 2 * N) (a := a) (by omega) P.pos
  have z2 := op_le' (N := 2 * N) (a := a) (by omega) P.pos
  by_cases w : N < op (2 * N) a p
  · obtain ⟨x, hx⟩ : ∃ x, op (2 * N) a p = N + x := ⟨op (2 * N) a p - N, by omega⟩
    rw [hx, pr_up (by omega) (by omega)] at e
    exact ⟨p, Nat.dvd_trans dv ⟨2, by omega⟩, P.pos, by rw [hx, e]; omega, small⟩
  · have e0 : op (2 * N) a p = N := by
      rw [pr_id (by omega) (by omega)] at e
      exact e
    have far : ∀ j, 1 ≤ j → j ≤ p → op (2 * N) a (p + j) = N + op N a j := fun j h1 h2 => by
      induction j with
      | zero => omega
      | succ j ih =>
        by_cases q : j = 0
        · subst q
          rw [op_succ (by omega) P.pos, e0, up_N hN F (by omega), pr_id (by omega) (by omega), op_one c4]
        · rw [show p + (j + 1) = p + j + 1 by omega, op_succ (by omega) (by omega), ih (by omega) (by omega)]
          have y1 := op_gt c4 (b := j) (by omega)
          have y2 := P.lt j (by omega) (by omega)
          rw [up_lt hN F N (op N a j) (by omega) (by omega) y2 (a + 1) (by omega), pr_id (by omega) (by omega), op_succ c4 (by omega)]
    refine ⟨2 * p, Nat.mul_dvd_mul_left 2 dv, by omega, ?_, fun j h1 h2 => ?_⟩
    · rw [show 2 * p = p + p by omega, far p P.pos (Nat.le_refl _), P.at_]
      omega
    · by_cases c5 : j < p
      · exact small j h1 c5
      · by_cases c6 : j = p
        · rw [c6, e0]
          omega
        · obtain ⟨i, rfl⟩ : ∃ i, j = p + i := ⟨j - p, by omega⟩
          rw [far i (by omega) (by omega)]
          have := P.lt i (by omega) (by omega)
          omega
end
theorem fine_pow : ∀ n, Fine (2 ^ n)
  | 0 => fun a h1 h2 => by
    have h2 : a ≤ 1 := h2
    have e : a = 1 := by omega
    subst e
    exact ⟨1, Nat.dvd_refl _, Nat.le_refl _, op_N, fun j h1 h2 => by omega⟩
  | n + 1 => by
    rw [Nat.pow_succ, Nat.mul_comm]
    exact fine_up (Nat.one_le_two_pow) (fine_pow n)
/-! ### the left spread law -/
section
variable {N : Nat} (hN : 1 ≤ N) (F : Fine N)
include F
theorem op_by1 {a b : Nat} (ha : 1 ≤ a) (ha2 : a ≤ N) (hb : 1 ≤ b) (hb2 : b ≤ N) : op N a (op N b 1) = op N (op N a b) (op N a 1) := by
  by_cases q : b = N
  · rw [q, op_N, F.top ha ha2, op_N]
  · rw [op_one (a := b) (by omega)]
    by_cases w : a = N
    · rw [w, op_N, op_N, op_N, op_one (by omega)]
    · rw [op_succ (by omega) hb, op_one (by omega)]
theorem ld : ∀ (da db a b : Nat), N - a ≤ da → N - b ≤ db → 1 ≤ a → a ≤ N → 1 ≤ b → b ≤ N → ∀ c, 1 ≤ c → c ≤ N → op N a (op N b c) = op N (op N a b) (op N a c)
  | da, db, a, b, hda, hdb, ha, ha2, hb, hb2 => fun c hc hc2 => by
    by_cases q : a = N
    · rw [q, op_N, op_N, op_N]
    by_cases w : b = N
    · rw [w, op_N, F.top ha ha2, op_N]
    match da, db, hda, hdb with
    | 0, _, h, _ => omega
    | _ + 1, 0, _, h => omega
    | da + 1, db + 1, hda, hdb =>
      induction c with
      | zero => omega
      | succ c ih =>
        by_cases u : c = 0
        · subst u
          exact op_by1 F ha ha2 hb hb2
        · have hc : 1 ≤ c := by omega
          have g1 := op_gt (N := N) (a := b) (by omega) hc
          have g2 := op_le' (N := N) (a := b) (by omega) hc
          have g3 := op_gt (N := N) (a := a) (by omega) hb
          have g4 := op_le' (N := N) (a := a) (by omega) hb
          have g5 := op_pos ha ha2 hc
          have g6 := op_le' (N := N) (a := a) (by omega) hc
          rw [op_succ (a := b) (by omega) hc, ld (da + 1) db a (op N b c) (by omega) (by omega) ha ha2 (by omega) g2 (b + 1) (by omega) (by omega), ih hc (by omega),
            op_succ (a := a) (by omega) hc, op_succ (a := a) (by omega) hb]
          by_cases v : op N a b = N
          · rw [v, op_N, op_N, op_N]
          · exact (ld da N (op N a b) (op N a c) (by omega) (by omega) (by omega) g4 g5 g6 (a + 1) (by omega) (by omega)).symm
  termination_by da db => (da, db)
theorem spread {a b c : Nat} (ha : 1 ≤ a) (ha2 : a ≤ N) (hb : 1 ≤ b) (hb2 : b ≤ N) (hc : 1 ≤ c) (hc2 : c ≤ N) : op N a (op N b c) = op N (op N a b) (op N a c) := ld F N N a b (by omega) (by omega) ha ha2 hb hb2 c hc hc2
end
/-! ### one, then the other -/
def nx (N x : Nat) : Nat := x % N + 1
def pv (N y : Nat) : Nat := (y + N - 2) % N + 1
def co (N a b : Nat) : Nat := pv N (op N a (nx N b))
section
variable {N : Nat} (hN : 1 ≤ N)
include hN
theorem nx_pos {x : Nat} : 1 ≤ nx N x := Nat.le_add_left _ _
theorem nx_le {x : Nat} : nx N x ≤ N := by
  have := Nat.mod_lt x (show 0 < N by omega)
  unfold nx
  omega
theorem nx_lt {x : Nat} (h : x < N) : nx N x = x + 1 := by
  unfold nx
  rw [Nat.mod_eq_of_lt h]
theorem nx_N : nx N N = 1 := by
  unfold nx
  rw [Nat.mod_self]
theorem nx_op {x : Nat} (h : 1 ≤ x) (h2 : x ≤ N) : nx N x = op N x 1 := by
  by_cases q : x = N
  · rw [q, nx_N hN, op_N]
  · rw [nx_lt hN (by omega), op_one (by omega)]
theorem pv_pos {x : Nat} : 1 ≤ pv N x := Nat.le_add_left _ _
theorem pv_le {x : Nat} : pv N x ≤ N := by
  have := Nat.mod_lt (x + N - 2) (show 0 < N by omega)
  unfold pv
  omega
theorem pv_1 : pv N 1 = N := by
  unfold pv
  rw [Nat.mod_eq_of_lt (by omega)]
  omega
theorem pv_s {x : Nat} (h : 1 ≤ x) (h2 : x < N) : pv N (x + 1) = x := by
  unfold pv
  rw [show x + 1 + N - 2 = x - 1 + N by omega, Nat.add_mod_right, Nat.mod_eq_of_lt (by omega)]
  omega
theorem nx_pv {y : Nat} (h : 1 ≤ y) (h2 : y ≤ N) : nx N (pv N y) = y := by
  by_cases q : y = 1
  · rw [q, pv_1 hN, nx_N hN]
  · obtain ⟨x, rfl⟩ : ∃ x, y = x + 1 := ⟨y - 1, by omega⟩
    rw [pv_s hN (by omega) (by omega), nx_lt hN (by omega)]
theorem pv_nx {y : Nat} (h : 1 ≤ y) (h2 : y ≤ N) : pv N (nx N y) = y := by
  by_cases q : y = N
  · rw [q, nx_N hN, pv_1 hN]
  · rw [nx_lt hN (by omega), pv_s hN h (by omega)]
theorem nx_inj {x y : Nat} (h : 1 ≤ x) (h2 : x ≤ N) (k : 1 ≤ y) (k2 : y ≤ N) (e : nx N x = nx N y) : x = y := by
  rw [← pv_nx hN h h2, e, pv_nx hN k k2]
theorem co_pos {a b : Nat} : 1 ≤ co N a b := pv_pos hN
theorem co_le {a b : Nat} : co N a b ≤ N := pv_le hN
variable (F : Fine N)
theorem nx_co {a b : Nat} (ha : 1 ≤ a) (ha2 : a ≤ N) : nx N (co N a b) = op N a (nx N b) :=
  nx_pv hN (op_pos ha ha2 (nx_pos hN)) (op_le ha2 (nx_pos hN) (nx_le hN))
theorem co_N {b : Nat} (hb : 1 ≤ b) (hb2 : b ≤ N) : co N N b = b := by
  unfold co
  rw [op_N, pv_nx hN hb hb2]
theorem co_r {b : Nat} (hb : 1 ≤ b) (hb2 : b ≤ N) : co N b N = b := by
  unfold co
  rw [nx_N hN, ← nx_op hN hb hb2, pv_nx hN hb hb2]
include F
theorem co_op {a b : Nat} (ha : 1 ≤ a) (ha2 : a ≤ N) (hb : 1 ≤ b) (hb2 : b ≤ N) : ∀ c, 1 ≤ c → c ≤ N → op N (co N a b) c = op N a (op N b c) := fun c hc hc2 => by
  have one : op N (co N a b) 1 = op N a (op N b 1) := by
    rw [← nx_op hN (co_pos hN) (co_le hN), nx_co hN ha ha2, nx_op hN hb hb2]
  induction c with
  | zero => omega
  | succ c ih =>
    by_cases u : c = 0
    · subst u
      exact one
    · have hc : 1 ≤ c := by omega
      have b1 := op_pos hb hb2 hc
      have b2 := op_le hb2 hc (by omega : c ≤ N)
      have b3 := op_pos hb hb2 (Nat.le_refl 1)
      have b4 := op_le hb2 (Nat.le_refl 1) hN
      rw [← op_one (N := N) (a := c) (by omega), spread F (co_pos hN) (co_le hN) hc (by omega) (Nat.le_refl 1) hN, ih hc (by omega), one, ← spread F ha ha2 b1 b2 b3 b4, ← spread F hb hb2 hc (by omega) (Nat.le_refl 1) hN]
theorem co_assoc {a b c : Nat} (ha : 1 ≤ a) (ha2 : a ≤ N) (hb : 1 ≤ b) (hb2 : b ≤ N) (hc : 1 ≤ c) (hc2 : c ≤ N) : co N (co N a b) c = co N a (co N b c) := by
  apply nx_inj hN (co_pos hN) (co_le hN) (co_pos hN) (co_le hN)
  rw [nx_co hN (co_pos hN) (co_le hN), nx_co hN ha ha2, nx_co hN hb hb2, co_op hN F ha ha2 hb hb2 _ (nx_pos hN) (nx_le hN)]
theorem co_comm {a b : Nat} (ha : 1 ≤ a) (ha2 : a ≤ N) (hb : 1 ≤ b) (hb2 : b ≤ N) : co N a b = co N (op N a b) a := by
  apply nx_inj hN (co_pos hN) (co_le hN) (co_pos hN) (co_le hN)
  rw [nx_co hN ha ha2, nx_co hN (op_pos ha ha2 hb) (op_le ha2 hb hb2), nx_op hN hb hb2, nx_op hN ha ha2, op_by1 F ha ha2 hb hb2]
theorem op_co : ∀ (d a b c : Nat), N - b ≤ d → 1 ≤ a → a ≤ N → 1 ≤ b → b ≤ N → 1 ≤ c → c ≤ N → op N a (co N b c) = co N (op N a b) (op N a c) := by
  intro d
  induction d with
  | zero =>
    intro a b c h ha ha2 hb hb2 hc hc2
    have e : b = N := by omega
    rw [e, co_N hN hc hc2, F.top ha ha2, co_N hN (op_pos ha ha2 hc) (op_le ha2 hc hc2)]
  | succ d ih =>
    intro a b c h ha ha2 hb hb2 hc hc2
    by_cases q : b = N
    · rw [q, co_N hN hc hc2, F.top ha ha2, co_N hN (op_pos ha ha2 hc) (op_le ha2 hc hc2)]
    · have g := op_gt (N := N) (a := b) (by omega) hc
      have g2 := op_le hb2 hc hc2
      rw [co_comm hN F hb hb2 hc hc2, ih a (op N b c) b (by omega) ha ha2 (by omega) g2 hb hb2, spread F ha ha2 hb hb2 hc hc2, ← co_comm hN F (op_pos ha ha2 hb) (op_le ha2 hb hb2) (op_pos ha ha2 hc) (op_le ha2 hc hc2)]
end
/-! ### several levels down -/
theorem pr_pr {m n x : Nat} (h : m ≤ n) (hx : 1 ≤ x) : pr (2 ^ m) (pr (2 ^ n) x) = pr (2 ^ m) x := by
  unfold pr
  rw [Nat.add_sub_cancel, Nat.mod_mod_of_dvd _ (Nat.pow_dvd_pow 2 h)]
theorem op_low {m n : Nat} (h : m ≤ n) {a b : Nat} (ha : 1 ≤ a) (ha2 : a ≤ 2 ^ n) (hb : 1 ≤ b) : pr (2 ^ m) (op (2 ^ n) a b) = op (2 ^ m) (pr (2 ^ m) a) (pr (2 ^ m) b) := by
  induction n generalizing a b with
  | zero =>
    have e : m = 0 := by omega
    subst e
    have e : a = 1 := by
      have : a ≤ 1 := ha2
      omega
    subst e
    show pr 1 (op 1 1 b) = op 1 (pr 1 1) (pr 1 b)
    rw [op_N, show pr 1 1 = 1 from rfl, op_N]
  | succ n ih =>
    by_cases q : m = n + 1
    · subst q
      rw [pr_id ha ha2]
      by_cases w : a = 2 ^ (n + 1)
      · rw [w, op_N, op_N]
      · rw [pr_id (op_pos ha ha2 hb) (op_le' (by omega) hb)]
        have hN : 1 ≤ 2 ^ (n + 1) := Nat.one_le_two_pow
        clear ih
        induction b with
        | zero => omega
        | succ b ihb =>
          by_cases u : b = 0
          · subst u
            rw [pr_id (by omega) hN]
          · rw [op_prn hN (fine_pow (n + 1)) ha (by omega) (by omega), ← ihb (by omega), op_succ (by omega) (by omega)]
    · have hm : m ≤ n := by omega
      have hN : 1 ≤ 2 ^ n := Nat.one_le_two_pow
      have e2 : 2 ^ (n + 1) = 2 * 2 ^ n := by rw [Nat.pow_succ, Nat.mul_comm]
      rw [← pr_pr hm (op_pos ha ha2 hb), e2]
      rw [e2] at ha2
      rw [op_pr hN (fine_pow n) (2 * 2 ^ n) a (by omega) ha ha2 b hb, ih hm pr_pos (pr_le hN) pr_pos, pr_pr hm ha, pr_pr hm hb]
theorem nx_low {m n x : Nat} (h : m ≤ n) (hx : 1 ≤ x) (hx2 : x ≤ 2 ^ n) : pr (2 ^ m) (nx (2 ^ n) x) = nx (2 ^ m) (pr (2 ^ m) x) := by
  rw [nx_op Nat.one_le_two_pow hx hx2, op_low h hx hx2 (Nat.le_refl 1), pr_id (Nat.le_refl 1) Nat.one_le_two_pow, nx_op Nat.one_le_two_pow pr_pos (pr_le Nat.one_le_two_pow)]
theorem co_low {m n : Nat} (h : m ≤ n) {a b : Nat} (ha : 1 ≤ a) (ha2 : a ≤ 2 ^ n) (hb : 1 ≤ b) (hb2 : b ≤ 2 ^ n) : pr (2 ^ m) (co (2 ^ n) a b) = co (2 ^ m) (pr (2 ^ m) a) (pr (2 ^ m) b) := by
  have n1 : 1 ≤ 2 ^ n := Nat.one_le_two_pow
  have m1 : 1 ≤ 2 ^ m := Nat.one_le_two_pow
  apply nx_inj m1 pr_pos (pr_le m1) (co_pos m1) (co_le m1)
  rw [← nx_low h (co_pos n1) (co_le n1), nx_co n1 ha ha2, op_low h ha ha2 (nx_pos n1), nx_co m1 pr_pos (pr_le m1), nx_low h hb hb2]
end Lv
namespace Lv
open PySem Pv
/-! ## the rows as data -/
def per (N a : Nat) : Nat := ((List.range N).find? fun i => decide (op N a (i + 1) = N)).getD 0 + 1
theorem find_first {p : Nat → Bool} : ∀ (n m : Nat), m < n → p m = true → (∀ j, j < m → p j = false) → (List.range n).find? p = some m := by
  intro n m h hp hl
  have e : List.range n = List.range m ++ (List.range (n - m)).map (m + ·) := by
    rw [← List.range_add, show m + (n - m) = n by omega]
  rw [e, List.find?_append]
  have n1 : (List.range m).find? p = none := by
    rw [List.find?_eq_none]
    intro x hx
    rw [hl x (List.mem_range.mp hx)]
    decide
  rw [n1]
  obtain ⟨d, hd⟩ : ∃ d, n - m = d + 1 := ⟨n - m - 1, by omega⟩
  rw [hd, List.range_succ_eq_map, List.map_cons, List.find?_cons, Nat.add_zero, hp]
  rfl
theorem per_of {N a p : Nat} (P : Per N a p) (h : p ≤ N) : per N a = p := by
  unfold per
  have pp := P.pos
  rw [find_first N (p - 1) (by omega) (by
    rw [show p - 1 + 1 = p by omega]
    exact decide_eq_true P.at_) (fun j hj => decide_eq_false (by
    have := P.lt (j + 1) (by omega) (by omega)
    omega))]
  show p - 1 + 1 = p
  omega
section
variable {N a : Nat} (F : Fine N) (ha : 1 ≤ a) (ha2 : a ≤ N)
include F ha ha2
theorem perP : Per N a (per N a) ∧ per N a ∣ N ∧ per N a ≤ N := by
  obtain ⟨p, dv, P⟩ := F a ha ha2
  have pl : p ≤ N := Nat.le_of_dvd (by omega) dv
  rw [per_of P pl]
  exact ⟨P, dv, pl⟩
theorem op_back (h : a < N) : ∀ (m b : Nat), 1 ≤ b → op N a (m * per N a + b) = op N a b := by
  obtain ⟨P, _, _⟩ := perP F ha ha2
  intro m
  induction m with
  | zero =>
    intro b hb
    rw [Nat.zero_mul, Nat.zero_add]
  | succ m ih =>
    intro b hb
    rw [Nat.succ_mul, Nat.add_comm (m * per N a), Nat.add_assoc, op_again h P.pos P.at_ _ (by omega), ih b hb]
theorem op_mod {b : Nat} (hb : b < N) : op N a (b % per N a + 1) = op N a (b + 1) := by
  obtain ⟨P, dv, pl⟩ := perP F ha ha2
  by_cases q : a = N
  · have e : per N a = N := by
      refine per_of ⟨by omega, by rw [q, op_N], fun j h1 h2 => by rw [q, op_N]; exact h2⟩ (Nat.le_refl _)
    rw [e, Nat.mod_eq_of_lt hb]
  · have z := op_back F ha ha2 (by omega) (b / per N a) (b % per N a + 1) (by omega)
    rw [← z, ← Nat.add_assoc, Nat.mul_comm, Nat.div_add_mod]
end
def rowD (N a : Nat) : List D := (List.range (per N a)).map fun i => .int (op N a (i + 1) : Nat)
theorem rowD_len {N a : Nat} : (rowD N a).length = per N a := by simp [rowD]
theorem rowD_at {N a i : Nat} (h : i < per N a) : (rowD N a)[i]? = some (.int (op N a (i + 1) : Nat)) := by
  unfold rowD
  rw [List.getElem?_map, List.getElem?_range h]
  rfl
/-- the rows, when all from N - i on stand -/
def stg (N i : Nat) : List D := (List.range (N + 1)).map fun a => .list (if N - i ≤ a then rowD N a else [])
theorem stg_len {N i : Nat} : (stg N i).length = N + 1 := by simp [stg]
theorem stg_at {N i a : Nat} (h : a ≤ N) (h2 : N - i ≤ a) : (stg N i)[a]? = some (.list (rowD N a)) := by
  unfold stg
  rw [List.getElem?_map, List.getElem?_range (by omega)]
  show some (PyData.list (if N - i ≤ a then rowD N a else [])) = _
  rw [if_pos h2]
theorem stg_set {N i : Nat} (h : i + 1 ≤ N) : (stg N i).set (N - (i + 1)) (.list (rowD N (N - (i + 1)))) = stg N (i + 1) := by
  apply List.ext_getElem?
  intro m
  by_cases hm : m ≤ N
  · by_cases q : m = N - (i + 1)
    · rw [q, List.getElem?_set_self (by rw [stg_len]; omega), stg_at (by omega) (Nat.le_refl _)]
    · rw [List.getElem?_set_ne (Ne.symm q)]
      unfold stg
      rw [List.getElem?_map, List.getElem?_map, List.getElem?_range (by omega)]
      show some (PyData.list (if N - i ≤ m then rowD N m else [])) = some (PyData.list (if N - (i + 1) ≤ m then rowD N m else []))
      by_cases w : N - i ≤ m
      · rw [if_pos w, if_pos (by omega)]
      · rw [if_neg w, if_neg (by omega)]
  · rw [List.getElem?_eq_none (by rw [List.length_set, stg_len]; omega), List.getElem?_eq_none (by rw [stg_len]; omega)]
def rowsD (N : Nat) : List D := stg N (N - 1)
theorem rowsD_at {N a : Nat} (ha : 1 ≤ a) (h : a ≤ N) : (rowsD N)[a]? = some (.list (rowD N a)) := stg_at h (by omega)
theorem rowsD_len {N : Nat} : (rowsD N).length = N + 1 := stg_len
theorem pow_le12 {n : Nat} (h : n ≤ 12) : 2 ^ n ≤ 4096 := Nat.pow_le_pow_right (by omega) h
end Lv
namespace Pv
open PySem L2
theorem getS_join : ∀ {ρ : Env} {i : Nat}, i < ρ.length → ρ[i]? = some (getS ρ i)
  | [], _, h => absurd h (Nat.not_lt_zero _)
  | q :: ρ, 0, _ => rfl
  | q :: ρ, i + 1, h => by
    rw [List.getElem?_cons_succ]
    exact getS_join (ρ := ρ) (Nat.lt_of_succ_lt_succ h)
theorem wipe_ln (ρ : Env) : ∀ vs, (wipeE ρ vs).length = ρ.length
  | [] => rfl
  | v :: vs => by
    show (setS (wipeE ρ vs) v none).length = _
    rw [setS_len, wipe_ln ρ vs]
theorem wipe_ne (ρ : Env) : ∀ (vs : List Nat) (i : Nat), i ∉ vs → (wipeE ρ vs)[i]? = ρ[i]?
  | [], _, _ => rfl
  | v :: vs, i, h => by
    show (setS (wipeE ρ vs) v none)[i]? = _
    rw [List.mem_cons, not_or] at h
    rw [setS_eq, List.getElem?_set_ne (Ne.symm h.1), wipe_ne ρ vs i h.2]
theorem back_ln (ρ ρ' : Env) : ∀ vs, (back ρ ρ' vs).length = ρ'.length
  | [] => rfl
  | v :: vs => by
    show (setS (back ρ ρ' vs) v (getS ρ v)).length = _
    rw [setS_len, back_ln ρ ρ' vs]
theorem back_ne (ρ ρ' : Env) : ∀ (vs : List Nat) (i : Nat), i ∉ vs → (back ρ ρ' vs)[i]? = ρ'[i]?
  | [], _, _ => rfl
  | v :: vs, i, h => by
    show (setS (back ρ ρ' vs) v (getS ρ v))[i]? = _
    rw [List.mem_cons, not_or] at h
    rw [setS_eq, List.getElem?_set_ne (Ne.symm h.1), back_ne ρ ρ' vs i h.2]
theorem back_eq (ρ ρ' : Env) (hl : ρ'.length = ρ.length) : ∀ (vs : List Nat) (i : Nat), i ∈ vs → i < ρ.length → (back ρ ρ' vs)[i]? = ρ[i]?
  | v :: vs, i, h, lt => by
    show (setS (back ρ ρ' vs) v (getS ρ v))[i]? = _
    by_cases e : v = i
    · subst e
      rw [setS_eq, List.getElem?_set_self (by rw [back_ln]; omega), getS_join lt]
    · rw [setS_eq, List.getElem?_set_ne e]
      rcases List.mem_cons.mp h with h | h
      · exact absurd h.symm e
      · exact back_eq ρ ρ' hl vs i h lt
/-- a comprehension's names stand as ahead of it -/
theorem back_wipe (ρ : Env) (vs : List Nat) : back ρ (wipeE ρ vs) vs = ρ := by
  apply List.ext_getElem?
  intro i
  by_cases lt : i < ρ.length
  · by_cases h : i ∈ vs
    · exact back_eq ρ _ (wipe_ln ρ vs) vs i h lt
    · rw [back_ne _ _ _ _ h, wipe_ne _ _ _ h]
  · have h1 : (back ρ (wipeE ρ vs) vs).length = ρ.length := by rw [back_ln, wipe_ln]
    have h2 : ρ.length ≤ i := by omega
    rw [List.getElem?_eq_none (l := back ρ (wipeE ρ vs) vs) (by rw [h1]; exact h2), List.getElem?_eq_none (l := ρ) h2]
section
variable {Φ : Phi} {α : Type} {elt it ifs : E} {tg : Tg} {vs : List Nat} {ρ ρ1 : Env}
theorem comp_fm (L : List α) (g : α → D) (p : α → Bool) (F : α → D) (hI : evI Φ it ρ = some (L.map g, ρ1)) (hl : L.length ≤ 16777216)
    (ht : ∀ x ∈ L, ∃ ρ', turnE Φ elt tg ifs (g x) (wipeE ρ1 vs) = some (if p x = true then some (F x) else none, ρ') ∧ wipeE ρ' vs = wipeE ρ1 vs) :
    evE Φ (.comp elt tg it ifs vs) ρ = some (.l ((L.filter p).map F), ρ1) := by
  have h : compL (turnE Φ elt tg ifs) vs (L.map g) (wipeE ρ1 vs) = some ((L.filter p).map F, wipeE ρ1 vs) := by
    have go : ∀ L : List α, (∀ x ∈ L, ∃ ρ', turnE Φ elt tg ifs (g x) (wipeE ρ1 vs) = some (if p x = true then some (F x) else none, ρ') ∧ wipeE ρ' vs = wipeE ρ1 vs) → compL (turnE Φ elt tg ifs) vs (L.map g) (wipeE ρ1 vs) = some ((L.filter p).map F, wipeE ρ1 vs) := by
      intro L
      induction L with
      | nil => exact fun _ => rfl
      | cons x L ih =>
        intro ht
        obtain ⟨ρ', e1, e2⟩ := ht x (List.mem_cons_self ..)
        show (turnE Φ elt tg ifs (g x) (wipeE ρ1 vs)).bind _ = _
        rw [e1]
        show (compL (turnE Φ elt tg ifs) vs (L.map g) (wipeE ρ' vs)).bind _ = _
        rw [e2, ih fun y hy => ht y (List.mem_cons_of_mem _ hy), List.filter_cons]
        cases p x <;> rfl
    exact go L ht
  have z := comp_n (tg := tg) (elt := elt) (ifs := ifs) hI (by rw [List.length_map]; exact hl) h
  rw [z, back_wipe]
theorem comp_m (L : List α) (g F : α → D) (hI : evI Φ it ρ = some (L.map g, ρ1)) (hl : L.length ≤ 16777216)
    (ht : ∀ x ∈ L, ∃ ρ', turnE Φ elt tg ifs (g x) (wipeE ρ1 vs) = some (some (F x), ρ') ∧ wipeE ρ' vs = wipeE ρ1 vs) :
    evE Φ (.comp elt tg it ifs vs) ρ = some (.l (L.map F), ρ1) := by
  have z := comp_fm (elt := elt) (tg := tg) (ifs := ifs) (vs := vs) L g (fun _ => true) F hI hl (fun x hx => by
    obtain ⟨ρ', h1, h2⟩ := ht x hx
    exact ⟨ρ', by rw [h1]; rfl, h2⟩)
  rw [z, List.filter_eq_self.mpr fun _ _ => rfl]
end
/-- an expression's value, given up -/
def evD (Φ : Phi) (e : E) (ρ : Env) : Option (D × Env) := (evE Φ e ρ).bind fun q => (frzO q.1).bind fun d => some (d, q.2)
section
variable {Φ : Phi} {α : Type} {elt it ifs : E} {tg : Tg} {vs : List Nat} {ρ ρ1 : Env}
theorem turn_of {d b : D} {ρw ρa : Env} {p : Bool} (hb : bindT tg d ρw = some ρa) (hc : evT Φ ifs ρa = some (p, ρa)) (he : p = true → evD Φ elt ρa = some (b, ρa)) : turnE Φ elt tg ifs d ρw = some (if p = true then some b else none, ρa) := by
  have e : turnE Φ elt tg ifs d ρw = (bindT tg d ρw).bind fun ρa => (evT Φ ifs ρa).bind fun q => match q.1 with
      | true => (evE Φ elt q.2).bind fun u => (frzO u.1).bind fun x => some (some x, u.2)
      | false => some (none, q.2) := rfl
  rw [e, hb]
  show ((evT Φ ifs ρa).bind _) = _
  rw [hc]
  cases p with
  | false => rfl
  | true =>
    have z := he rfl
    unfold evD at z
    obtain ⟨⟨r, ρc⟩, z1, z⟩ := bnd z
    obtain ⟨x, z2, z⟩ := bnd z
    cases z
    show (evE Φ elt _).bind _ = _
    rw [z1]
    show ((frzO r).bind _) = _
    rw [z2]
    rfl
theorem wipe_set1 {v : Nat} {q : Option R} : wipeE (setS (wipeE ρ [v]) v q) [v] = wipeE ρ [v] := by
  show setS (setS (setS ρ v none) v q) v none = setS ρ v none
  simp [setS_eq]
/-- one name, a test -/
theorem comp_nm {v : Nat} (L : List α) (g : α → D) (p : α → Bool) (F : α → D) (hI : evI Φ it ρ = some (L.map g, ρ1)) (hl : L.length ≤ 16777216)
    (hc : ∀ x ∈ L, evT Φ ifs (setS (wipeE ρ1 [v]) v (some (.v (g x)))) = some (p x, setS (wipeE ρ1 [v]) v (some (.v (g x)))))
    (he : ∀ x ∈ L, p x = true → evD Φ elt (setS (wipeE ρ1 [v]) v (some (.v (g x)))) = some (F x, setS (wipeE ρ1 [v]) v (some (.v (g x))))) :
    evE Φ (.comp elt (.nm v) it ifs [v]) ρ = some (.l ((L.filter p).map F), ρ1) :=
  comp_fm L g p F hI hl fun x hx => ⟨_, turn_of rfl (hc x hx) (he x hx), wipe_set1⟩
/-- one name -/
theorem comp_na {v : Nat} (L : List α) (g F : α → D) (hI : evI Φ it ρ = some (L.map g, ρ1)) (hl : L.length ≤ 16777216)
    (he : ∀ x ∈ L, evD Φ elt (setS (wipeE ρ1 [v]) v (some (.v (g x)))) = some (F x, setS (wipeE ρ1 [v]) v (some (.v (g x))))) :
    evE Φ (.comp elt (.nm v) it .tyes [v]) ρ = some (.l (L.map F), ρ1) := by
  rw [comp_nm L g (fun _ => true) F hI hl (fun x hx => rfl) fun x hx _ => he x hx, List.filter_eq_self.mpr fun _ _ => rfl]
theorem set_set_ne {i j : Nat} {q r : Option R} (h : i ≠ j) : setS (setS ρ i q) j r = setS (setS ρ j r) i q := by
  rw [setS_eq, setS_eq, setS_eq, setS_eq, List.set_comm _ _ h]
theorem set_set {i : Nat} {q r : Option R} : setS (setS ρ i q) i r = setS ρ i r := by
  rw [setS_eq, setS_eq, setS_eq, List.set_set]
theorem wipe_set2 {v w : Nat} {q r : Option R} (h : v ≠ w) : wipeE (setS (setS (wipeE ρ [v, w]) v q) w r) [v, w] = wipeE ρ [v, w] := by
  show setS (setS (setS (setS (setS (setS ρ w none) v none) v q) w r) w none) v none = setS (setS ρ w none) v none
  rw [set_set (i := v) (r := q), set_set (i := w) (r := none), set_set_ne (i := v) (j := w) h, set_set (i := w), set_set (i := v)]
/-- two names, a test -/
theorem comp_pm {v w : Nat} (hvw : v ≠ w) (L : List α) (g g2 : α → D) (p : α → Bool) (F : α → D) (hI : evI Φ it ρ = some (L.map fun x => .tuple [g x, g2 x], ρ1)) (hl : L.length ≤ 16777216)
    (hc : ∀ x ∈ L, evT Φ ifs (setS (setS (wipeE ρ1 [v, w]) v (some (.v (g x)))) w (some (.v (g2 x)))) = some (p x, setS (setS (wipeE ρ1 [v, w]) v (some (.v (g x)))) w (some (.v (g2 x)))))
    (he : ∀ x ∈ L, p x = true → evD Φ elt (setS (setS (wipeE ρ1 [v, w]) v (some (.v (g x)))) w (some (.v (g2 x)))) = some (F x, setS (setS (wipeE ρ1 [v, w]) v (some (.v (g x)))) w (some (.v (g2 x))))) :
    evE Φ (.comp elt (.tp (.cons (.nm v) (.cons (.nm w) .nil))) it ifs [v, w]) ρ = some (.l ((L.filter p).map F), ρ1) :=
  comp_fm L (fun x => .tuple [g x, g2 x]) p F hI hl fun x hx => ⟨_, turn_of rfl (hc x hx) (he x hx), wipe_set2 hvw⟩
theorem comp_pa {v w : Nat} (hvw : v ≠ w) (L : List α) (g g2 F : α → D) (hI : evI Φ it ρ = some (L.map fun x => .tuple [g x, g2 x], ρ1)) (hl : L.length ≤ 16777216)
    (he : ∀ x ∈ L, evD Φ elt (setS (setS (wipeE ρ1 [v, w]) v (some (.v (g x)))) w (some (.v (g2 x)))) = some (F x, setS (setS (wipeE ρ1 [v, w]) v (some (.v (g x)))) w (some (.v (g2 x))))) :
    evE Φ (.comp elt (.tp (.cons (.nm v) (.cons (.nm w) .nil))) it .tyes [v, w]) ρ = some (.l (L.map F), ρ1) := by
  rw [comp_pm hvw L g g2 (fun _ => true) F hI hl (fun x hx => rfl) fun x hx _ => he x hx, List.filter_eq_self.mpr fun _ _ => rfl]
end
/-! ## statements, one behind another, to an answer -/
/-- it ends with an answer r at which the parameters stand as P asks -/
def Ans (P : R → Env → Prop) (x : Option (Fl × Env)) : Prop := ∃ r ρ', x = some (.ret r, ρ') ∧ P r ρ'
theorem ans_next {P : R → Env → Prop} {Φ : Phi} {s t : S} {ρ ρ1 : Env} (h : ex Φ s ρ = some (.next, ρ1)) (h2 : Ans P (ex Φ t ρ1)) : Ans P (ex Φ (.seq s t) ρ) := by
  rw [seq_next h]
  exact h2
theorem ans_ret {P : R → Env → Prop} {Φ : Phi} {e : E} {t : S} {ρ ρ1 : Env} {r : R} (h : evE Φ e ρ = some (r, ρ1)) (h2 : P r ρ1) : Ans P (ex Φ (.seq (.ret e) t) ρ) := ⟨r, ρ1, ret_n h, h2⟩
theorem ans_if {P : R → Env → Prop} {Φ : Phi} {c : E} {s t u : S} {ρ ρ1 : Env} {b : Bool} (h : evT Φ c ρ = some (b, ρ1)) (h2 : Ans P (ex Φ (.seq (if b then s else t) u) ρ1)) : Ans P (ex Φ (.seq (.if_ c s t) u) ρ) := by
  have e : ex Φ (.seq (.if_ c s t) u) ρ = ex Φ (.seq (if b then s else t) u) ρ1 := by
    show ((evT Φ c ρ).bind fun (k, ρ1) => match k with | true => ex Φ s ρ1 | false => ex Φ t ρ1).bind _ = _
    rw [h]
    cases b <;> rfl
  rw [e]
  exact h2
/-- a function whose body answers so -/
theorem fn_ans {Φ : Phi} {f : Fn} {rs : List R} {ρ0 : Env} {Q : R → List R → Prop} (h1 : rs.length = f.np) (h2 : entryL f 0 rs ++ List.replicate (f.ns - f.np) none = ρ0) (h3 : Ans (fun r ρ1 => ∃ outs, outsL f ρ1 0 rs = some outs ∧ Q r outs) (ex Φ f.body ρ0)) : ∃ r outs, runF Φ f rs = some (r, outs) ∧ Q r outs := by
  obtain ⟨r, ρ1, e, outs, e2, q⟩ := h3
  exact ⟨r, outs, runF_of h1 h2 e rfl e2, q⟩
theorem fn_eq {Φ : Phi} {f : Fn} {rs : List R} {ρ0 : Env} {r : R} {outs : List R} (h1 : rs.length = f.np) (h2 : entryL f 0 rs ++ List.replicate (f.ns - f.np) none = ρ0) (h3 : Ans (fun r' ρ1 => r' = r ∧ outsL f ρ1 0 rs = some outs) (ex Φ f.body ρ0)) : runF Φ f rs = some (r, outs) := by
  obtain ⟨r', ρ1, e, e1, e2⟩ := h3
  subst e1
  exact runF_of h1 h2 e rfl e2
/-- a block that answers, ahead of others -/
theorem ans_seq {P : R → Env → Prop} {Φ : Phi} {s t : S} {ρ : Env} (h : Ans P (ex Φ s ρ)) : Ans P (ex Φ (.seq s t) ρ) := by
  obtain ⟨r, ρ', e, h⟩ := h
  exact ⟨r, ρ', seq_ret e, h⟩
theorem add_n {Φ : Phi} {a b : E} {ρ ρ1 ρ2 : Env} {xs ys : List D} {o : Op} (hb : ∀ i, b ≠ .var i) (h : opd a (evE Φ a) ρ = some (o, ρ1)) (h2 : evE Φ b ρ1 = some (.l ys, ρ2)) (h3 : der ρ2 o = some (.list xs)) (hl : xs.length + ys.length ≤ 16777216) : evE Φ (.bin .Add a b) ρ = some (.l (xs ++ ys), ρ2) :=
  bin_n h (opd_n hb h2 rfl) h3 rfl (cat_n hl)
theorem catT_n {a b : List D} (h : a.length + b.length ≤ 16777216) : binD .Add (.tuple a) (.tuple b) = some (.v (.tuple (a ++ b))) := if_pos (okN_t h)
theorem add_t {Φ : Phi} {a b : E} {ρ ρ1 ρ2 : Env} {xs ys : List D} {o : Op} (hb : ∀ i, b ≠ .var i) (h : opd a (evE Φ a) ρ = some (o, ρ1)) (h2 : evE Φ b ρ1 = some (.v (.tuple ys), ρ2)) (h3 : der ρ2 o = some (.tuple xs)) (hl : xs.length + ys.length ≤ 16777216) : evE Φ (.bin .Add a b) ρ = some (.v (.tuple (xs ++ ys)), ρ2) :=
  bin_n h (opd_n hb h2 rfl) h3 rfl (catT_n hl)
theorem len_n {Φ : Phi} {c : E} {ρ ρ1 : Env} {xs : List D} (hv : ∀ i, c ≠ .var i) (h : evE Φ c ρ = some (.l xs, ρ1)) : evE Φ (.bi .len (.cons c .nil)) ρ = some (.v (.int xs.length), ρ1) := by
  rw [ev_len, ov_cons, op_val hv, h]
  simp
end Pv
namespace Ir
open PySem Pv
/-- is_number(thing 0) -/
def b_is_number : S := (.seq (.ret (.and_ (.isi (.var 0) [.int]) (.not_ (.isi (.var 0) [.bool])))) .skip)
def f_is_number : Fn := ⟨1, 1, b_is_number, []⟩
/-- is_among(thing 0, least 1, most 2) -/
def b_is_among : S := (.seq (.ret (.and_ (.call "is_number" (.cons (.var 0) .nil)) (.chain .LtE .LtE (.var 1) (.var 0) (.var 2)))) .skip)
def f_is_among : Fn := ⟨3, 3, b_is_among, []⟩
/-- is_from(thing 0, least 1) -/
def b_is_from : S := (.seq (.ret (.and_ (.call "is_number" (.cons (.var 0) .nil)) (.cmp .GtE (.var 0) (.var 1)))) .skip)
def f_is_from : Fn := ⟨2, 2, b_is_from, []⟩
/-- is_long(thing 0, length 1) -/
def b_is_long : S := (.seq (.ret (.and_ (.isi (.var 0) [.tuple]) (.cmp .Eq (.bi .len (.cons (.var 0) .nil)) (.var 1)))) .skip)
def f_is_long : Fn := ⟨2, 2, b_is_long, []⟩
/-- tupled(value 0, own 1) -/
def b_tupled : S := (.seq (.ret (.ife (.tt (.isi (.var 0) [.list, .tuple])) (.bi .tuple (.cons (.comp (.call "tupled" (.cons (.var 1) .nil)) (.nm 1) (.it (.var 0)) .tyes [1]) .nil)) (.var 0))) .skip)
def f_tupled : Fn := ⟨1, 2, b_tupled, []⟩
/-- is_just(thing 0, told 1, own 2, its 3) -/
def b_is_just : S := (.seq (.if_ (.tt (.isi (.var 1) [.tuple])) (.seq (.ret (.and_ (.call "is_long" (.cons (.var 0) (.cons (.bi .len (.cons (.var 1) .nil)) .nil))) (.bi .all (.cons (.comp (.call "is_just" (.cons (.var 2) (.cons (.var 3) .nil))) (.tp (.cons (.nm 2) (.cons (.nm 3) .nil))) (.zip (.var 0) (.var 1)) .tyes [2, 3]) .nil)))) .skip) .skip) (.seq (.if_ (.tcmp .Is (.var 1) .non) (.seq (.ret (.cmp .Is (.var 0) .non)) .skip) .skip) (.seq (.if_ (.tt (.isi (.var 1) [.str])) (.seq (.ret (.and_ (.isi (.var 0) [.str]) (.cmp .Eq (.var 0) (.var 1)))) .skip) .skip) (.seq (.ret (.and_ (.call "is_number" (.cons (.var 0) .nil)) (.cmp .Eq (.var 0) (.var 1)))) .skip))))
def f_is_just : Fn := ⟨2, 4, b_is_just, []⟩
/-- sure_number(thing 0, least 1, most 2) -/
def b_sure_number : S := (.seq (.if_ (.tnot (.tt (.call "is_among" (.cons (.var 0) (.cons (.var 1) (.cons (.var 2) .nil)))))) .never .skip) (.seq (.ret (.var 0)) .skip))
def f_sure_number : Fn := ⟨3, 3, b_sure_number, []⟩
/-- sure_from(thing 0, least 1) -/
def b_sure_from : S := (.seq (.if_ (.tnot (.tt (.call "is_from" (.cons (.var 0) (.cons (.var 1) .nil))))) .never .skip) (.seq (.ret (.var 0)) .skip))
def f_sure_from : Fn := ⟨2, 2, b_sure_from, []⟩
/-- rows_in(level 0, last 1, rows 2, number 3, row 4, turned 5, _ 6) -/
def b_rows_in : S := (.seq (.asg 1 (.bin .LShift (.num 1) (.var 0))) (.seq (.asg 2 (.bin .Add (.comp (.lst .nil) (.nm 6) (.rng1 (.var 1)) .tyes [6]) (.lst (.cons (.lrg false (.rng2 (.num 1) (.bin .Add (.var 1) (.num 1)))) .nil)))) (.seq (.for_ (.nm 3) (.rng3 (.bin .Sub (.var 1) (.num 1)) (.num 0) (.neg (.num 1))) (.seq (.asg 4 (.lst (.cons (.bin .Add (.var 3) (.num 1)) .nil))) (.seq (.while_ (.tcmp .NotEq (.idx (.var 4) (.neg (.num 1))) (.var 1)) (.seq (.asg 5 (.idx (.var 2) (.idx (.var 4) (.neg (.num 1))))) (.seq (.app 4 (.idx (.var 5) (.bin .Mod (.var 3) (.bi .len (.cons (.var 5) .nil))))) .skip))) (.seq (.setx 2 (.var 3) (.var 4)) .skip)))) (.seq (.ret (.mv 2)) .skip))))
def f_rows_in : Fn := ⟨1, 7, b_rows_in, []⟩
/-- product_in(rows 0, one 1, other 2) -/
def b_product_in : S := (.seq (.ret (.idx (.idx (.var 0) (.var 1)) (.bin .Mod (.bin .Sub (.var 2) (.num 1)) (.bi .len (.cons (.idx (.var 0) (.var 1)) .nil))))) .skip)
def f_product_in : Fn := ⟨3, 3, b_product_in, []⟩
/-- sure_level(thing 0) -/
def b_sure_level : S := (.seq (.ret (.call "sure_number" (.cons (.var 0) (.cons (.num 0) (.cons (.cst "MOST_LEVEL_tables" 12) .nil))))) .skip)
def f_sure_level : Fn := ⟨1, 1, b_sure_level, []⟩
/-- sure_in(level 0, thing 1) -/
def b_sure_in : S := (.seq (.ret (.call "sure_number" (.cons (.var 1) (.cons (.num 1) (.cons (.bin .LShift (.num 1) (.var 0)) .nil))))) .skip)
def f_sure_in : Fn := ⟨2, 2, b_sure_in, []⟩
/-- sure_all_in(level 0, thing 1, own 2, its 3) -/
def b_sure_all_in : S := (.seq (.asg 2 (.call "tupled" (.cons (.var 1) .nil))) (.seq (.if_ (.tor (.tnot (.tt (.isi (.var 2) [.tuple]))) (.tnot (.tt (.bi .all (.cons (.comp (.call "is_among" (.cons (.var 3) (.cons (.num 1) (.cons (.bin .LShift (.num 1) (.var 0)) .nil)))) (.nm 3) (.it (.var 2)) .tyes [3]) .nil))))) .never .skip) (.seq (.ret (.mv 2)) .skip)))
def f_sure_all_in : Fn := ⟨2, 4, b_sure_all_in, []⟩
/-- whole_in(level 0, last 1, one 2, rows 3, found 4, other 5) -/
def b_whole_in : S := (.seq (.par 3 4 (.call "rows_in" (.cons (.var 0) .nil)) (.lst .nil)) (.seq (.asg 1 (.bin .LShift (.num 1) (.var 0))) (.seq (.for_ (.nm 2) (.rng2 (.num 1) (.bin .Add (.var 1) (.num 1))) (.seq (.app 4 (.bi .tuple (.cons (.comp (.call "product_in" (.cons (.var 3) (.cons (.var 2) (.cons (.var 5) .nil)))) (.nm 5) (.rng2 (.num 1) (.bin .Add (.var 1) (.num 1))) .tyes [5]) .nil))) .skip)) (.seq (.ret (.bi .tuple (.cons (.var 4) .nil))) .skip))))
def f_whole_in : Fn := ⟨1, 6, b_whole_in, []⟩
/-- times(level 0, one 1, other 2, told 3, near 4) -/
def b_times : S := (.seq (.asg 3 (.call "sure_level" (.cons (.var 0) .nil))) (.seq (.asg 4 (.call "sure_in" (.cons (.var 3) (.cons (.var 1) .nil)))) (.seq (.ret (.call "product_in" (.cons (.call "rows_in" (.cons (.var 3) .nil)) (.cons (.var 4) (.cons (.call "sure_in" (.cons (.var 3) (.cons (.var 2) .nil))) .nil))))) .skip)))
def f_times : Fn := ⟨3, 5, b_times, []⟩
/-- table_row(level 0, one 1, told 2, near 3) -/
def b_table_row : S := (.seq (.asg 2 (.call "sure_level" (.cons (.var 0) .nil))) (.seq (.asg 3 (.call "sure_in" (.cons (.var 2) (.cons (.var 1) .nil)))) (.seq (.ret (.bi .tuple (.cons (.idx (.call "rows_in" (.cons (.var 2) .nil)) (.var 3)) .nil))) .skip)))
def f_table_row : Fn := ⟨2, 4, b_table_row, []⟩
/-- period(level 0, one 1) -/
def b_period : S := (.seq (.ret (.bi .len (.cons (.call "table_row" (.cons (.var 0) (.cons (.var 1) .nil))) .nil))) .skip)
def f_period : Fn := ⟨2, 2, b_period, []⟩
/-- whole_table(level 0) -/
def b_whole_table : S := (.seq (.if_ (.tcmp .Gt (.call "sure_level" (.cons (.var 0) .nil)) (.cst "MOST_WHOLE" 6)) .never .skip) (.seq (.ret (.call "whole_in" (.cons (.var 0) .nil))) .skip))
def f_whole_table : Fn := ⟨1, 1, b_whole_table, []⟩
/-- sure_low(level 0) -/
def b_sure_low : S := (.seq (.ret (.call "sure_number" (.cons (.var 0) (.cons (.num 0) (.cons (.cst "MOST_LEVEL_made" 8) .nil))))) .skip)
def f_sure_low : Fn := ⟨1, 1, b_sure_low, []⟩
/-- made_in(rows 0, numbers 1, known 2, own 3, left 4, its 5, goal 6) -/
def b_made_in : S := (.seq (.asg 2 (.dnew false)) (.seq (.for_ (.nm 3) (.it (.var 1)) (.seq (.dput 2 (.var 3) (.bl true)) .skip)) (.seq (.asg 4 (.dsort 2)) (.seq (.while_ (.tcmp .Gt (.bi .len (.cons (.var 4) .nil)) (.num 0)) (.seq (.asg 3 (.pop 4)) (.seq (.for_ (.nm 5) (.it (.dsort 2)) (.seq (.for_ (.nm 6) (.it (.tup (.cons (.call "product_in" (.cons (.var 0) (.cons (.var 3) (.cons (.var 5) .nil)))) (.cons (.call "product_in" (.cons (.var 0) (.cons (.var 5) (.cons (.var 3) .nil)))) .nil)))) (.seq (.if_ (.tdin true 2 (.var 6)) (.seq (.dput 2 (.var 6) (.bl true)) (.seq (.app 4 (.var 6)) .skip)) .skip) .skip)) .skip)) .skip))) (.seq (.ret (.dsort 2)) .skip)))))
def f_made_in : Fn := ⟨2, 7, b_made_in, []⟩
/-- sure_some(level 0, numbers 1, own 2) -/
def b_sure_some : S := (.seq (.asg 2 (.call "sure_all_in" (.cons (.var 0) (.cons (.var 1) .nil)))) (.seq (.if_ (.tcmp .Eq (.var 2) (.tup .nil)) .never .skip) (.seq (.ret (.mv 2)) .skip)))
def f_sure_some : Fn := ⟨2, 3, b_sure_some, []⟩
/-- copy_in(rows 0, one 1, size 2, found 3) -/
def b_copy_in : S := (.seq (.par 2 3 (.bi .len (.cons (.call "made_in" (.cons (.var 0) (.cons (.lst (.cons (.var 1) .nil)) .nil))) .nil)) (.lst (.cons (.var 1) .nil))) (.seq (.while_ (.tcmp .Lt (.bi .len (.cons (.var 3) .nil)) (.var 2)) (.seq (.app 3 (.call "product_in" (.cons (.var 0) (.cons (.idx (.var 3) (.neg (.num 1))) (.cons (.var 1) .nil))))) .skip)) (.seq (.ret (.mv 3)) .skip)))
def f_copy_in : Fn := ⟨2, 4, b_copy_in, []⟩
/-- made_by(level 0, numbers 1, told 2) -/
def b_made_by : S := (.seq (.asg 2 (.call "sure_low" (.cons (.var 0) .nil))) (.seq (.ret (.bi .tuple (.cons (.call "made_in" (.cons (.call "rows_in" (.cons (.var 2) .nil)) (.cons (.call "sure_some" (.cons (.var 2) (.cons (.var 1) .nil))) .nil))) .nil))) .skip))
def f_made_by : Fn := ⟨2, 3, b_made_by, []⟩
/-- copy_level(level 0, one 1) -/
def b_copy_level : S := (.seq (.ret (.bin .Sub (.bits (.bi .len (.cons (.call "copy_row" (.cons (.var 0) (.cons (.var 1) .nil))) .nil))) (.num 1))) .skip)
def f_copy_level : Fn := ⟨2, 2, b_copy_level, []⟩
/-- copy_row(level 0, one 1, told 2) -/
def b_copy_row : S := (.seq (.asg 2 (.call "sure_low" (.cons (.var 0) .nil))) (.seq (.ret (.bi .tuple (.cons (.call "copy_in" (.cons (.call "rows_in" (.cons (.var 2) .nil)) (.cons (.call "sure_in" (.cons (.var 2) (.cons (.var 1) .nil))) .nil))) .nil))) .skip))
def f_copy_row : Fn := ⟨2, 3, b_copy_row, []⟩
/-- is_copy_row(level 0, one 1, thing 2) -/
def b_is_copy_row : S := (.seq (.ret (.call "is_just" (.cons (.var 2) (.cons (.call "copy_row" (.cons (.var 0) (.cons (.var 1) .nil))) .nil)))) .skip)
def f_is_copy_row : Fn := ⟨3, 3, b_is_copy_row, []⟩
/-- makers(level 0, told 1, rows 2, last 3, own 4) -/
def b_makers : S := (.seq (.asg 1 (.call "sure_low" (.cons (.var 0) .nil))) (.seq (.par 2 3 (.call "rows_in" (.cons (.var 1) .nil)) (.bin .LShift (.num 1) (.var 1))) (.seq (.ret (.bi .tuple (.cons (.comp (.var 4) (.nm 4) (.rng2 (.num 1) (.bin .Add (.var 3) (.num 1))) (.tcmp .Eq (.bi .len (.cons (.call "made_in" (.cons (.var 2) (.cons (.lst (.cons (.var 4) .nil)) .nil))) .nil)) (.var 3)) [4]) .nil))) .skip)))
def f_makers : Fn := ⟨1, 5, b_makers, []⟩
/-- how_many_make(level 0, size 1, told 2, goal 3, rows 4, last 5, own 6) -/
def b_how_many_make : S := (.seq (.asg 2 (.call "sure_low" (.cons (.var 0) .nil))) (.seq (.asg 3 (.call "sure_from" (.cons (.var 1) (.cons (.num 1) .nil)))) (.seq (.par 4 5 (.call "rows_in" (.cons (.var 2) .nil)) (.bin .LShift (.num 1) (.var 2))) (.seq (.ret (.bi .len (.cons (.comp (.num 1) (.nm 6) (.rng2 (.num 1) (.bin .Add (.var 5) (.num 1))) (.tcmp .Eq (.bi .len (.cons (.call "made_in" (.cons (.var 4) (.cons (.lst (.cons (.var 6) .nil)) .nil))) .nil)) (.var 3)) [6]) .nil))) .skip))))
def f_how_many_make : Fn := ⟨2, 7, b_how_many_make, []⟩
/-- do_make(level 0, numbers 1, told 2) -/
def b_do_make : S := (.seq (.asg 2 (.call "sure_low" (.cons (.var 0) .nil))) (.seq (.ret (.cmp .Eq (.bi .len (.cons (.call "made_in" (.cons (.call "rows_in" (.cons (.var 2) .nil)) (.cons (.call "sure_some" (.cons (.var 2) (.cons (.var 1) .nil))) .nil))) .nil)) (.bin .LShift (.num 1) (.var 2)))) .skip))
def f_do_make : Fn := ⟨2, 3, b_do_make, []⟩
/-- both_in(level 0, rows 1, one 2, other 3, last 4) -/
def b_both_in : S := (.seq (.asg 4 (.bin .LShift (.num 1) (.var 0))) (.seq (.ret (.bin .Add (.bin .Mod (.bin .Sub (.call "product_in" (.cons (.var 1) (.cons (.var 2) (.cons (.bin .Add (.bin .Mod (.var 3) (.var 4)) (.num 1)) .nil)))) (.num 2)) (.var 4)) (.num 1))) .skip))
def f_both_in : Fn := ⟨4, 5, b_both_in, []⟩
/-- both(level 0, one 1, other 2, told 3, near 4) -/
def b_both : S := (.seq (.asg 3 (.call "sure_level" (.cons (.var 0) .nil))) (.seq (.asg 4 (.call "sure_in" (.cons (.var 3) (.cons (.var 1) .nil)))) (.seq (.ret (.call "both_in" (.cons (.var 3) (.cons (.call "rows_in" (.cons (.var 3) .nil)) (.cons (.var 4) (.cons (.call "sure_in" (.cons (.var 3) (.cons (.var 2) .nil))) .nil)))))) .skip)))
def f_both : Fn := ⟨3, 5, b_both, []⟩
/-- both_table(level 0, told 1, found 2, one 3, rows 4, last 5, other 6) -/
def b_both_table : S := (.seq (.asg 1 (.call "sure_level" (.cons (.var 0) .nil))) (.seq (.if_ (.tcmp .Gt (.var 1) (.cst "MOST_TABLE" 6)) .never .skip) (.seq (.par 4 5 (.call "rows_in" (.cons (.var 1) .nil)) (.bin .LShift (.num 1) (.var 1))) (.seq (.asg 2 (.lst .nil)) (.seq (.for_ (.nm 3) (.rng2 (.num 1) (.bin .Add (.var 5) (.num 1))) (.seq (.app 2 (.bi .tuple (.cons (.comp (.call "both_in" (.cons (.var 1) (.cons (.var 4) (.cons (.var 3) (.cons (.var 6) .nil))))) (.nm 6) (.rng2 (.num 1) (.bin .Add (.var 5) (.num 1))) .tyes [6]) .nil))) .skip)) (.seq (.ret (.bi .tuple (.cons (.var 2) .nil))) .skip))))))
def f_both_table : Fn := ⟨1, 7, b_both_table, []⟩
/-- folded(level 0, numbers 1, rows 2, found 3, own 4) -/
def b_folded : S := (.seq (.asg 2 (.call "rows_in" (.cons (.var 0) .nil))) (.seq (.asg 3 (.bin .LShift (.num 1) (.var 0))) (.seq (.for_ (.nm 4) (.it (.var 1)) (.seq (.asg 3 (.call "both_in" (.cons (.var 0) (.cons (.var 2) (.cons (.var 3) (.cons (.var 4) .nil)))))) .skip)) (.seq (.ret (.mv 3)) .skip))))
def f_folded : Fn := ⟨2, 5, b_folded, []⟩
/-- both_times(level 0, one 1, many 2, told 3, own 4) -/
def b_both_times : S := (.seq (.asg 3 (.call "sure_level" (.cons (.var 0) .nil))) (.seq (.asg 4 (.call "sure_in" (.cons (.var 3) (.cons (.var 1) .nil)))) (.seq (.ret (.call "folded" (.cons (.var 3) (.cons (.bin .Mult (.lst (.cons (.var 4) .nil)) (.call "sure_number" (.cons (.var 2) (.cons (.num 0) (.cons (.cst "MOST_TIMES" 1000) .nil))))) .nil)))) .skip)))
def f_both_times : Fn := ⟨3, 5, b_both_times, []⟩
/-- fixed_by(level 0, one 1, told 2, own 3, rows 4, its 5) -/
def b_fixed_by : S := (.seq (.asg 2 (.call "sure_level" (.cons (.var 0) .nil))) (.seq (.asg 3 (.call "sure_in" (.cons (.var 2) (.cons (.var 1) .nil)))) (.seq (.asg 4 (.call "rows_in" (.cons (.var 2) .nil))) (.seq (.ret (.bi .tuple (.cons (.comp (.var 5) (.nm 5) (.rng2 (.num 1) (.bin .Add (.bin .LShift (.num 1) (.var 2)) (.num 1))) (.tcmp .Eq (.call "product_in" (.cons (.var 4) (.cons (.var 3) (.cons (.var 5) .nil)))) (.var 5)) [5]) .nil))) .skip))))
def f_fixed_by : Fn := ⟨2, 6, b_fixed_by, []⟩
/-- sure_listed(level 0, told 1) -/
def b_sure_listed : S := (.seq (.asg 1 (.call "sure_level" (.cons (.var 0) .nil))) (.seq (.if_ (.tcmp .Gt (.var 1) (.cst "MOST_LISTED" 10)) .never .skip) (.seq (.ret (.mv 1)) .skip)))
def f_sure_listed : Fn := ⟨1, 2, b_sure_listed, []⟩
/-- periods(level 0, row 1) -/
def b_periods : S := (.seq (.ret (.bi .tuple (.cons (.comp (.bi .len (.cons (.var 1) .nil)) (.nm 1) (.it (.slc (.call "rows_in" (.cons (.call "sure_listed" (.cons (.var 0) .nil)) .nil)) (.it (.num 1)) .nob)) .tyes [1]) .nil))) .skip)
def f_periods : Fn := ⟨1, 2, b_periods, []⟩
/-- divided(level 0, one 1, goal 2, told 3, own 4, end 5, row 6) -/
def b_divided : S := (.seq (.asg 3 (.call "sure_level" (.cons (.var 0) .nil))) (.seq (.asg 4 (.call "sure_in" (.cons (.var 3) (.cons (.var 1) .nil)))) (.seq (.asg 5 (.call "sure_in" (.cons (.var 3) (.cons (.var 2) .nil)))) (.seq (.asg 6 (.idx (.call "rows_in" (.cons (.var 3) .nil)) (.var 4))) (.seq (.ret (.ife (.tcmp .In (.var 5) (.var 6)) (.bin .Add (.mt .index (.var 6) (.cons (.var 5) .nil)) (.num 1)) .non)) .skip)))))
def f_divided : Fn := ⟨3, 7, b_divided, []⟩
/-- sure_below(level 0) -/
def b_sure_below : S := (.seq (.ret (.call "sure_number" (.cons (.var 0) (.cons (.num 0) (.cons (.cst "MOST_BELOW" 11) .nil))))) .skip)
def f_sure_below : Fn := ⟨1, 1, b_sure_below, []⟩
/-- lowered_in(level 0, number 1) -/
def b_lowered_in : S := (.seq (.ret (.bin .Add (.bin .Mod (.bin .Sub (.var 1) (.num 1)) (.bin .LShift (.num 1) (.var 0))) (.num 1))) .skip)
def f_lowered_in : Fn := ⟨2, 2, b_lowered_in, []⟩
/-- threshold_in(level 0, rows 1, later 2, one 3, own 4) -/
def b_threshold_in : S := (.seq (.ret (.bi .len (.cons (.comp (.num 1) (.nm 4) (.it (.slc (.idx (.var 2) (.var 3)) .nob (.it (.bi .len (.cons (.idx (.var 1) (.var 3)) .nil))))) (.tcmp .LtE (.var 4) (.bin .LShift (.num 1) (.var 0))) [4]) .nil))) .skip)
def f_threshold_in : Fn := ⟨4, 5, b_threshold_in, []⟩
/-- lowered(level 0, number 1, told 2) -/
def b_lowered : S := (.seq (.asg 2 (.call "sure_below" (.cons (.var 0) .nil))) (.seq (.ret (.call "lowered_in" (.cons (.var 2) (.cons (.call "sure_number" (.cons (.var 1) (.cons (.num 1) (.cons (.cst "MOST_NUMBER" 4096) .nil)))) .nil)))) .skip))
def f_lowered : Fn := ⟨2, 3, b_lowered, []⟩
/-- threshold(level 0, one 1, told 2, own 3) -/
def b_threshold : S := (.seq (.asg 2 (.call "sure_below" (.cons (.var 0) .nil))) (.seq (.asg 3 (.call "sure_in" (.cons (.var 2) (.cons (.var 1) .nil)))) (.seq (.ret (.call "threshold_in" (.cons (.var 2) (.cons (.call "rows_in" (.cons (.var 2) .nil)) (.cons (.call "rows_in" (.cons (.bin .Add (.var 2) (.num 1)) .nil)) (.cons (.var 3) .nil)))))) .skip)))
def f_threshold : Fn := ⟨2, 4, b_threshold, []⟩
/-- row_above(level 0, one 1, told 2, own 3, row 4, stay 5, more 6, its 7) -/
def b_row_above : S := (.seq (.asg 2 (.call "sure_below" (.cons (.var 0) .nil))) (.seq (.asg 3 (.call "sure_in" (.cons (.var 2) (.cons (.var 1) .nil)))) (.seq (.asg 4 (.idx (.call "rows_in" (.cons (.var 2) .nil)) (.var 3))) (.seq (.par 5 6 (.call "threshold" (.cons (.var 2) (.cons (.var 3) .nil))) (.bin .LShift (.num 1) (.var 2))) (.seq (.if_ (.tcmp .Eq (.var 5) (.bi .len (.cons (.var 4) .nil))) (.seq (.ret (.bi .tuple (.cons (.bin .Add (.var 4) (.comp (.bin .Add (.var 7) (.var 6)) (.nm 7) (.it (.var 4)) .tyes [7])) .nil))) .skip) .skip) (.seq (.ret (.bi .tuple (.cons (.bin .Add (.slc (.var 4) .nob (.it (.var 5))) (.comp (.bin .Add (.var 7) (.var 6)) (.nm 7) (.it (.slc (.var 4) (.it (.var 5)) .nob)) .tyes [7])) .nil))) .skip))))))
def f_row_above : Fn := ⟨2, 8, b_row_above, []⟩
/-- period_above(level 0, one 1) -/
def b_period_above : S := (.seq (.ret (.bi .len (.cons (.call "row_above" (.cons (.var 0) (.cons (.var 1) .nil))) .nil))) .skip)
def f_period_above : Fn := ⟨2, 2, b_period_above, []⟩
/-- does_double(level 0, one 1, told 2, own 3) -/
def b_does_double : S := (.seq (.asg 2 (.call "sure_below" (.cons (.var 0) .nil))) (.seq (.asg 3 (.call "sure_in" (.cons (.var 2) (.cons (.var 1) .nil)))) (.seq (.ret (.cmp .Gt (.bi .len (.cons (.idx (.call "rows_in" (.cons (.bin .Add (.var 2) (.num 1)) .nil)) (.var 3)) .nil)) (.bi .len (.cons (.idx (.call "rows_in" (.cons (.var 2) .nil)) (.var 3)) .nil)))) .skip)))
def f_does_double : Fn := ⟨2, 4, b_does_double, []⟩
/-- lowered_product(level 0, one 1, other 2, told 3, near 4, far 5, above 6) -/
def b_lowered_product : S := (.seq (.asg 3 (.call "sure_below" (.cons (.var 0) .nil))) (.seq (.asg 4 (.call "sure_in" (.cons (.bin .Add (.var 3) (.num 1)) (.cons (.var 1) .nil)))) (.seq (.asg 5 (.call "sure_in" (.cons (.bin .Add (.var 3) (.num 1)) (.cons (.var 2) .nil)))) (.seq (.asg 6 (.call "lowered_in" (.cons (.var 3) (.cons (.call "product_in" (.cons (.call "rows_in" (.cons (.bin .Add (.var 3) (.num 1)) .nil)) (.cons (.var 4) (.cons (.var 5) .nil)))) .nil)))) (.seq (.ret (.tup (.cons (.var 6) (.cons (.call "product_in" (.cons (.call "rows_in" (.cons (.var 3) .nil)) (.cons (.call "lowered_in" (.cons (.var 3) (.cons (.var 4) .nil))) (.cons (.call "lowered_in" (.cons (.var 3) (.cons (.var 5) .nil))) .nil)))) .nil)))) .skip)))))
def f_lowered_product : Fn := ⟨3, 7, b_lowered_product, []⟩
/-- is_bush_in(thing 0) -/
def b_is_bush_in : S := (.seq (.if_ (.tnot (.tt (.isi (.var 0) [.tuple]))) (.seq (.ret (.bl false)) .skip) .skip) (.seq (.ret (.or_ (.cmp .Eq (.var 0) (.tup .nil)) (.and_ (.call "is_long" (.cons (.var 0) (.cons (.num 2) .nil))) (.and_ (.call "is_bush_in" (.cons (.idx (.var 0) (.num 0)) .nil)) (.call "is_bush_in" (.cons (.idx (.var 0) (.num 1)) .nil)))))) .skip))
def f_is_bush_in : Fn := ⟨1, 1, b_is_bush_in, []⟩
/-- sure_bush(thing 0, own 1) -/
def b_sure_bush : S := (.seq (.asg 1 (.call "tupled" (.cons (.var 0) .nil))) (.seq (.if_ (.tnot (.tt (.call "is_bush_in" (.cons (.var 1) .nil)))) .never .skip) (.seq (.ret (.mv 1)) .skip)))
def f_sure_bush : Fn := ⟨1, 2, b_sure_bush, []⟩
/-- worth_by(rows 0, bush 1) -/
def b_worth_by : S := (.seq (.ret (.ife (.tcmp .Eq (.var 1) (.tup .nil)) (.num 1) (.call "product_in" (.cons (.var 0) (.cons (.call "worth_by" (.cons (.var 0) (.cons (.idx (.var 1) (.num 0)) .nil))) (.cons (.call "worth_by" (.cons (.var 0) (.cons (.idx (.var 1) (.num 1)) .nil))) .nil)))))) .skip)
def f_worth_by : Fn := ⟨2, 2, b_worth_by, []⟩
/-- worth(level 0, bush 1, told 2) -/
def b_worth : S := (.seq (.asg 2 (.call "sure_level" (.cons (.var 0) .nil))) (.seq (.ret (.call "worth_by" (.cons (.call "rows_in" (.cons (.var 2) .nil)) (.cons (.call "sure_bush" (.cons (.var 1) .nil)) .nil)))) .skip))
def f_worth : Fn := ⟨2, 3, b_worth, []⟩
/-- worths(bush 0, most 1, own 2, level 3) -/
def b_worths : S := (.seq (.asg 2 (.call "sure_bush" (.cons (.var 0) .nil))) (.seq (.ret (.bi .tuple (.cons (.comp (.call "worth_by" (.cons (.call "rows_in" (.cons (.var 3) .nil)) (.cons (.var 2) .nil))) (.nm 3) (.rng1 (.bin .Add (.call "sure_level" (.cons (.var 1) .nil)) (.num 1))) .tyes [3]) .nil))) .skip))
def f_worths : Fn := ⟨2, 4, b_worths, []⟩
/-- _law_box(script 0, k 1, bit_so 2) -/
def b__law_box : S := (.seq (.asg 2 (.ife (.tcmp .Lt (.var 1) (.bi .len (.cons (.var 0) .nil))) (.idx (.var 0) (.var 1)) (.num 0))) (.seq (.ret (.lst (.cons (.bin .Mult (.bi .abs (.cons (.var 2) .nil)) (.bi .int (.cons (.cmp .GtE (.bi .abs (.cons (.var 2) .nil)) (.bin .Pow (.num 10) (.num 18))) .nil))) (.cons (.bin .Add (.bin .Add (.bin .Mod (.bi .int (.cons (.var 2) .nil)) (.num 2305843009213693951)) (.bin .Mult (.num 39373) (.var 1))) (.num 9285094)) (.cons (.num 0) .nil))))) .skip))
def f__law_box : Fn := ⟨2, 3, b__law_box, []⟩
/-- _law_take(tin 0, below_so 1, once_so 2, wide_so 3, twice_so 4, drawn_so 5) -/
def b__law_take : S := (.seq (.if_ (.tcmp .Gt (.idx (.var 0) (.num 0)) (.num 0)) (.seq (.asg 5 (.bin .Mod (.bi .int (.cons (.idx (.var 0) (.num 0)) .nil)) (.var 1))) (.seq (.setx 0 (.num 0) (.bin .FloorDiv (.idx (.var 0) (.num 0)) (.var 1))) (.seq (.ret (.mv 5)) .skip))) .skip) (.seq (.setx 0 (.num 2) (.bin .Add (.idx (.var 0) (.num 2)) (.num 1))) (.seq (.asg 2 (.bin .Mod (.bi .int (.cons (.bin .Mult (.bin .Add (.idx (.var 0) (.num 1)) (.bin .Mult (.num 48271) (.idx (.var 0) (.num 2)))) (.bin .Add (.num 39373) (.idx (.var 0) (.num 2)))) .nil)) (.num 2147483647))) (.seq (.asg 3 (.bin .Add (.bin .Mod (.bi .int (.cons (.var 2) .nil)) (.num 40009)) (.num 7))) (.seq (.asg 4 (.bin .Mod (.bi .int (.cons (.bin .Mult (.bin .Add (.bin .Add (.var 2) (.idx (.var 0) (.num 2))) (.bin .FloorDiv (.idx (.var 0) (.num 1)) (.num 1000003))) (.var 3)) .nil)) (.num 2147483629))) (.seq (.ret (.bin .Mod (.bi .int (.cons (.bin .FloorDiv (.bin .Mod (.bi .int (.cons (.bin .Add (.bin .Mult (.var 4) (.num 48271)) (.var 2)) .nil)) (.num 2147483587)) (.num 64)) .nil)) (.var 1))) .skip))))))
def f__law_take : Fn := ⟨2, 6, b__law_take, []⟩
/-- _law_cells(script 0, most_so 1, cells_so 2, k 3, bit_so 4, at_so 5) -/
def b__law_cells : S := (.seq (.asg 2 (.or_ (.bi .list (.cons (.slc (.var 0) .nob (.it (.var 1))) .nil)) (.lst (.cons (.num 0) .nil)))) (.seq (.for_ (.tp (.cons (.nm 3) (.cons (.nm 4) .nil))) (.enum (.slc (.var 0) (.it (.var 1)) (.it (.num 63)))) (.seq (.asg 5 (.bin .Mod (.bi .int (.cons (.var 3) .nil)) (.var 1))) (.seq (.setx 2 (.var 5) (.bin .Add (.idx (.var 2) (.var 5)) (.bin .Mult (.var 4) (.bin .Add (.var 3) (.num 2))))) .skip))) (.seq (.ret (.mv 2)) .skip)))
def f__law_cells : Fn := ⟨2, 6, b__law_cells, []⟩
/-- _law_of(tin 0, goods_so 1) -/
def b__law_of : S := (.seq (.ret (.idx (.var 1) (.call "_law_take" (.cons (.var 0) (.cons (.bi .len (.cons (.var 1) .nil)) .nil))))) .skip)
def f__law_of : Fn := ⟨2, 2, b__law_of, []⟩
/-- _law_same(got 0, due 1, mine 2, its 3) -/
def b__law_same : S := (.seq (.if_ (.tt (.isi (.var 1) [.list, .tuple])) (.seq (.if_ (.tor (.tcmp .NotEq (.isi (.var 0) [.list]) (.isi (.var 1) [.list])) (.tcmp .NotEq (.isi (.var 0) [.tuple]) (.isi (.var 1) [.tuple]))) (.seq (.ret (.bl false)) .skip) .skip) (.seq (.ret (.and_ (.cmp .Eq (.bi .len (.cons (.var 0) .nil)) (.bi .len (.cons (.var 1) .nil))) (.bi .all (.cons (.comp (.call "_law_same" (.cons (.var 2) (.cons (.var 3) .nil))) (.tp (.cons (.nm 2) (.cons (.nm 3) .nil))) (.zip (.var 0) (.var 1)) .tyes [2, 3]) .nil)))) .skip)) .skip) (.seq (.if_ (.tcmp .Is (.var 1) .non) (.seq (.ret (.cmp .Is (.var 0) .non)) .skip) .skip) (.seq (.if_ (.tt (.isi (.var 1) [.bool, .str])) (.seq (.ret (.and_ (.cmp .Eq (.isi (.var 0) [.bool]) (.isi (.var 1) [.bool])) (.and_ (.cmp .Eq (.isi (.var 0) [.str]) (.isi (.var 1) [.str])) (.cmp .Eq (.var 0) (.var 1))))) .skip) .skip) (.seq (.ret (.and_ (.isi (.var 0) [.int]) (.and_ (.not_ (.isi (.var 0) [.bool])) (.cmp .Eq (.var 0) (.var 1))))) .skip))))
def f__law_same : Fn := ⟨2, 4, b__law_same, []⟩
/-- _law_set(goods_so 0) -/
def b__law_set : S := (.seq (.ret (.bi .tuple (.cons (.sset (.var 0)) .nil))) .skip)
def f__law_set : Fn := ⟨1, 1, b__law_set, []⟩
/-- _law_net(tin 0, many_so 1, pool_so 2, lap 3, k 4) -/
def b__law_net : S := (.seq (.asg 2 (.bin .Mult (.lst (.cons (.tup .nil) .nil)) (.var 1))) (.seq (.for_ (.nm 3) (.rng1 (.bin .Sub (.var 1) (.num 1))) (.seq (.asg 4 (.call "_law_take" (.cons (.var 0) (.cons (.bin .Sub (.bi .len (.cons (.var 2) .nil)) (.num 1)) .nil)))) (.seq (.asg 2 (.bin .Add (.bin .Add (.slc (.var 2) .nob (.it (.var 4))) (.lst (.cons (.tup (.cons (.idx (.var 2) (.var 4)) (.cons (.idx (.var 2) (.bin .Add (.var 4) (.num 1))) .nil))) .nil))) (.slc (.var 2) (.it (.bin .Add (.var 4) (.num 2))) .nob))) .skip))) (.seq (.ret (.idx (.var 2) (.num 0))) .skip)))
def f__law_net : Fn := ⟨2, 5, b__law_net, []⟩
/-- _law_more_right(tin 0, last_so 1, level_so 2, low_one 3, low_so 4, one 5, product_so 6, rows_so 7, turns_so 8, sizes_so 9, size_so 10, got 11, many_so 12, net 13, goal_so 14, bads_so 15, a 16, edge_so 17, wide_so 18, small_so 19, bothes_so 20, lesses_so 21, b 22, own 23, x 24, y 25) -/
def b__law_more_right : S := (.seq (.asg 9 (.comp (.bin .LShift (.num 1) (.call "copy_level" (.cons (.var 2) (.cons (.var 23) .nil)))) (.nm 23) (.rng2 (.num 1) (.bin .Add (.var 1) (.num 1))) .tyes [23])) (.seq (.asg 10 (.call "_law_of" (.cons (.var 0) (.cons (.var 9) .nil)))) (.seq (.asg 11 (.lst (.cons (.call "makers" (.cons (.var 2) .nil)) (.cons (.call "do_make" (.cons (.var 2) (.cons (.tup (.cons (.num 1) .nil)) .nil))) (.cons (.call "how_many_make" (.cons (.var 2) (.cons (.var 10) .nil))) (.cons (.call "how_many_make" (.cons (.var 2) (.cons (.var 1) .nil))) (.cons (.call "do_make" (.cons (.var 2) (.cons (.tup (.cons (.var 1) .nil)) .nil))) (.cons (.idx (.var 9) (.neg (.num 1))) .nil)))))))) (.seq (.if_ (.tnot (.tt (.call "_law_same" (.cons (.var 11) (.cons (.lst (.cons (.tup (.cons (.num 1) .nil)) (.cons (.bl true) (.cons (.mt .count (.var 9) (.cons (.var 10) .nil)) (.cons (.num 1) (.cons (.cmp .Eq (.var 2) (.num 0)) (.cons (.num 1) .nil))))))) .nil))))) (.seq (.ret (.bl false)) .skip) .skip) (.seq (.if_ (.tcmp .Eq (.var 3) (.var 5)) (.seq (.asg 17 (.bi .len (.cons (.comp (.var 23) (.nm 23) (.it (.slc (.idx (.var 7) (.num 0)) .nob (.it (.bi .len (.cons (.idx (.var 7) (.num 1)) .nil))))) (.tcmp .LtE (.var 23) (.var 1)) [23]) .nil))) (.seq (.asg 11 (.lst (.cons (.call "threshold" (.cons (.var 2) (.cons (.var 5) .nil))) (.cons (.call "row_above" (.cons (.var 2) (.cons (.var 5) .nil))) (.cons (.call "period_above" (.cons (.var 2) (.cons (.var 5) .nil))) (.cons (.call "does_double" (.cons (.var 2) (.cons (.var 5) .nil))) (.cons (.cmp .Eq (.var 17) (.bi .len (.cons (.idx (.var 7) (.num 1)) .nil))) .nil))))))) (.seq (.if_ (.tnot (.tt (.call "_law_same" (.cons (.var 11) (.cons (.lst (.cons (.var 17) (.cons (.idx (.var 7) (.num 0)) (.cons (.bi .len (.cons (.idx (.var 7) (.num 0)) .nil)) (.cons (.cmp .Eq (.var 8) (.num 2)) (.cons (.cmp .Eq (.var 8) (.num 2)) .nil)))))) .nil))))) (.seq (.ret (.bl false)) .skip) .skip) .skip))) .skip) (.seq (.asg 12 (.call "_law_take" (.cons (.var 0) (.cons (.num 12) .nil)))) (.seq (.asg 11 (.lst (.cons (.call "lowered" (.cons (.var 2) (.cons (.call "both_times" (.cons (.bin .Add (.var 2) (.num 1)) (.cons (.var 5) (.cons (.var 12) .nil)))) .nil))) (.cons (.comp (.var 23) (.nm 23) (.it (.call "fixed_by" (.cons (.bin .Add (.var 2) (.num 1)) (.cons (.var 5) .nil)))) (.tcmp .NotIn (.call "lowered" (.cons (.var 2) (.cons (.var 23) .nil))) (.call "fixed_by" (.cons (.var 2) (.cons (.var 3) .nil)))) [23]) .nil)))) (.seq (.if_ (.tnot (.tt (.call "_law_same" (.cons (.var 11) (.cons (.lst (.cons (.call "both_times" (.cons (.var 2) (.cons (.var 3) (.cons (.var 12) .nil)))) (.cons (.lst .nil) .nil))) .nil))))) (.seq (.ret (.bl false)) .skip) .skip) (.seq (.asg 13 (.call "_law_net" (.cons (.var 0) (.cons (.bin .Add (.num 1) (.call "_law_take" (.cons (.var 0) (.cons (.num 7) .nil)))) .nil)))) (.seq (.asg 14 (.call "divided" (.cons (.bin .Add (.var 2) (.num 1)) (.cons (.var 5) (.cons (.var 6) .nil))))) (.seq (.asg 11 (.lst (.cons (.call "lowered" (.cons (.var 2) (.cons (.call "worth" (.cons (.bin .Add (.var 2) (.num 1)) (.cons (.var 13) .nil))) .nil))) (.cons (.slc (.call "worths" (.cons (.var 13) (.cons (.bin .Add (.var 2) (.num 1)) .nil))) (.it (.neg (.num 2))) .nob) (.cons (.call "times" (.cons (.var 2) (.cons (.var 3) (.cons (.call "lowered" (.cons (.var 2) (.cons (.var 14) .nil))) .nil)))) .nil))))) (.seq (.asg 11 (.bin .Add (.var 11) (.lst (.cons (.or_ (.cmp .Eq (.bin .Mod (.call "period" (.cons (.bin .Add (.var 2) (.num 1)) (.cons (.var 5) .nil))) (.var 14)) (.num 0)) (.cmp .Lt (.var 14) (.call "period" (.cons (.bin .Add (.var 2) (.num 1)) (.cons (.var 5) .nil))))) .nil)))) (.seq (.if_ (.tnot (.tt (.call "_law_same" (.cons (.var 11) (.cons (.lst (.cons (.call "worth" (.cons (.var 2) (.cons (.var 13) .nil))) (.cons (.tup (.cons (.call "worth" (.cons (.var 2) (.cons (.var 13) .nil))) (.cons (.call "worth" (.cons (.bin .Add (.var 2) (.num 1)) (.cons (.var 13) .nil))) .nil))) (.cons (.var 4) (.cons (.bl true) .nil))))) .nil))))) (.seq (.ret (.bl false)) .skip) .skip) (.seq (.if_ (.tcmp .Gt (.var 2) (.num 3)) (.seq (.ret (.bl true)) .skip) .skip) (.seq (.par 18 19 (.call "whole_table" (.cons (.bin .Add (.var 2) (.num 1)) .nil)) (.call "whole_table" (.cons (.var 2) .nil))) (.seq (.par 20 21 (.call "both_table" (.cons (.bin .Add (.var 2) (.num 1)) .nil)) (.call "both_table" (.cons (.var 2) .nil))) (.seq (.asg 15 (.lst .nil)) (.seq (.for_ (.nm 16) (.rng1 (.bin .Mult (.num 2) (.var 1))) (.seq (.for_ (.nm 22) (.rng1 (.bin .Mult (.num 2) (.var 1))) (.seq (.par 24 25 (.bin .Mod (.var 16) (.var 1)) (.bin .Mod (.var 22) (.var 1))) (.seq (.if_ (.tor (.tcmp .NotEq (.bin .Mod (.bin .Sub (.idx (.idx (.var 18) (.var 16)) (.var 22)) (.idx (.idx (.var 19) (.var 24)) (.var 25))) (.var 1)) (.num 0)) (.tcmp .NotEq (.bin .Mod (.bin .Sub (.idx (.idx (.var 20) (.var 16)) (.var 22)) (.idx (.idx (.var 21) (.var 24)) (.var 25))) (.var 1)) (.num 0))) (.seq (.app 15 (.tup (.cons (.var 16) (.cons (.var 22) .nil)))) .skip) .skip) .skip))) .skip)) (.seq (.ret (.call "_law_same" (.cons (.lst (.cons (.var 15) (.cons (.bi .len (.cons (.call "periods" (.cons (.bin .Add (.var 2) (.num 1)) .nil)) .nil)) .nil))) (.cons (.lst (.cons (.lst .nil) (.cons (.bin .Mult (.num 2) (.var 1)) .nil))) .nil)))) .skip)))))))))))))))))))
def f__law_more_right : Fn := ⟨9, 26, b__law_more_right, []⟩
/-- _law_right(tin 0, level_so 1, last_so 2, product_so 3, both_so 4, rows_so 5, got 6, low_so 7, turns_so 8, due 9, mades_so 10, lows_so 11, row_so 12, k 13, inner_so 14, mine_so 15, one 16, other 17, low_one 18, low_other 19, up_so 20, down_so 21, own 22, j 23) -/
def b__law_right : S := (.seq (.asg 1 (.call "_law_take" (.cons (.var 0) (.cons (.num 7) .nil)))) (.seq (.asg 2 (.bin .LShift (.num 1) (.var 1))) (.seq (.par 16 17 (.bin .Add (.num 1) (.call "_law_take" (.cons (.var 0) (.cons (.bin .Mult (.num 2) (.var 2)) .nil)))) (.bin .Add (.num 1) (.call "_law_take" (.cons (.var 0) (.cons (.bin .Mult (.num 2) (.var 2)) .nil))))) (.seq (.par 18 19 (.call "lowered" (.cons (.var 1) (.cons (.var 16) .nil))) (.call "lowered" (.cons (.var 1) (.cons (.var 17) .nil)))) (.seq (.asg 3 (.call "times" (.cons (.bin .Add (.var 1) (.num 1)) (.cons (.var 16) (.cons (.var 17) .nil))))) (.seq (.asg 4 (.call "both" (.cons (.bin .Add (.var 1) (.num 1)) (.cons (.var 16) (.cons (.var 17) .nil))))) (.seq (.asg 5 (.lst (.cons (.call "table_row" (.cons (.bin .Add (.var 1) (.num 1)) (.cons (.var 16) .nil))) (.cons (.call "table_row" (.cons (.var 1) (.cons (.var 18) .nil))) .nil)))) (.seq (.asg 6 (.lst (.cons (.var 18) (.cons (.call "lowered" (.cons (.var 1) (.cons (.var 3) .nil))) (.cons (.call "lowered_product" (.cons (.var 1) (.cons (.var 16) (.cons (.var 17) .nil)))) (.cons (.call "lowered" (.cons (.var 1) (.cons (.var 4) .nil))) (.cons (.comp (.call "lowered" (.cons (.var 1) (.cons (.var 22) .nil))) (.nm 22) (.it (.idx (.var 5) (.num 0))) .tyes [22]) .nil))))))) (.seq (.asg 7 (.call "times" (.cons (.var 1) (.cons (.var 18) (.cons (.var 19) .nil))))) (.seq (.asg 8 (.bin .FloorDiv (.bi .len (.cons (.idx (.var 5) (.num 0)) .nil)) (.bi .len (.cons (.idx (.var 5) (.num 1)) .nil)))) (.seq (.asg 9 (.lst (.cons (.bin .Add (.bin .Mod (.bin .Sub (.var 16) (.num 1)) (.var 2)) (.num 1)) (.cons (.var 7) (.cons (.tup (.cons (.var 7) (.cons (.var 7) .nil))) (.cons (.call "both" (.cons (.var 1) (.cons (.var 18) (.cons (.var 19) .nil)))) (.cons (.bin .Mult (.bi .list (.cons (.idx (.var 5) (.num 1)) .nil)) (.var 8)) .nil))))))) (.seq (.if_ (.tor (.tnot (.tt (.call "_law_same" (.cons (.var 6) (.cons (.var 9) .nil))))) (.tcmp .NotIn (.var 8) (.tup (.cons (.num 1) (.cons (.num 2) .nil))))) (.seq (.ret (.bl false)) .skip) .skip) (.seq (.asg 10 (.call "made_by" (.cons (.bin .Add (.var 1) (.num 1)) (.cons (.tup (.cons (.var 16) .nil)) .nil)))) (.seq (.asg 11 (.call "_law_set" (.cons (.comp (.call "lowered" (.cons (.var 1) (.cons (.var 22) .nil))) (.nm 22) (.it (.var 10)) .tyes [22]) .nil))) (.seq (.par 20 21 (.call "copy_level" (.cons (.bin .Add (.var 1) (.num 1)) (.cons (.var 16) .nil))) (.call "copy_level" (.cons (.var 1) (.cons (.var 18) .nil)))) (.seq (.asg 6 (.lst (.cons (.var 11) (.cons (.bi .len (.cons (.var 10) .nil)) (.cons (.cmp .In (.bin .Sub (.var 20) (.var 21)) (.tup (.cons (.num 0) (.cons (.num 1) .nil)))) (.cons (.call "is_copy_row" (.cons (.bin .Add (.var 1) (.num 1)) (.cons (.var 16) (.cons (.var 10) .nil)))) (.cons (.slc (.comp (.call "lowered" (.cons (.var 1) (.cons (.var 22) .nil))) (.nm 22) (.it (.call "copy_row" (.cons (.bin .Add (.var 1) (.num 1)) (.cons (.var 16) .nil)))) .tyes [22]) .nob (.it (.bin .LShift (.num 1) (.var 21)))) .nil))))))) (.seq (.if_ (.tnot (.tt (.call "_law_same" (.cons (.var 6) (.cons (.lst (.cons (.call "made_by" (.cons (.var 1) (.cons (.tup (.cons (.var 18) .nil)) .nil))) (.cons (.bin .LShift (.num 1) (.var 20)) (.cons (.bl true) (.cons (.cmp .Eq (.call "copy_row" (.cons (.bin .Add (.var 1) (.num 1)) (.cons (.var 16) .nil))) (.var 10)) (.cons (.bi .list (.cons (.call "copy_row" (.cons (.var 1) (.cons (.var 18) .nil))) .nil)) .nil)))))) .nil))))) (.seq (.ret (.bl false)) .skip) .skip) (.seq (.asg 12 (.call "copy_row" (.cons (.var 1) (.cons (.var 18) .nil)))) (.seq (.asg 13 (.bin .Add (.num 1) (.call "_law_take" (.cons (.var 0) (.cons (.bi .len (.cons (.var 12) .nil)) .nil))))) (.seq (.asg 14 (.call "copy_row" (.cons (.call "copy_level" (.cons (.var 1) (.cons (.var 18) .nil))) (.cons (.var 13) .nil)))) (.seq (.asg 6 (.lst (.cons (.call "copy_row" (.cons (.var 1) (.cons (.idx (.var 12) (.bin .Sub (.var 13) (.num 1))) .nil))) (.cons (.call "copy_level" (.cons (.var 1) (.cons (.idx (.var 12) (.bin .Sub (.var 13) (.num 1))) .nil))) (.cons (.comp (.call "times" (.cons (.var 1) (.cons (.idx (.var 12) (.bin .Sub (.var 13) (.num 1))) (.cons (.var 22) .nil)))) (.nm 22) (.it (.var 12)) .tyes [22]) .nil))))) (.seq (.asg 15 (.call "table_row" (.cons (.var 21) (.cons (.var 13) .nil)))) (.seq (.if_ (.tnot (.tt (.call "_law_same" (.cons (.var 6) (.cons (.lst (.cons (.bi .tuple (.cons (.comp (.idx (.var 12) (.bin .Sub (.var 22) (.num 1))) (.nm 22) (.it (.var 14)) .tyes [22]) .nil)) (.cons (.call "copy_level" (.cons (.var 21) (.cons (.var 13) .nil))) (.cons (.comp (.idx (.var 12) (.bin .Sub (.idx (.var 15) (.bin .Mod (.var 23) (.bi .len (.cons (.var 15) .nil)))) (.num 1))) (.nm 23) (.rng1 (.bi .len (.cons (.var 12) .nil))) .tyes [23]) .nil)))) .nil))))) (.seq (.ret (.bl false)) .skip) .skip) (.seq (.ret (.call "_law_more_right" (.cons (.var 0) (.cons (.var 2) (.cons (.var 1) (.cons (.var 18) (.cons (.var 7) (.cons (.var 16) (.cons (.var 3) (.cons (.var 5) (.cons (.var 8) .nil))))))))))) .skip))))))))))))))))))))))))
def f__law_right : Fn := ⟨1, 24, b__law_right, []⟩
/-- law(script 0, cells_so 1, k 2) -/
def b_law : S := (.seq (.asg 1 (.call "_law_cells" (.cons (.var 0) (.cons (.num 2) .nil)))) (.seq (.ret (.bi .all (.cons (.comp (.call "_law_right" (.cons (.call "_law_box" (.cons (.var 1) (.cons (.var 2) .nil))) .nil)) (.nm 2) (.rng1 (.bi .len (.cons (.var 1) .nil))) .tyes [2]) .nil))) .skip))
def f_law : Fn := ⟨1, 3, b_law, []⟩
theorem ru_is_number {Φ : Phi} {r0 r : R} {outs : List R} (h : Ans (fun rr ρ1 => rr = r ∧ outsL f_is_number ρ1 0 [r0] = some outs) (ex Φ b_is_number [some r0])) : runF Φ f_is_number [r0] = some (r, outs) := fn_eq rfl rfl h
theorem rx_is_number {Φ : Phi} {r0 : R} {Q : R → List R → Prop} (h : Ans (fun rr ρ1 => ∃ outs, outsL f_is_number ρ1 0 [r0] = some outs ∧ Q rr outs) (ex Φ b_is_number [some r0])) : ∃ r outs, runF Φ f_is_number [r0] = some (r, outs) ∧ Q r outs := fn_ans rfl rfl h
theorem ru_is_among {Φ : Phi} {r0 r1 r2 r : R} {outs : List R} (h : Ans (fun rr ρ1 => rr = r ∧ outsL f_is_among ρ1 0 [r0, r1, r2] = some outs) (ex Φ b_is_among [some r0, some r1, some r2])) : runF Φ f_is_among [r0, r1, r2] = some (r, outs) := fn_eq rfl rfl h
theorem rx_is_among {Φ : Phi} {r0 r1 r2 : R} {Q : R → List R → Prop} (h : Ans (fun rr ρ1 => ∃ outs, outsL f_is_among ρ1 0 [r0, r1, r2] = some outs ∧ Q rr outs) (ex Φ b_is_among [some r0, some r1, some r2])) : ∃ r outs, runF Φ f_is_among [r0, r1, r2] = some (r, outs) ∧ Q r outs := fn_ans rfl rfl h
theorem ru_is_from {Φ : Phi} {r0 r1 r : R} {outs : List R} (h : Ans (fun rr ρ1 => rr = r ∧ outsL f_is_from ρ1 0 [r0, r1] = some outs) (ex Φ b_is_from [some r0, some r1])) : runF Φ f_is_from [r0, r1] = some (r, outs) := fn_eq rfl rfl h
theorem rx_is_from {Φ : Phi} {r0 r1 : R} {Q : R → List R → Prop} (h : Ans (fun rr ρ1 => ∃ outs, outsL f_is_from ρ1 0 [r0, r1] = some outs ∧ Q rr outs) (ex Φ b_is_from [some r0, some r1])) : ∃ r outs, runF Φ f_is_from [r0, r1] = some (r, outs) ∧ Q r outs := fn_ans rfl rfl h
theorem ru_is_long {Φ : Phi} {r0 r1 r : R} {outs : List R} (h : Ans (fun rr ρ1 => rr = r ∧ outsL f_is_long ρ1 0 [r0, r1] = some outs) (ex Φ b_is_long [some r0, some r1])) : runF Φ f_is_long [r0, r1] = some (r, outs) := fn_eq rfl rfl h
theorem rx_is_long {Φ : Phi} {r0 r1 : R} {Q : R → List R → Prop} (h : Ans (fun rr ρ1 => ∃ outs, outsL f_is_long ρ1 0 [r0, r1] = some outs ∧ Q rr outs) (ex Φ b_is_long [some r0, some r1])) : ∃ r outs, runF Φ f_is_long [r0, r1] = some (r, outs) ∧ Q r outs := fn_ans rfl rfl h
theorem ru_tupled {Φ : Phi} {r0 r : R} {outs : List R} (h : Ans (fun rr ρ1 => rr = r ∧ outsL f_tupled ρ1 0 [r0] = some outs) (ex Φ b_tupled [some r0, none])) : runF Φ f_tupled [r0] = some (r, outs) := fn_eq rfl rfl h
theorem rx_tupled {Φ : Phi} {r0 : R} {Q : R → List R → Prop} (h : Ans (fun rr ρ1 => ∃ outs, outsL f_tupled ρ1 0 [r0] = some outs ∧ Q rr outs) (ex Φ b_tupled [some r0, none])) : ∃ r outs, runF Φ f_tupled [r0] = some (r, outs) ∧ Q r outs := fn_ans rfl rfl h
theorem ru_is_just {Φ : Phi} {r0 r1 r : R} {outs : List R} (h : Ans (fun rr ρ1 => rr = r ∧ outsL f_is_just ρ1 0 [r0, r1] = some outs) (ex Φ b_is_just [some r0, some r1, none, none])) : runF Φ f_is_just [r0, r1] = some (r, outs) := fn_eq rfl rfl h
theorem rx_is_just {Φ : Phi} {r0 r1 : R} {Q : R → List R → Prop} (h : Ans (fun rr ρ1 => ∃ outs, outsL f_is_just ρ1 0 [r0, r1] = some outs ∧ Q rr outs) (ex Φ b_is_just [some r0, some r1, none, none])) : ∃ r outs, runF Φ f_is_just [r0, r1] = some (r, outs) ∧ Q r outs := fn_ans rfl rfl h
theorem ru_sure_number {Φ : Phi} {r0 r1 r2 r : R} {outs : List R} (h : Ans (fun rr ρ1 => rr = r ∧ outsL f_sure_number ρ1 0 [r0, r1, r2] = some outs) (ex Φ b_sure_number [some r0, some r1, some r2])) : runF Φ f_sure_number [r0, r1, r2] = some (r, outs) := fn_eq rfl rfl h
theorem rx_sure_number {Φ : Phi} {r0 r1 r2 : R} {Q : R → List R → Prop} (h : Ans (fun rr ρ1 => ∃ outs, outsL f_sure_number ρ1 0 [r0, r1, r2] = some outs ∧ Q rr outs) (ex Φ b_sure_number [some r0, some r1, some r2])) : ∃ r outs, runF Φ f_sure_number [r0, r1, r2] = some (r, outs) ∧ Q r outs := fn_ans rfl rfl h
theorem ru_sure_from {Φ : Phi} {r0 r1 r : R} {outs : List R} (h : Ans (fun rr ρ1 => rr = r ∧ outsL f_sure_from ρ1 0 [r0, r1] = some outs) (ex Φ b_sure_from [some r0, some r1])) : runF Φ f_sure_from [r0, r1] = some (r, outs) := fn_eq rfl rfl h
theorem rx_sure_from {Φ : Phi} {r0 r1 : R} {Q : R → List R → Prop} (h : Ans (fun rr ρ1 => ∃ outs, outsL f_sure_from ρ1 0 [r0, r1] = some outs ∧ Q rr outs) (ex Φ b_sure_from [some r0, some r1])) : ∃ r outs, runF Φ f_sure_from [r0, r1] = some (r, outs) ∧ Q r outs := fn_ans rfl rfl h
theorem ru_rows_in {Φ : Phi} {r0 r : R} {outs : List R} (h : Ans (fun rr ρ1 => rr = r ∧ outsL f_rows_in ρ1 0 [r0] = some outs) (ex Φ b_rows_in [some r0, none, none, none, none, none, none])) : runF Φ f_rows_in [r0] = some (r, outs) := fn_eq rfl rfl h
theorem rx_rows_in {Φ : Phi} {r0 : R} {Q : R → List R → Prop} (h : Ans (fun rr ρ1 => ∃ outs, outsL f_rows_in ρ1 0 [r0] = some outs ∧ Q rr outs) (ex Φ b_rows_in [some r0, none, none, none, none, none, none])) : ∃ r outs, runF Φ f_rows_in [r0] = some (r, outs) ∧ Q r outs := fn_ans rfl rfl h
theorem ru_product_in {Φ : Phi} {r0 r1 r2 r : R} {outs : List R} (h : Ans (fun rr ρ1 => rr = r ∧ outsL f_product_in ρ1 0 [r0, r1, r2] = some outs) (ex Φ b_product_in [some r0, some r1, some r2])) : runF Φ f_product_in [r0, r1, r2] = some (r, outs) := fn_eq rfl rfl h
theorem rx_product_in {Φ : Phi} {r0 r1 r2 : R} {Q : R → List R → Prop} (h : Ans (fun rr ρ1 => ∃ outs, outsL f_product_in ρ1 0 [r0, r1, r2] = some outs ∧ Q rr outs) (ex Φ b_product_in [some r0, some r1, some r2])) : ∃ r outs, runF Φ f_product_in [r0, r1, r2] = some (r, outs) ∧ Q r outs := fn_ans rfl rfl h
theorem ru_sure_level {Φ : Phi} {r0 r : R} {outs : List R} (h : Ans (fun rr ρ1 => rr = r ∧ outsL f_sure_level ρ1 0 [r0] = some outs) (ex Φ b_sure_level [some r0])) : runF Φ f_sure_level [r0] = some (r, outs) := fn_eq rfl rfl h
theorem rx_sure_level {Φ : Phi} {r0 : R} {Q : R → List R → Prop} (h : Ans (fun rr ρ1 => ∃ outs, outsL f_sure_level ρ1 0 [r0] = some outs ∧ Q rr outs) (ex Φ b_sure_level [some r0])) : ∃ r outs, runF Φ f_sure_level [r0] = some (r, outs) ∧ Q r outs := fn_ans rfl rfl h
theorem ru_sure_in {Φ : Phi} {r0 r1 r : R} {outs : List R} (h : Ans (fun rr ρ1 => rr = r ∧ outsL f_sure_in ρ1 0 [r0, r1] = some outs) (ex Φ b_sure_in [some r0, some r1])) : runF Φ f_sure_in [r0, r1] = some (r, outs) := fn_eq rfl rfl h
theorem rx_sure_in {Φ : Phi} {r0 r1 : R} {Q : R → List R → Prop} (h : Ans (fun rr ρ1 => ∃ outs, outsL f_sure_in ρ1 0 [r0, r1] = some outs ∧ Q rr outs) (ex Φ b_sure_in [some r0, some r1])) : ∃ r outs, runF Φ f_sure_in [r0, r1] = some (r, outs) ∧ Q r outs := fn_ans rfl rfl h
theorem ru_sure_all_in {Φ : Phi} {r0 r1 r : R} {outs : List R} (h : Ans (fun rr ρ1 => rr = r ∧ outsL f_sure_all_in ρ1 0 [r0, r1] = some outs) (ex Φ b_sure_all_in [some r0, some r1, none, none])) : runF Φ f_sure_all_in [r0, r1] = some (r, outs) := fn_eq rfl rfl h
theorem rx_sure_all_in {Φ : Phi} {r0 r1 : R} {Q : R → List R → Prop} (h : Ans (fun rr ρ1 => ∃ outs, outsL f_sure_all_in ρ1 0 [r0, r1] = some outs ∧ Q rr outs) (ex Φ b_sure_all_in [some r0, some r1, none, none])) : ∃ r outs, runF Φ f_sure_all_in [r0, r1] = some (r, outs) ∧ Q r outs := fn_ans rfl rfl h
theorem ru_whole_in {Φ : Phi} {r0 r : R} {outs : List R} (h : Ans (fun rr ρ1 => rr = r ∧ outsL f_whole_in ρ1 0 [r0] = some outs) (ex Φ b_whole_in [some r0, none, none, none, none, none])) : runF Φ f_whole_in [r0] = some (r, outs) := fn_eq rfl rfl h
theorem rx_whole_in {Φ : Phi} {r0 : R} {Q : R → List R → Prop} (h : Ans (fun rr ρ1 => ∃ outs, outsL f_whole_in ρ1 0 [r0] = some outs ∧ Q rr outs) (ex Φ b_whole_in [some r0, none, none, none, none, none])) : ∃ r outs, runF Φ f_whole_in [r0] = some (r, outs) ∧ Q r outs := fn_ans rfl rfl h
theorem ru_times {Φ : Phi} {r0 r1 r2 r : R} {outs : List R} (h : Ans (fun rr ρ1 => rr = r ∧ outsL f_times ρ1 0 [r0, r1, r2] = some outs) (ex Φ b_times [some r0, some r1, some r2, none, none])) : runF Φ f_times [r0, r1, r2] = some (r, outs) := fn_eq rfl rfl h
theorem rx_times {Φ : Phi} {r0 r1 r2 : R} {Q : R → List R → Prop} (h : Ans (fun rr ρ1 => ∃ outs, outsL f_times ρ1 0 [r0, r1, r2] = some outs ∧ Q rr outs) (ex Φ b_times [some r0, some r1, some r2, none, none])) : ∃ r outs, runF Φ f_times [r0, r1, r2] = some (r, outs) ∧ Q r outs := fn_ans rfl rfl h
theorem ru_table_row {Φ : Phi} {r0 r1 r : R} {outs : List R} (h : Ans (fun rr ρ1 => rr = r ∧ outsL f_table_row ρ1 0 [r0, r1] = some outs) (ex Φ b_table_row [some r0, some r1, none, none])) : runF Φ f_table_row [r0, r1] = some (r, outs) := fn_eq rfl rfl h
theorem rx_table_row {Φ : Phi} {r0 r1 : R} {Q : R → List R → Prop} (h : Ans (fun rr ρ1 => ∃ outs, outsL f_table_row ρ1 0 [r0, r1] = some outs ∧ Q rr outs) (ex Φ b_table_row [some r0, some r1, none, none])) : ∃ r outs, runF Φ f_table_row [r0, r1] = some (r, outs) ∧ Q r outs := fn_ans rfl rfl h
theorem ru_period {Φ : Phi} {r0 r1 r : R} {outs : List R} (h : Ans (fun rr ρ1 => rr = r ∧ outsL f_period ρ1 0 [r0, r1] = some outs) (ex Φ b_period [some r0, some r1])) : runF Φ f_period [r0, r1] = some (r, outs) := fn_eq rfl rfl h
theorem rx_period {Φ : Phi} {r0 r1 : R} {Q : R → List R → Prop} (h : Ans (fun rr ρ1 => ∃ outs, outsL f_period ρ1 0 [r0, r1] = some outs ∧ Q rr outs) (ex Φ b_period [some r0, some r1])) : ∃ r outs, runF Φ f_period [r0, r1] = some (r, outs) ∧ Q r outs := fn_ans rfl rfl h
theorem ru_whole_table {Φ : Phi} {r0 r : R} {outs : List R} (h : Ans (fun rr ρ1 => rr = r ∧ outsL f_whole_table ρ1 0 [r0] = some outs) (ex Φ b_whole_table [some r0])) : runF Φ f_whole_table [r0] = some (r, outs) := fn_eq rfl rfl h
theorem rx_whole_table {Φ : Phi} {r0 : R} {Q : R → List R → Prop} (h : Ans (fun rr ρ1 => ∃ outs, outsL f_whole_table ρ1 0 [r0] = some outs ∧ Q rr outs) (ex Φ b_whole_table [some r0])) : ∃ r outs, runF Φ f_whole_table [r0] = some (r, outs) ∧ Q r outs := fn_ans rfl rfl h
theorem ru_sure_low {Φ : Phi} {r0 r : R} {outs : List R} (h : Ans (fun rr ρ1 => rr = r ∧ outsL f_sure_low ρ1 0 [r0] = some outs) (ex Φ b_sure_low [some r0])) : runF Φ f_sure_low [r0] = some (r, outs) := fn_eq rfl rfl h
theorem rx_sure_low {Φ : Phi} {r0 : R} {Q : R → List R → Prop} (h : Ans (fun rr ρ1 => ∃ outs, outsL f_sure_low ρ1 0 [r0] = some outs ∧ Q rr outs) (ex Φ b_sure_low [some r0])) : ∃ r outs, runF Φ f_sure_low [r0] = some (r, outs) ∧ Q r outs := fn_ans rfl rfl h
theorem ru_made_in {Φ : Phi} {r0 r1 r : R} {outs : List R} (h : Ans (fun rr ρ1 => rr = r ∧ outsL f_made_in ρ1 0 [r0, r1] = some outs) (ex Φ b_made_in [some r0, some r1, none, none, none, none, none])) : runF Φ f_made_in [r0, r1] = some (r, outs) := fn_eq rfl rfl h
theorem rx_made_in {Φ : Phi} {r0 r1 : R} {Q : R → List R → Prop} (h : Ans (fun rr ρ1 => ∃ outs, outsL f_made_in ρ1 0 [r0, r1] = some outs ∧ Q rr outs) (ex Φ b_made_in [some r0, some r1, none, none, none, none, none])) : ∃ r outs, runF Φ f_made_in [r0, r1] = some (r, outs) ∧ Q r outs := fn_ans rfl rfl h
theorem ru_sure_some {Φ : Phi} {r0 r1 r : R} {outs : List R} (h : Ans (fun rr ρ1 => rr = r ∧ outsL f_sure_some ρ1 0 [r0, r1] = some outs) (ex Φ b_sure_some [some r0, some r1, none])) : runF Φ f_sure_some [r0, r1] = some (r, outs) := fn_eq rfl rfl h
theorem rx_sure_some {Φ : Phi} {r0 r1 : R} {Q : R → List R → Prop} (h : Ans (fun rr ρ1 => ∃ outs, outsL f_sure_some ρ1 0 [r0, r1] = some outs ∧ Q rr outs) (ex Φ b_sure_some [some r0, some r1, none])) : ∃ r outs, runF Φ f_sure_some [r0, r1] = some (r, outs) ∧ Q r outs := fn_ans rfl rfl h
theorem ru_copy_in {Φ : Phi} {r0 r1 r : R} {outs : List R} (h : Ans (fun rr ρ1 => rr = r ∧ outsL f_copy_in ρ1 0 [r0, r1] = some outs) (ex Φ b_copy_in [some r0, some r1, none, none])) : runF Φ f_copy_in [r0, r1] = some (r, outs) := fn_eq rfl rfl h
theorem rx_copy_in {Φ : Phi} {r0 r1 : R} {Q : R → List R → Prop} (h : Ans (fun rr ρ1 => ∃ outs, outsL f_copy_in ρ1 0 [r0, r1] = some outs ∧ Q rr outs) (ex Φ b_copy_in [some r0, some r1, none, none])) : ∃ r outs, runF Φ f_copy_in [r0, r1] = some (r, outs) ∧ Q r outs := fn_ans rfl rfl h
theorem ru_made_by {Φ : Phi} {r0 r1 r : R} {outs : List R} (h : Ans (fun rr ρ1 => rr = r ∧ outsL f_made_by ρ1 0 [r0, r1] = some outs) (ex Φ b_made_by [some r0, some r1, none])) : runF Φ f_made_by [r0, r1] = some (r, outs) := fn_eq rfl rfl h
theorem rx_made_by {Φ : Phi} {r0 r1 : R} {Q : R → List R → Prop} (h : Ans (fun rr ρ1 => ∃ outs, outsL f_made_by ρ1 0 [r0, r1] = some outs ∧ Q rr outs) (ex Φ b_made_by [some r0, some r1, none])) : ∃ r outs, runF Φ f_made_by [r0, r1] = some (r, outs) ∧ Q r outs := fn_ans rfl rfl h
theorem ru_copy_level {Φ : Phi} {r0 r1 r : R} {outs : List R} (h : Ans (fun rr ρ1 => rr = r ∧ outsL f_copy_level ρ1 0 [r0, r1] = some outs) (ex Φ b_copy_level [some r0, some r1])) : runF Φ f_copy_level [r0, r1] = some (r, outs) := fn_eq rfl rfl h
theorem rx_copy_level {Φ : Phi} {r0 r1 : R} {Q : R → List R → Prop} (h : Ans (fun rr ρ1 => ∃ outs, outsL f_copy_level ρ1 0 [r0, r1] = some outs ∧ Q rr outs) (ex Φ b_copy_level [some r0, some r1])) : ∃ r outs, runF Φ f_copy_level [r0, r1] = some (r, outs) ∧ Q r outs := fn_ans rfl rfl h
theorem ru_copy_row {Φ : Phi} {r0 r1 r : R} {outs : List R} (h : Ans (fun rr ρ1 => rr = r ∧ outsL f_copy_row ρ1 0 [r0, r1] = some outs) (ex Φ b_copy_row [some r0, some r1, none])) : runF Φ f_copy_row [r0, r1] = some (r, outs) := fn_eq rfl rfl h
theorem rx_copy_row {Φ : Phi} {r0 r1 : R} {Q : R → List R → Prop} (h : Ans (fun rr ρ1 => ∃ outs, outsL f_copy_row ρ1 0 [r0, r1] = some outs ∧ Q rr outs) (ex Φ b_copy_row [some r0, some r1, none])) : ∃ r outs, runF Φ f_copy_row [r0, r1] = some (r, outs) ∧ Q r outs := fn_ans rfl rfl h
theorem ru_is_copy_row {Φ : Phi} {r0 r1 r2 r : R} {outs : List R} (h : Ans (fun rr ρ1 => rr = r ∧ outsL f_is_copy_row ρ1 0 [r0, r1, r2] = some outs) (ex Φ b_is_copy_row [some r0, some r1, some r2])) : runF Φ f_is_copy_row [r0, r1, r2] = some (r, outs) := fn_eq rfl rfl h
theorem rx_is_copy_row {Φ : Phi} {r0 r1 r2 : R} {Q : R → List R → Prop} (h : Ans (fun rr ρ1 => ∃ outs, outsL f_is_copy_row ρ1 0 [r0, r1, r2] = some outs ∧ Q rr outs) (ex Φ b_is_copy_row [some r0, some r1, some r2])) : ∃ r outs, runF Φ f_is_copy_row [r0, r1, r2] = some (r, outs) ∧ Q r outs := fn_ans rfl rfl h
theorem ru_makers {Φ : Phi} {r0 r : R} {outs : List R} (h : Ans (fun rr ρ1 => rr = r ∧ outsL f_makers ρ1 0 [r0] = some outs) (ex Φ b_makers [some r0, none, none, none, none])) : runF Φ f_makers [r0] = some (r, outs) := fn_eq rfl rfl h
theorem rx_makers {Φ : Phi} {r0 : R} {Q : R → List R → Prop} (h : Ans (fun rr ρ1 => ∃ outs, outsL f_makers ρ1 0 [r0] = some outs ∧ Q rr outs) (ex Φ b_makers [some r0, none, none, none, none])) : ∃ r outs, runF Φ f_makers [r0] = some (r, outs) ∧ Q r outs := fn_ans rfl rfl h
theorem ru_how_many_make {Φ : Phi} {r0 r1 r : R} {outs : List R} (h : Ans (fun rr ρ1 => rr = r ∧ outsL f_how_many_make ρ1 0 [r0, r1] = some outs) (ex Φ b_how_many_make [some r0, some r1, none, none, none, none, none])) : runF Φ f_how_many_make [r0, r1] = some (r, outs) := fn_eq rfl rfl h
theorem rx_how_many_make {Φ : Phi} {r0 r1 : R} {Q : R → List R → Prop} (h : Ans (fun rr ρ1 => ∃ outs, outsL f_how_many_make ρ1 0 [r0, r1] = some outs ∧ Q rr outs) (ex Φ b_how_many_make [some r0, some r1, none, none, none, none, none])) : ∃ r outs, runF Φ f_how_many_make [r0, r1] = some (r, outs) ∧ Q r outs := fn_ans rfl rfl h
theorem ru_do_make {Φ : Phi} {r0 r1 r : R} {outs : List R} (h : Ans (fun rr ρ1 => rr = r ∧ outsL f_do_make ρ1 0 [r0, r1] = some outs) (ex Φ b_do_make [some r0, some r1, none])) : runF Φ f_do_make [r0, r1] = some (r, outs) := fn_eq rfl rfl h
theorem rx_do_make {Φ : Phi} {r0 r1 : R} {Q : R → List R → Prop} (h : Ans (fun rr ρ1 => ∃ outs, outsL f_do_make ρ1 0 [r0, r1] = some outs ∧ Q rr outs) (ex Φ b_do_make [some r0, some r1, none])) : ∃ r outs, runF Φ f_do_make [r0, r1] = some (r, outs) ∧ Q r outs := fn_ans rfl rfl h
theorem ru_both_in {Φ : Phi} {r0 r1 r2 r3 r : R} {outs : List R} (h : Ans (fun rr ρ1 => rr = r ∧ outsL f_both_in ρ1 0 [r0, r1, r2, r3] = some outs) (ex Φ b_both_in [some r0, some r1, some r2, some r3, none])) : runF Φ f_both_in [r0, r1, r2, r3] = some (r, outs) := fn_eq rfl rfl h
theorem rx_both_in {Φ : Phi} {r0 r1 r2 r3 : R} {Q : R → List R → Prop} (h : Ans (fun rr ρ1 => ∃ outs, outsL f_both_in ρ1 0 [r0, r1, r2, r3] = some outs ∧ Q rr outs) (ex Φ b_both_in [some r0, some r1, some r2, some r3, none])) : ∃ r outs, runF Φ f_both_in [r0, r1, r2, r3] = some (r, outs) ∧ Q r outs := fn_ans rfl rfl h
theorem ru_both {Φ : Phi} {r0 r1 r2 r : R} {outs : List R} (h : Ans (fun rr ρ1 => rr = r ∧ outsL f_both ρ1 0 [r0, r1, r2] = some outs) (ex Φ b_both [some r0, some r1, some r2, none, none])) : runF Φ f_both [r0, r1, r2] = some (r, outs) := fn_eq rfl rfl h
theorem rx_both {Φ : Phi} {r0 r1 r2 : R} {Q : R → List R → Prop} (h : Ans (fun rr ρ1 => ∃ outs, outsL f_both ρ1 0 [r0, r1, r2] = some outs ∧ Q rr outs) (ex Φ b_both [some r0, some r1, some r2, none, none])) : ∃ r outs, runF Φ f_both [r0, r1, r2] = some (r, outs) ∧ Q r outs := fn_ans rfl rfl h
theorem ru_both_table {Φ : Phi} {r0 r : R} {outs : List R} (h : Ans (fun rr ρ1 => rr = r ∧ outsL f_both_table ρ1 0 [r0] = some outs) (ex Φ b_both_table [some r0, none, none, none, none, none, none])) : runF Φ f_both_table [r0] = some (r, outs) := fn_eq rfl rfl h
theorem rx_both_table {Φ : Phi} {r0 : R} {Q : R → List R → Prop} (h : Ans (fun rr ρ1 => ∃ outs, outsL f_both_table ρ1 0 [r0] = some outs ∧ Q rr outs) (ex Φ b_both_table [some r0, none, none, none, none, none, none])) : ∃ r outs, runF Φ f_both_table [r0] = some (r, outs) ∧ Q r outs := fn_ans rfl rfl h
theorem ru_folded {Φ : Phi} {r0 r1 r : R} {outs : List R} (h : Ans (fun rr ρ1 => rr = r ∧ outsL f_folded ρ1 0 [r0, r1] = some outs) (ex Φ b_folded [some r0, some r1, none, none, none])) : runF Φ f_folded [r0, r1] = some (r, outs) := fn_eq rfl rfl h
theorem rx_folded {Φ : Phi} {r0 r1 : R} {Q : R → List R → Prop} (h : Ans (fun rr ρ1 => ∃ outs, outsL f_folded ρ1 0 [r0, r1] = some outs ∧ Q rr outs) (ex Φ b_folded [some r0, some r1, none, none, none])) : ∃ r outs, runF Φ f_folded [r0, r1] = some (r, outs) ∧ Q r outs := fn_ans rfl rfl h
theorem ru_both_times {Φ : Phi} {r0 r1 r2 r : R} {outs : List R} (h : Ans (fun rr ρ1 => rr = r ∧ outsL f_both_times ρ1 0 [r0, r1, r2] = some outs) (ex Φ b_both_times [some r0, some r1, some r2, none, none])) : runF Φ f_both_times [r0, r1, r2] = some (r, outs) := fn_eq rfl rfl h
theorem rx_both_times {Φ : Phi} {r0 r1 r2 : R} {Q : R → List R → Prop} (h : Ans (fun rr ρ1 => ∃ outs, outsL f_both_times ρ1 0 [r0, r1, r2] = some outs ∧ Q rr outs) (ex Φ b_both_times [some r0, some r1, some r2, none, none])) : ∃ r outs, runF Φ f_both_times [r0, r1, r2] = some (r, outs) ∧ Q r outs := fn_ans rfl rfl h
theorem ru_fixed_by {Φ : Phi} {r0 r1 r : R} {outs : List R} (h : Ans (fun rr ρ1 => rr = r ∧ outsL f_fixed_by ρ1 0 [r0, r1] = some outs) (ex Φ b_fixed_by [some r0, some r1, none, none, none, none])) : runF Φ f_fixed_by [r0, r1] = some (r, outs) := fn_eq rfl rfl h
theorem rx_fixed_by {Φ : Phi} {r0 r1 : R} {Q : R → List R → Prop} (h : Ans (fun rr ρ1 => ∃ outs, outsL f_fixed_by ρ1 0 [r0, r1] = some outs ∧ Q rr outs) (ex Φ b_fixed_by [some r0, some r1, none, none, none, none])) : ∃ r outs, runF Φ f_fixed_by [r0, r1] = some (r, outs) ∧ Q r outs := fn_ans rfl rfl h
theorem ru_sure_listed {Φ : Phi} {r0 r : R} {outs : List R} (h : Ans (fun rr ρ1 => rr = r ∧ outsL f_sure_listed ρ1 0 [r0] = some outs) (ex Φ b_sure_listed [some r0, none])) : runF Φ f_sure_listed [r0] = some (r, outs) := fn_eq rfl rfl h
theorem rx_sure_listed {Φ : Phi} {r0 : R} {Q : R → List R → Prop} (h : Ans (fun rr ρ1 => ∃ outs, outsL f_sure_listed ρ1 0 [r0] = some outs ∧ Q rr outs) (ex Φ b_sure_listed [some r0, none])) : ∃ r outs, runF Φ f_sure_listed [r0] = some (r, outs) ∧ Q r outs := fn_ans rfl rfl h
theorem ru_periods {Φ : Phi} {r0 r : R} {outs : List R} (h : Ans (fun rr ρ1 => rr = r ∧ outsL f_periods ρ1 0 [r0] = some outs) (ex Φ b_periods [some r0, none])) : runF Φ f_periods [r0] = some (r, outs) := fn_eq rfl rfl h
theorem rx_periods {Φ : Phi} {r0 : R} {Q : R → List R → Prop} (h : Ans (fun rr ρ1 => ∃ outs, outsL f_periods ρ1 0 [r0] = some outs ∧ Q rr outs) (ex Φ b_periods [some r0, none])) : ∃ r outs, runF Φ f_periods [r0] = some (r, outs) ∧ Q r outs := fn_ans rfl rfl h
theorem ru_divided {Φ : Phi} {r0 r1 r2 r : R} {outs : List R} (h : Ans (fun rr ρ1 => rr = r ∧ outsL f_divided ρ1 0 [r0, r1, r2] = some outs) (ex Φ b_divided [some r0, some r1, some r2, none, none, none, none])) : runF Φ f_divided [r0, r1, r2] = some (r, outs) := fn_eq rfl rfl h
theorem rx_divided {Φ : Phi} {r0 r1 r2 : R} {Q : R → List R → Prop} (h : Ans (fun rr ρ1 => ∃ outs, outsL f_divided ρ1 0 [r0, r1, r2] = some outs ∧ Q rr outs) (ex Φ b_divided [some r0, some r1, some r2, none, none, none, none])) : ∃ r outs, runF Φ f_divided [r0, r1, r2] = some (r, outs) ∧ Q r outs := fn_ans rfl rfl h
theorem ru_sure_below {Φ : Phi} {r0 r : R} {outs : List R} (h : Ans (fun rr ρ1 => rr = r ∧ outsL f_sure_below ρ1 0 [r0] = some outs) (ex Φ b_sure_below [some r0])) : runF Φ f_sure_below [r0] = some (r, outs) := fn_eq rfl rfl h
theorem rx_sure_below {Φ : Phi} {r0 : R} {Q : R → List R → Prop} (h : Ans (fun rr ρ1 => ∃ outs, outsL f_sure_below ρ1 0 [r0] = some outs ∧ Q rr outs) (ex Φ b_sure_below [some r0])) : ∃ r outs, runF Φ f_sure_below [r0] = some (r, outs) ∧ Q r outs := fn_ans rfl rfl h
theorem ru_lowered_in {Φ : Phi} {r0 r1 r : R} {outs : List R} (h : Ans (fun rr ρ1 => rr = r ∧ outsL f_lowered_in ρ1 0 [r0, r1] = some outs) (ex Φ b_lowered_in [some r0, some r1])) : runF Φ f_lowered_in [r0, r1] = some (r, outs) := fn_eq rfl rfl h
theorem rx_lowered_in {Φ : Phi} {r0 r1 : R} {Q : R → List R → Prop} (h : Ans (fun rr ρ1 => ∃ outs, outsL f_lowered_in ρ1 0 [r0, r1] = some outs ∧ Q rr outs) (ex Φ b_lowered_in [some r0, some r1])) : ∃ r outs, runF Φ f_lowered_in [r0, r1] = some (r, outs) ∧ Q r outs := fn_ans rfl rfl h
theorem ru_threshold_in {Φ : Phi} {r0 r1 r2 r3 r : R} {outs : List R} (h : Ans (fun rr ρ1 => rr = r ∧ outsL f_threshold_in ρ1 0 [r0, r1, r2, r3] = some outs) (ex Φ b_threshold_in [some r0, some r1, some r2, some r3, none])) : runF Φ f_threshold_in [r0, r1, r2, r3] = some (r, outs) := fn_eq rfl rfl h
theorem rx_threshold_in {Φ : Phi} {r0 r1 r2 r3 : R} {Q : R → List R → Prop} (h : Ans (fun rr ρ1 => ∃ outs, outsL f_threshold_in ρ1 0 [r0, r1, r2, r3] = some outs ∧ Q rr outs) (ex Φ b_threshold_in [some r0, some r1, some r2, some r3, none])) : ∃ r outs, runF Φ f_threshold_in [r0, r1, r2, r3] = some (r, outs) ∧ Q r outs := fn_ans rfl rfl h
theorem ru_lowered {Φ : Phi} {r0 r1 r : R} {outs : List R} (h : Ans (fun rr ρ1 => rr = r ∧ outsL f_lowered ρ1 0 [r0, r1] = some outs) (ex Φ b_lowered [some r0, some r1, none])) : runF Φ f_lowered [r0, r1] = some (r, outs) := fn_eq rfl rfl h
theorem rx_lowered {Φ : Phi} {r0 r1 : R} {Q : R → List R → Prop} (h : Ans (fun rr ρ1 => ∃ outs, outsL f_lowered ρ1 0 [r0, r1] = some outs ∧ Q rr outs) (ex Φ b_lowered [some r0, some r1, none])) : ∃ r outs, runF Φ f_lowered [r0, r1] = some (r, outs) ∧ Q r outs := fn_ans rfl rfl h
theorem ru_threshold {Φ : Phi} {r0 r1 r : R} {outs : List R} (h : Ans (fun rr ρ1 => rr = r ∧ outsL f_threshold ρ1 0 [r0, r1] = some outs) (ex Φ b_threshold [some r0, some r1, none, none])) : runF Φ f_threshold [r0, r1] = some (r, outs) := fn_eq rfl rfl h
theorem rx_threshold {Φ : Phi} {r0 r1 : R} {Q : R → List R → Prop} (h : Ans (fun rr ρ1 => ∃ outs, outsL f_threshold ρ1 0 [r0, r1] = some outs ∧ Q rr outs) (ex Φ b_threshold [some r0, some r1, none, none])) : ∃ r outs, runF Φ f_threshold [r0, r1] = some (r, outs) ∧ Q r outs := fn_ans rfl rfl h
theorem ru_row_above {Φ : Phi} {r0 r1 r : R} {outs : List R} (h : Ans (fun rr ρ1 => rr = r ∧ outsL f_row_above ρ1 0 [r0, r1] = some outs) (ex Φ b_row_above [some r0, some r1, none, none, none, none, none, none])) : runF Φ f_row_above [r0, r1] = some (r, outs) := fn_eq rfl rfl h
theorem rx_row_above {Φ : Phi} {r0 r1 : R} {Q : R → List R → Prop} (h : Ans (fun rr ρ1 => ∃ outs, outsL f_row_above ρ1 0 [r0, r1] = some outs ∧ Q rr outs) (ex Φ b_row_above [some r0, some r1, none, none, none, none, none, none])) : ∃ r outs, runF Φ f_row_above [r0, r1] = some (r, outs) ∧ Q r outs := fn_ans rfl rfl h
theorem ru_period_above {Φ : Phi} {r0 r1 r : R} {outs : List R} (h : Ans (fun rr ρ1 => rr = r ∧ outsL f_period_above ρ1 0 [r0, r1] = some outs) (ex Φ b_period_above [some r0, some r1])) : runF Φ f_period_above [r0, r1] = some (r, outs) := fn_eq rfl rfl h
theorem rx_period_above {Φ : Phi} {r0 r1 : R} {Q : R → List R → Prop} (h : Ans (fun rr ρ1 => ∃ outs, outsL f_period_above ρ1 0 [r0, r1] = some outs ∧ Q rr outs) (ex Φ b_period_above [some r0, some r1])) : ∃ r outs, runF Φ f_period_above [r0, r1] = some (r, outs) ∧ Q r outs := fn_ans rfl rfl h
theorem ru_does_double {Φ : Phi} {r0 r1 r : R} {outs : List R} (h : Ans (fun rr ρ1 => rr = r ∧ outsL f_does_double ρ1 0 [r0, r1] = some outs) (ex Φ b_does_double [some r0, some r1, none, none])) : runF Φ f_does_double [r0, r1] = some (r, outs) := fn_eq rfl rfl h
theorem rx_does_double {Φ : Phi} {r0 r1 : R} {Q : R → List R → Prop} (h : Ans (fun rr ρ1 => ∃ outs, outsL f_does_double ρ1 0 [r0, r1] = some outs ∧ Q rr outs) (ex Φ b_does_double [some r0, some r1, none, none])) : ∃ r outs, runF Φ f_does_double [r0, r1] = some (r, outs) ∧ Q r outs := fn_ans rfl rfl h
theorem ru_lowered_product {Φ : Phi} {r0 r1 r2 r : R} {outs : List R} (h : Ans (fun rr ρ1 => rr = r ∧ outsL f_lowered_product ρ1 0 [r0, r1, r2] = some outs) (ex Φ b_lowered_product [some r0, some r1, some r2, none, none, none, none])) : runF Φ f_lowered_product [r0, r1, r2] = some (r, outs) := fn_eq rfl rfl h
theorem rx_lowered_product {Φ : Phi} {r0 r1 r2 : R} {Q : R → List R → Prop} (h : Ans (fun rr ρ1 => ∃ outs, outsL f_lowered_product ρ1 0 [r0, r1, r2] = some outs ∧ Q rr outs) (ex Φ b_lowered_product [some r0, some r1, some r2, none, none, none, none])) : ∃ r outs, runF Φ f_lowered_product [r0, r1, r2] = some (r, outs) ∧ Q r outs := fn_ans rfl rfl h
theorem ru_is_bush_in {Φ : Phi} {r0 r : R} {outs : List R} (h : Ans (fun rr ρ1 => rr = r ∧ outsL f_is_bush_in ρ1 0 [r0] = some outs) (ex Φ b_is_bush_in [some r0])) : runF Φ f_is_bush_in [r0] = some (r, outs) := fn_eq rfl rfl h
theorem rx_is_bush_in {Φ : Phi} {r0 : R} {Q : R → List R → Prop} (h : Ans (fun rr ρ1 => ∃ outs, outsL f_is_bush_in ρ1 0 [r0] = some outs ∧ Q rr outs) (ex Φ b_is_bush_in [some r0])) : ∃ r outs, runF Φ f_is_bush_in [r0] = some (r, outs) ∧ Q r outs := fn_ans rfl rfl h
theorem ru_sure_bush {Φ : Phi} {r0 r : R} {outs : List R} (h : Ans (fun rr ρ1 => rr = r ∧ outsL f_sure_bush ρ1 0 [r0] = some outs) (ex Φ b_sure_bush [some r0, none])) : runF Φ f_sure_bush [r0] = some (r, outs) := fn_eq rfl rfl h
theorem rx_sure_bush {Φ : Phi} {r0 : R} {Q : R → List R → Prop} (h : Ans (fun rr ρ1 => ∃ outs, outsL f_sure_bush ρ1 0 [r0] = some outs ∧ Q rr outs) (ex Φ b_sure_bush [some r0, none])) : ∃ r outs, runF Φ f_sure_bush [r0] = some (r, outs) ∧ Q r outs := fn_ans rfl rfl h
theorem ru_worth_by {Φ : Phi} {r0 r1 r : R} {outs : List R} (h : Ans (fun rr ρ1 => rr = r ∧ outsL f_worth_by ρ1 0 [r0, r1] = some outs) (ex Φ b_worth_by [some r0, some r1])) : runF Φ f_worth_by [r0, r1] = some (r, outs) := fn_eq rfl rfl h
theorem rx_worth_by {Φ : Phi} {r0 r1 : R} {Q : R → List R → Prop} (h : Ans (fun rr ρ1 => ∃ outs, outsL f_worth_by ρ1 0 [r0, r1] = some outs ∧ Q rr outs) (ex Φ b_worth_by [some r0, some r1])) : ∃ r outs, runF Φ f_worth_by [r0, r1] = some (r, outs) ∧ Q r outs := fn_ans rfl rfl h
theorem ru_worth {Φ : Phi} {r0 r1 r : R} {outs : List R} (h : Ans (fun rr ρ1 => rr = r ∧ outsL f_worth ρ1 0 [r0, r1] = some outs) (ex Φ b_worth [some r0, some r1, none])) : runF Φ f_worth [r0, r1] = some (r, outs) := fn_eq rfl rfl h
theorem rx_worth {Φ : Phi} {r0 r1 : R} {Q : R → List R → Prop} (h : Ans (fun rr ρ1 => ∃ outs, outsL f_worth ρ1 0 [r0, r1] = some outs ∧ Q rr outs) (ex Φ b_worth [some r0, some r1, none])) : ∃ r outs, runF Φ f_worth [r0, r1] = some (r, outs) ∧ Q r outs := fn_ans rfl rfl h
theorem ru_worths {Φ : Phi} {r0 r1 r : R} {outs : List R} (h : Ans (fun rr ρ1 => rr = r ∧ outsL f_worths ρ1 0 [r0, r1] = some outs) (ex Φ b_worths [some r0, some r1, none, none])) : runF Φ f_worths [r0, r1] = some (r, outs) := fn_eq rfl rfl h
theorem rx_worths {Φ : Phi} {r0 r1 : R} {Q : R → List R → Prop} (h : Ans (fun rr ρ1 => ∃ outs, outsL f_worths ρ1 0 [r0, r1] = some outs ∧ Q rr outs) (ex Φ b_worths [some r0, some r1, none, none])) : ∃ r outs, runF Φ f_worths [r0, r1] = some (r, outs) ∧ Q r outs := fn_ans rfl rfl h
theorem ru__law_box {Φ : Phi} {r0 r1 r : R} {outs : List R} (h : Ans (fun rr ρ1 => rr = r ∧ outsL f__law_box ρ1 0 [r0, r1] = some outs) (ex Φ b__law_box [some r0, some r1, none])) : runF Φ f__law_box [r0, r1] = some (r, outs) := fn_eq rfl rfl h
theorem rx__law_box {Φ : Phi} {r0 r1 : R} {Q : R → List R → Prop} (h : Ans (fun rr ρ1 => ∃ outs, outsL f__law_box ρ1 0 [r0, r1] = some outs ∧ Q rr outs) (ex Φ b__law_box [some r0, some r1, none])) : ∃ r outs, runF Φ f__law_box [r0, r1] = some (r, outs) ∧ Q r outs := fn_ans rfl rfl h
theorem ru__law_take {Φ : Phi} {r0 r1 r : R} {outs : List R} (h : Ans (fun rr ρ1 => rr = r ∧ outsL f__law_take ρ1 0 [r0, r1] = some outs) (ex Φ b__law_take [some r0, some r1, none, none, none, none])) : runF Φ f__law_take [r0, r1] = some (r, outs) := fn_eq rfl rfl h
theorem rx__law_take {Φ : Phi} {r0 r1 : R} {Q : R → List R → Prop} (h : Ans (fun rr ρ1 => ∃ outs, outsL f__law_take ρ1 0 [r0, r1] = some outs ∧ Q rr outs) (ex Φ b__law_take [some r0, some r1, none, none, none, none])) : ∃ r outs, runF Φ f__law_take [r0, r1] = some (r, outs) ∧ Q r outs := fn_ans rfl rfl h
theorem ru__law_cells {Φ : Phi} {r0 r1 r : R} {outs : List R} (h : Ans (fun rr ρ1 => rr = r ∧ outsL f__law_cells ρ1 0 [r0, r1] = some outs) (ex Φ b__law_cells [some r0, some r1, none, none, none, none])) : runF Φ f__law_cells [r0, r1] = some (r, outs) := fn_eq rfl rfl h
theorem rx__law_cells {Φ : Phi} {r0 r1 : R} {Q : R → List R → Prop} (h : Ans (fun rr ρ1 => ∃ outs, outsL f__law_cells ρ1 0 [r0, r1] = some outs ∧ Q rr outs) (ex Φ b__law_cells [some r0, some r1, none, none, none, none])) : ∃ r outs, runF Φ f__law_cells [r0, r1] = some (r, outs) ∧ Q r outs := fn_ans rfl rfl h
theorem ru__law_of {Φ : Phi} {r0 r1 r : R} {outs : List R} (h : Ans (fun rr ρ1 => rr = r ∧ outsL f__law_of ρ1 0 [r0, r1] = some outs) (ex Φ b__law_of [some r0, some r1])) : runF Φ f__law_of [r0, r1] = some (r, outs) := fn_eq rfl rfl h
theorem rx__law_of {Φ : Phi} {r0 r1 : R} {Q : R → List R → Prop} (h : Ans (fun rr ρ1 => ∃ outs, outsL f__law_of ρ1 0 [r0, r1] = some outs ∧ Q rr outs) (ex Φ b__law_of [some r0, some r1])) : ∃ r outs, runF Φ f__law_of [r0, r1] = some (r, outs) ∧ Q r outs := fn_ans rfl rfl h
theorem ru__law_same {Φ : Phi} {r0 r1 r : R} {outs : List R} (h : Ans (fun rr ρ1 => rr = r ∧ outsL f__law_same ρ1 0 [r0, r1] = some outs) (ex Φ b__law_same [some r0, some r1, none, none])) : runF Φ f__law_same [r0, r1] = some (r, outs) := fn_eq rfl rfl h
theorem rx__law_same {Φ : Phi} {r0 r1 : R} {Q : R → List R → Prop} (h : Ans (fun rr ρ1 => ∃ outs, outsL f__law_same ρ1 0 [r0, r1] = some outs ∧ Q rr outs) (ex Φ b__law_same [some r0, some r1, none, none])) : ∃ r outs, runF Φ f__law_same [r0, r1] = some (r, outs) ∧ Q r outs := fn_ans rfl rfl h
theorem ru__law_set {Φ : Phi} {r0 r : R} {outs : List R} (h : Ans (fun rr ρ1 => rr = r ∧ outsL f__law_set ρ1 0 [r0] = some outs) (ex Φ b__law_set [some r0])) : runF Φ f__law_set [r0] = some (r, outs) := fn_eq rfl rfl h
theorem rx__law_set {Φ : Phi} {r0 : R} {Q : R → List R → Prop} (h : Ans (fun rr ρ1 => ∃ outs, outsL f__law_set ρ1 0 [r0] = some outs ∧ Q rr outs) (ex Φ b__law_set [some r0])) : ∃ r outs, runF Φ f__law_set [r0] = some (r, outs) ∧ Q r outs := fn_ans rfl rfl h
theorem ru__law_net {Φ : Phi} {r0 r1 r : R} {outs : List R} (h : Ans (fun rr ρ1 => rr = r ∧ outsL f__law_net ρ1 0 [r0, r1] = some outs) (ex Φ b__law_net [some r0, some r1, none, none, none])) : runF Φ f__law_net [r0, r1] = some (r, outs) := fn_eq rfl rfl h
theorem rx__law_net {Φ : Phi} {r0 r1 : R} {Q : R → List R → Prop} (h : Ans (fun rr ρ1 => ∃ outs, outsL f__law_net ρ1 0 [r0, r1] = some outs ∧ Q rr outs) (ex Φ b__law_net [some r0, some r1, none, none, none])) : ∃ r outs, runF Φ f__law_net [r0, r1] = some (r, outs) ∧ Q r outs := fn_ans rfl rfl h
theorem ru__law_more_right {Φ : Phi} {r0 r1 r2 r3 r4 r5 r6 r7 r8 r : R} {outs : List R} (h : Ans (fun rr ρ1 => rr = r ∧ outsL f__law_more_right ρ1 0 [r0, r1, r2, r3, r4, r5, r6, r7, r8] = some outs) (ex Φ b__law_more_right [some r0, some r1, some r2, some r3, some r4, some r5, some r6, some r7, some r8, none, none, none, none, none, none, none, none, none, none, none, none, none, none, none, none, none])) : runF Φ f__law_more_right [r0, r1, r2, r3, r4, r5, r6, r7, r8] = some (r, outs) := fn_eq rfl rfl h
theorem rx__law_more_right {Φ : Phi} {r0 r1 r2 r3 r4 r5 r6 r7 r8 : R} {Q : R → List R → Prop} (h : Ans (fun rr ρ1 => ∃ outs, outsL f__law_more_right ρ1 0 [r0, r1, r2, r3, r4, r5, r6, r7, r8] = some outs ∧ Q rr outs) (ex Φ b__law_more_right [some r0, some r1, some r2, some r3, some r4, some r5, some r6, some r7, some r8, none, none, none, none, none, none, none, none, none, none, none, none, none, none, none, none, none])) : ∃ r outs, runF Φ f__law_more_right [r0, r1, r2, r3, r4, r5, r6, r7, r8] = some (r, outs) ∧ Q r outs := fn_ans rfl rfl h
theorem ru__law_right {Φ : Phi} {r0 r : R} {outs : List R} (h : Ans (fun rr ρ1 => rr = r ∧ outsL f__law_right ρ1 0 [r0] = some outs) (ex Φ b__law_right [some r0, none, none, none, none, none, none, none, none, none, none, none, none, none, none, none, none, none, none, none, none, none, none, none])) : runF Φ f__law_right [r0] = some (r, outs) := fn_eq rfl rfl h
theorem rx__law_right {Φ : Phi} {r0 : R} {Q : R → List R → Prop} (h : Ans (fun rr ρ1 => ∃ outs, outsL f__law_right ρ1 0 [r0] = some outs ∧ Q rr outs) (ex Φ b__law_right [some r0, none, none, none, none, none, none, none, none, none, none, none, none, none, none, none, none, none, none, none, none, none, none, none])) : ∃ r outs, runF Φ f__law_right [r0] = some (r, outs) ∧ Q r outs := fn_ans rfl rfl h
theorem ru_law {Φ : Phi} {r0 r : R} {outs : List R} (h : Ans (fun rr ρ1 => rr = r ∧ outsL f_law ρ1 0 [r0] = some outs) (ex Φ b_law [some r0, none, none])) : runF Φ f_law [r0] = some (r, outs) := fn_eq rfl rfl h
theorem rx_law {Φ : Phi} {r0 : R} {Q : R → List R → Prop} (h : Ans (fun rr ρ1 => ∃ outs, outsL f_law ρ1 0 [r0] = some outs ∧ Q rr outs) (ex Φ b_law [some r0, none, none])) : ∃ r outs, runF Φ f_law [r0] = some (r, outs) ∧ Q r outs := fn_ans rfl rfl h
def progL : List (Str × Fn) := [(("is_number" : Str), f_is_number), (("is_among" : Str), f_is_among), (("is_from" : Str), f_is_from), (("is_long" : Str), f_is_long), (("tupled" : Str), f_tupled), (("is_just" : Str), f_is_just), (("sure_number" : Str), f_sure_number), (("sure_from" : Str), f_sure_from), (("rows_in" : Str), f_rows_in), (("product_in" : Str), f_product_in), (("sure_level" : Str), f_sure_level), (("sure_in" : Str), f_sure_in), (("sure_all_in" : Str), f_sure_all_in), (("whole_in" : Str), f_whole_in), (("times" : Str), f_times), (("table_row" : Str), f_table_row), (("period" : Str), f_period), (("whole_table" : Str), f_whole_table), (("sure_low" : Str), f_sure_low), (("made_in" : Str), f_made_in), (("sure_some" : Str), f_sure_some), (("copy_in" : Str), f_copy_in), (("made_by" : Str), f_made_by), (("copy_level" : Str), f_copy_level), (("copy_row" : Str), f_copy_row), (("is_copy_row" : Str), f_is_copy_row), (("makers" : Str), f_makers), (("how_many_make" : Str), f_how_many_make), (("do_make" : Str), f_do_make), (("both_in" : Str), f_both_in), (("both" : Str), f_both), (("both_table" : Str), f_both_table), (("folded" : Str), f_folded), (("both_times" : Str), f_both_times), (("fixed_by" : Str), f_fixed_by), (("sure_listed" : Str), f_sure_listed), (("periods" : Str), f_periods), (("divided" : Str), f_divided), (("sure_below" : Str), f_sure_below), (("lowered_in" : Str), f_lowered_in), (("threshold_in" : Str), f_threshold_in), (("lowered" : Str), f_lowered), (("threshold" : Str), f_threshold), (("row_above" : Str), f_row_above), (("period_above" : Str), f_period_above), (("does_double" : Str), f_does_double), (("lowered_product" : Str), f_lowered_product), (("is_bush_in" : Str), f_is_bush_in), (("sure_bush" : Str), f_sure_bush), (("worth_by" : Str), f_worth_by), (("worth" : Str), f_worth), (("worths" : Str), f_worths), (("_law_box" : Str), f__law_box), (("_law_take" : Str), f__law_take), (("_law_cells" : Str), f__law_cells), (("_law_of" : Str), f__law_of), (("_law_same" : Str), f__law_same), (("_law_set" : Str), f__law_set), (("_law_net" : Str), f__law_net), (("_law_more_right" : Str), f__law_more_right), (("_law_right" : Str), f__law_right), (("law" : Str), f_law)]
def prog (x : Str) : Option Fn := progL.lookup x
end Ir
namespace Ev
open PySem Pv L2
theorem c_product_in {k : Nat} {rs : List R} : Ph Ir.prog (k + 1) "product_in" rs = runF (Ph Ir.prog k) Ir.f_product_in rs := rfl
theorem c__law_right {k : Nat} {rs : List R} : Ph Ir.prog (k + 1) "_law_right" rs = runF (Ph Ir.prog k) Ir.f__law_right rs := rfl
theorem c__law_take {k : Nat} {rs : List R} : Ph Ir.prog (k + 1) "_law_take" rs = runF (Ph Ir.prog k) Ir.f__law_take rs := rfl
theorem c_is_number {k : Nat} {rs : List R} : Ph Ir.prog (k + 1) "is_number" rs = runF (Ph Ir.prog k) Ir.f_is_number rs := rfl
theorem c_is_among {k : Nat} {rs : List R} : Ph Ir.prog (k + 1) "is_among" rs = runF (Ph Ir.prog k) Ir.f_is_among rs := rfl
theorem e_product_in {k : Nat} {rows row : List D} {one other : Int} {d : D} (h1 : atI rows one = some (.list row)) (h2 : 0 < row.length) (h3 : atI row ((other - 1) % row.length) = some d) :
    Ph Ir.prog (k + 1) "product_in" [.v (.list rows), .v (.int one), .v (.int other)] = some (.v d, [.v (.list rows), .v (.int one), .v (.int other)]) := by
  have h2' : (0 : Int) < row.length := by omega
  rw [c_product_in]
  simp [runF, Ir.f_product_in, Ir.b_product_in, Fn.io, S.st, h1, h2, h2', h3]
theorem e_is_number {k : Nat} {z : Int} : Ph Ir.prog (k + 1) "is_number" [.v (.int z)] = some (.v (.bool true), [.v (.int z)]) := by
  rw [c_is_number]
  simp [runF, Ir.f_is_number, Ir.b_is_number, Fn.io, S.st, isiD]
theorem e_is_among {k : Nat} {z a b : Int} : Ph Ir.prog (k + 2) "is_among" [.v (.int z), .v (.int a), .v (.int b)] = some (.v (.bool (decide (a ≤ z ∧ z ≤ b))), [.v (.int z), .v (.int a), .v (.int b)]) := by
  rw [c_is_among]
  by_cases h : a ≤ z <;> simp [runF, Ir.f_is_among, Ir.b_is_among, Fn.io, S.st, isiD, e_is_number, h]
def TinI (c : Nat) (x y z : Int) : Prop := 0 ≤ x ∧ 0 ≤ y ∧ y < 4611686018427387904 ∧ 0 ≤ z ∧ z ≤ c
abbrev tinD (x y z : Int) : List D := [.int x, .int y, .int z]
theorem e__law_take {k c : Nat} {x y z b : Int} (hc : c < 1000000) (t : TinI c x y z) (hb : 0 < b) (hb2 : b < 1073741824) :
    ∃ v x' z', TinI (c + 1) x' y z' ∧ 0 ≤ v ∧ v < b ∧ Ph Ir.prog (k + 1) "_law_take" [.l (tinD x y z), .v (.int b)] = some (.v (.int v), [.l (tinD x' y z'), .v (.int b)]) := by
  obtain ⟨h1, h2, h3, h4, h5⟩ := t
  rw [c__law_take]
  by_cases hx : 0 < x
  · refine ⟨x % b, x / b, z, ⟨Int.ediv_nonneg h1 (by omega), h2, h3, h4, by omega⟩, Int.emod_nonneg _ (by omega), Int.emod_lt_of_pos _ hb, ?_⟩
    simp [runF, Ir.f__law_take, Ir.b__law_take, Fn.io, S.st, atI, ixN, hx, hb, hb2]
  · have k1 : -18446744073709551616 < 39373 + (z + 1) := by omega
    have k2 : 39373 + (z + 1) < 18446744073709551616 := by omega
    have k3 : ∀ u : Int, -18446744073709551616 < u % 40009 + 7 := fun u => by omega
    have k4 : ∀ u : Int, u % 40009 + 7 < 18446744073709551616 := fun u => by omega
    have w : ∀ u : Int, 0 ≤ u % b ∧ u % b < b := fun u => ⟨Int.emod_nonneg _ (by omega), Int.emod_lt_of_pos _ hb⟩
    have : ∃ v, 0 ≤ v ∧ v < b ∧ runF (Ph Ir.prog k) Ir.f__law_take [.l (tinD x y z), .v (.int b)] = some (.v (.int v), [.l (tinD x y (z + 1)), .v (.int b)]) := by
      simp [runF, Ir.f__law_take, Ir.b__law_take, Fn.io, S.st, atI, ixN, hx, hb, k1, k2, k3, k4]
      exact w _
    obtain ⟨v, v1, v2, e⟩ := this
    exact ⟨v, x, z + 1, ⟨h1, h2, h3, by omega, by omega⟩, v1, v2, e⟩
end Ev
namespace Ev
open PySem Pv L2
theorem c__law_cells {k : Nat} {rs : List R} : Ph Ir.prog (k + 1) "_law_cells" rs = runF (Ph Ir.prog k) Ir.f__law_cells rs := rfl
theorem c__law_box {k : Nat} {rs : List R} : Ph Ir.prog (k + 1) "_law_box" rs = runF (Ph Ir.prog k) Ir.f__law_box rs := rfl
theorem c_law {k : Nat} {rs : List R} : Ph Ir.prog (k + 1) "law" rs = runF (Ph Ir.prog k) Ir.f_law rs := rfl
def iL (ns : List Int) : List D := ns.map PyData.int
@[simp] theorem iL_len (ns : List Int) : (iL ns).length = ns.length := by simp [iL]
theorem iL_get {ns : List Int} {i : Nat} (h : i < ns.length) : (iL ns)[i]? = some (.int ns[i]) := by simp [iL, h]
@[simp] theorem iL_emp (ns : List Int) : (iL ns).isEmpty = ns.isEmpty := by cases ns <;> rfl
theorem e__law_cells {k : Nat} {ns : List Int} (hn : ns.length ≤ 63) : ∃ cs : List Int, cs.length ≤ 2 ∧ Ph Ir.prog (k + 1) "_law_cells" [.s ns, .v (.int 2)] = some (.l (iL cs), [.s ns, .v (.int 2)]) := by
  rw [c__law_cells]
  have hcut : cutA (iL ns) none (some 2) = iL (ns.take 2) := by rw [cut_take (by omega)]; unfold iL; rw [List.map_take]; rfl
  have hcut2 : cutA (iL ns) (some 2) (some 63) = iL ((ns.take 63).drop 2) := by rw [cut_both (by omega) (by omega)]; unfold iL; rw [List.map_drop, List.map_take]; rfl
  obtain ⟨c0, hc0, e0⟩ : ∃ c0 : List Int, (c0.length ≤ 2 ∧ (2 ≤ ns.length → c0.length = 2)) ∧ evE (Ph Ir.prog k) (.or_ (.bi .list (.cons (.slc (.var 0) .nob (.it (.var 1))) .nil)) (.lst (.cons (.num 0) .nil))) [some (.s ns), some (.v (.int 2)), none, none, none, none] = some (.l (iL c0), [some (.s ns), some (.v (.int 2)), none, none, none, none]) := by
    cases ns with
    | nil => exact ⟨[0], ⟨by simp, by simp⟩, by rfl⟩
    | cons a l => exact ⟨(a :: l).take 2, ⟨by simp; omega, by simp; omega⟩, by
      have hm : (a :: l).map PyData.int = iL (a :: l) := rfl
      simp [-List.map_cons, hm, hcut]⟩
  let f : D → Pv.Env → Option (Fl × Pv.Env) := fun d ρ => (bindT (.tp (.cons (.nm 3) (.cons (.nm 4) .nil))) d ρ).bind fun ρ2 => ex (Ph Ir.prog k) (.seq (.asg 5 (.bin .Mod (.bi .int (.cons (.var 3) .nil)) (.var 1))) (.seq (.setx 2 (.var 5) (.bin .Add (.idx (.var 2) (.var 5)) (.bin .Mult (.var 4) (.bin .Add (.var 3) (.num 2))))) .skip)) ρ2
  obtain ⟨ρ', e1, cs, o3, o4, o5, hcs, rfl⟩ := forL_turns (f := f) (fun _ ρ => ∃ (cs : List Int) (o3 o4 o5 : Option R), cs.length = c0.length ∧ ρ = [some (.s ns), some (.v (.int 2)), some (.l (iL cs)), o3, o4, o5]) (enumD (iL ((ns.take 63).drop 2))) 0
    [some (.s ns), some (.v (.int 2)), some (.l (iL c0)), none, none, none] ⟨c0, none, none, none, rfl, rfl⟩ (fun j d ρ hj ⟨cs, o3, o4, o5, hcs, hρ⟩ => by
      subst hρ
      obtain ⟨x, hx, rfl⟩ := enumD_get hj
      rw [iL, List.getElem?_map] at hx
      obtain ⟨z, hz, rfl⟩ := Option.map_eq_some_iff.mp hx
      have lt := (List.getElem?_eq_some_iff.mp hz).1
      rw [List.length_drop, List.length_take] at lt
      have l2 : cs.length = 2 := by rw [hcs]; exact hc0.2 (by omega)
      obtain ⟨u, v, rfl⟩ : ∃ u v, cs = [u, v] := by
        match cs, l2 with
        | [u, v], _ => exact ⟨u, v, rfl⟩
      have b1 : -18446744073709551616 < ((j : Nat) : Int) + 2 := by omega
      have b2 : ((j : Nat) : Int) + 2 < 18446744073709551616 := by omega
      rcases (by omega : ((j : Nat) : Int) % 2 = 0 ∨ ((j : Nat) : Int) % 2 = 1) with q | q
      · exact ⟨_, .inl (by simp [f, q, b1, b2, atI, ixN]; rfl), [u + z * (((j : Nat) : Int) + 2), v], _, _, _, hcs, rfl⟩
      · exact ⟨_, .inl (by simp [f, q, b1, b2, atI, ixN]; rfl), [u, v + z * (((j : Nat) : Int) + 2)], _, _, _, hcs, rfl⟩)
  refine ⟨cs, by omega, ?_⟩
  refine runF_of (ρ0 := [some (.s ns), some (.v (.int 2)), none, none, none, none]) (ρ1 := [some (.s ns), some (.v (.int 2)), none, o3, o4, o5]) rfl rfl (seq_n (asg_n e0) (seq_n (for_n (ρ1 := [some (.s ns), some (.v (.int 2)), some (.l (iL c0)), none, none, none]) ?_ e1) rfl)) rfl rfl
  have hm : ns.map PyData.int = iL ns := rfl
  simp [hm, hcut2]
theorem e__law_box {k : Nat} {cs : List Int} {i : Nat} (hi : i < cs.length) (hi2 : i < 100) : ∃ x y, 0 ≤ x ∧ 0 ≤ y ∧ y < 4611686018427387904 ∧ Ph Ir.prog (k + 1) "_law_box" [.l (iL cs), .v (.int i)] = some (.l [.int x, .int y, .int 0], [.l (iL cs), .v (.int i)]) := by
  rw [c__law_box]
  have h1 : atI (iL cs) (i : Int) = some (.int cs[i]) := by rw [at_nat rfl, iL_get hi]
  have h2 : (i : Int) < cs.length := by omega
  have b1 : -18446744073709551616 < (i : Int) := by omega
  have b2 : (i : Int) < 18446744073709551616 := by omega
  have k1 : ∀ u : Bool, -18446744073709551616 < (if u = true then (1 : Int) else 0) := fun u => by cases u <;> decide
  have k2 : ∀ u : Bool, (if u = true then (1 : Int) else 0) < 18446744073709551616 := fun u => by cases u <;> decide
  have p1 : 0 ≤ (if cs[i] < 0 then -cs[i] else cs[i]) := by split <;> omega
  have p2 : ∀ u : Bool, 0 ≤ (if u = true then (1 : Int) else 0) := fun u => by cases u <;> decide
  obtain ⟨A, hA⟩ : ∃ A, A = (if cs[i] < 0 then -cs[i] else cs[i]) := ⟨_, rfl⟩
  rw [← hA] at p1
  refine ⟨A * (if decide (10 ^ 18 ≤ A) = true then 1 else 0), cs[i] % 2305843009213693951 + 39373 * i + 9285094, Int.mul_nonneg p1 (p2 _), by omega, by omega, ?_⟩
  have e1 : evE (Ph Ir.prog k) (.ife (.tcmp .Lt (.var 1) (.bi .len (.cons (.var 0) .nil))) (.idx (.var 0) (.var 1)) (.num 0)) [some (.l (iL cs)), some (.v (.int i)), none] = some (.v (.int cs[i]), [some (.l (iL cs)), some (.v (.int i)), none]) := by
    simp [h1, h2, hi]
  refine runF_of (ρ0 := [some (.l (iL cs)), some (.v (.int i)), none]) (ρ1 := [some (.l (iL cs)), some (.v (.int i)), some (.v (.int cs[i]))]) rfl rfl (seq_n (asg_n e1) (ret_n ?_)) rfl rfl
  have z := k1 (decide (10 ^ 18 ≤ A))
  have z2 := k2 (decide (10 ^ 18 ≤ A))
  simp [← hA, b1, b2, okN]
  by_cases q : (1000000000000000000 : Int) ≤ A <;> simp [q]
theorem law_of {k : Nat} (HR : ∀ x y : Int, 0 ≤ x → 0 ≤ y → y < 4611686018427387904 → ∃ o, Ph Ir.prog (k + 1) "_law_right" [.l [.int x, .int y, .int 0]] = some (.v (.bool true), [o])) (ns : List Int) (hn : ns.length ≤ 63) :
    ∃ outs, Ph Ir.prog (k + 2) "law" [.s ns] = some (.v (.bool true), outs) := by
  obtain ⟨cs, hl, e1⟩ := e__law_cells (k := k) hn
  rw [c_law]
  have hc : compL (turnE (Ph Ir.prog (k + 1)) (.call "_law_right" (.cons (.call "_law_box" (.cons (.var 1) (.cons (.var 2) .nil))) .nil)) (.nm 2) .tyes) [2] (rngD 0 cs.length) [some (.s ns), some (.l (iL cs)), none] = some ((rngD 0 cs.length).map fun _ => .bool true, [some (.s ns), some (.l (iL cs)), none]) := by
    apply compL_all
    intro d hd
    obtain ⟨i, hi⟩ := List.getElem?_of_mem hd
    obtain rfl := rngD_get hi
    have lt := (List.getElem?_eq_some_iff.mp hi).1
    rw [rngD_len] at lt
    obtain ⟨x, y, h1, h2, h3, eb⟩ := e__law_box (k := k) (cs := cs) (i := i) (by omega) (by omega)
    obtain ⟨o, er⟩ := HR x y h1 h2 h3
    refine ⟨[some (.s ns), some (.l (iL cs)), some (.v (.int (0 + (i : Nat))))], ?_, rfl⟩
    simp [turnE, eb, er]
  refine ⟨[.s ns], runF_of (ρ0 := [some (.s ns), none, none]) (ρ1 := [some (.s ns), some (.l (iL cs)), none]) rfl rfl (seq_n (asg_n (call_n (as := [(.s ns, none), (.v (.int 2), none)]) (ρ1 := [some (.s ns), none, none]) (by simp) e1 rfl)) (ret_n ?_)) rfl rfl⟩
  have hb : boolsOf ((rngD 0 cs.length).map fun _ => PyData.bool true) = some ((rngD 0 cs.length).map fun _ => true) := by
    rw [show ((rngD 0 cs.length).map fun _ => PyData.bool true) = ((rngD 0 cs.length).map fun _ => true).map PyData.bool by simp]
    exact boolsOf_of _
  have hA : evE (Ph Ir.prog (k + 1)) (.comp (.call "_law_right" (.cons (.call "_law_box" (.cons (.var 1) (.cons (.var 2) .nil))) .nil)) (.nm 2) (.rng1 (.bi .len (.cons (.var 1) .nil))) .tyes [2]) [some (.s ns), some (.l (iL cs)), none] = some (.l ((rngD 0 cs.length).map fun _ => .bool true), [some (.s ns), some (.l (iL cs)), none]) :=
    comp_n (ρ1 := [some (.s ns), some (.l (iL cs)), none]) (rng1_n (j := cs.length) (o := .d (.int cs.length)) (by simp) rfl (by omega) (by omega)) (by rw [rngD_len]; omega) hc
  exact (all_n (by intro _; nofun) hA hb).trans (by simp)
end Ev
namespace Ev
open PySem Pv L2 Lv
theorem c_rows_in {k : Nat} {rs : List R} : Ph Ir.prog (k + 1) "rows_in" rs = runF (Ph Ir.prog k) Ir.f_rows_in rs := rfl
theorem pow_cast (n : Nat) : (2 : Int) ^ n = ((2 ^ n : Nat) : Int) := by simp
/-- the slots of rows_in in the while -/
def wEnv (n N i a j : Nat) (o : Option R) : Pv.Env := [some (.v (.int n)), some (.v (.int N)), some (.l (stg N i)), some (.v (.int a)), some (.l ((rowD N a).take (j + 1))), o, none]
theorem e_rows_in {k n : Nat} (hn : n ≤ 12) : Ph Ir.prog (k + 1) "rows_in" [.v (.int n)] = some (.l (rowsD (2 ^ n)), [.v (.int n)]) := by
  rw [c_rows_in]
  have hN1 : 1 ≤ 2 ^ n := Nat.one_le_two_pow
  have hN2 : 2 ^ n ≤ 4096 := pow_le12 hn
  have F := fine_pow n
  have hp := pow_cast n
  generalize 2 ^ n = N at *
  -- the empty rows
  have hcomp : evE (Ph Ir.prog k) (.comp (.lst .nil) (.nm 6) (.rng1 (.var 1)) .tyes [6]) [some (.v (.int n)), some (.v (.int N)), none, none, none, none, none] = some (.l ((rngD 0 N).map fun _ => .list []), [some (.v (.int n)), some (.v (.int N)), none, none, none, none, none]) := by
    refine comp_n (ρ1 := [some (.v (.int n)), some (.v (.int N)), none, none, none, none, none]) (ρ2 := [some (.v (.int n)), some (.v (.int N)), none, none, none, none, none]) (rng1_n (j := N) (o := .sl 1) (by simp) (by simp) (by omega) (by omega)) (by rw [rngD_len]; omega) ?_
    apply compL_all
    intro d _
    exact ⟨[some (.v (.int n)), some (.v (.int N)), none, none, none, none, some (.v d)], by simp [turnE, okN], rfl⟩
  have h0 : ((rngD 0 N).map fun _ => PyData.list []) ++ [.list (rngD 1 (N + 1))] = stg N 0 := by
    apply List.ext_getElem?
    intro m
    have l0 : ((rngD 0 N).map fun _ => PyData.list []).length = N := by rw [List.length_map, rngD_len]; omega
    have top : rngD 1 (N + 1) = rowD N N := by
      have e : per N N = N := per_of ⟨hN1, op_N, fun j h1 h2 => by rw [op_N]; exact h2⟩ (Nat.le_refl _)
      unfold rngD rowD
      rw [e, show ((N : Int) + 1 - 1).toNat = N by omega]
      apply List.map_congr_left
      intro i _
      rw [op_N, show (1 : Int) + (i : Nat) = ((i + 1 : Nat) : Int) by omega]
    by_cases hm : m < N
    · rw [List.getElem?_append_left (by omega), List.getElem?_map, rngD_at (by omega)]
      unfold stg
      rw [List.getElem?_map, List.getElem?_range (by omega)]
      show some _ = some (PyData.list (if N - 0 ≤ m then rowD N m else []))
      rw [if_neg (by omega)]
    · by_cases q : m = N
      · rw [q, List.getElem?_append_right (by omega), l0, Nat.sub_self, stg_at (Nat.le_refl _) (by omega), ← top]
        rfl
      · rw [List.getElem?_eq_none (by rw [List.length_append, l0]; simp; omega), List.getElem?_eq_none (by rw [stg_len]; omega)]
  -- one row
  let f : D → Pv.Env → Option (Fl × Pv.Env) := fun d ρ => (bindT (.nm 3) d ρ).bind fun ρ2 => ex (Ph Ir.prog k) (.seq (.asg 4 (.lst (.cons (.bin .Add (.var 3) (.num 1)) .nil))) (.seq (.while_ (.tcmp .NotEq (.idx (.var 4) (.neg (.num 1))) (.var 1)) (.seq (.asg 5 (.idx (.var 2) (.idx (.var 4) (.neg (.num 1))))) (.seq (.app 4 (.idx (.var 5) (.bin .Mod (.var 3) (.bi .len (.cons (.var 5) .nil))))) .skip))) (.seq (.setx 2 (.var 3) (.var 4)) .skip))) ρ2
  have hturn : ∀ i a : Nat, a = N - (i + 1) → 1 ≤ a → i + 1 ≤ N → ∀ o3 o4 o5 : Option R, ∃ o4' o5', f (.int a) [some (.v (.int n)), some (.v (.int N)), some (.l (stg N i)), o3, o4, o5, none] = some (.next, [some (.v (.int n)), some (.v (.int N)), some (.l (stg N (i + 1))), some (.v (.int a)), o4', o5', none]) := by
    intro i a ea ha hi o3 o4 o5
    have hlt : a < N := by omega
    obtain ⟨P, dv, pl⟩ := perP F ha (by omega)
    have pp := P.pos
    have tk : ∀ j, j < per N a → (rowD N a).take (j + 1) = (rowD N a).take j ++ [.int (op N a (j + 1) : Nat)] := fun j hj => by
      rw [List.take_add_one, rowD_at hj]
      rfl
    have lst : ∀ j, j < per N a → atI ((rowD N a).take (j + 1)) (-1) = some (.int (op N a (j + 1) : Nat)) := fun j hj => by
      rw [at_last, tk j hj, List.getLast?_append]
      rfl
    obtain ⟨ρ', ew, o5', hρ⟩ := while_turns (c := evT (Ph Ir.prog k) (.tcmp .NotEq (.idx (.var 4) (.neg (.num 1))) (.var 1))) (f := ex (Ph Ir.prog k) (.seq (.asg 5 (.idx (.var 2) (.idx (.var 4) (.neg (.num 1))))) (.seq (.app 4 (.idx (.var 5) (.bin .Mod (.var 3) (.bi .len (.cons (.var 5) .nil))))) .skip)))
      (fun j ρ => ∃ o, ρ = wEnv n N i a j o) (fun ρ => ∃ o, ρ = wEnv n N i a (per N a - 1) o) (per N a - 1) (fun j ρ hj ⟨o, hρ⟩ => by
        subst hρ
        have jl : j < per N a := by omega
        have y1 := op_gt hlt (b := j + 1) (by omega)
        have y2 := P.lt (j + 1) (by omega) (by omega)
        have hne : ¬ ((op N a (j + 1) : Nat) : Int) = (N : Int) := by omega
        refine ⟨wEnv n N i a j o, wEnv n N i a (j + 1) (some (.v (.list (rowD N (op N a (j + 1)))))), by simp [wEnv, lst j jl, hne], ?_, _, rfl⟩
        obtain ⟨Py, dvy, ply⟩ := perP F (a := op N a (j + 1)) (by omega) (by omega)
        have ppy := Py.pos
        have r1 : atI (stg N i) ((op N a (j + 1) : Nat) : Int) = some (.list (rowD N (op N a (j + 1)))) := by rw [at_nat rfl, stg_at (by omega) (by omega)]
        have r2 : atI (rowD N (op N a (j + 1))) ((a : Int) % (per N (op N a (j + 1)) : Nat)) = some (.int (op N a (j + 2) : Nat)) := by
          rw [at_nat (n := a % per N (op N a (j + 1))) (by omega), rowD_at (Nat.mod_lt _ ppy), op_mod F (by omega) (by omega) hlt, op_succ hlt (b := j + 1) (by omega)]
        have pi : (0 : Int) < (per N (op N a (j + 1)) : Nat) := by omega
        have ok : okN (min (j + 1) (per N a) + 1) = true := okN_t (by omega)
        have ppy0 : 0 < per N (op N a (j + 1)) := ppy
        refine seq_n (ρ1 := wEnv n N i a j (some (.v (.list (rowD N (op N a (j + 1))))))) (asg_n (ρ1 := wEnv n N i a j o) (r := .v (.list (rowD N (op N a (j + 1))))) (by simp [wEnv, lst j jl, r1])) (seq_n (ρ1 := wEnv n N i a (j + 1) (some (.v (.list (rowD N (op N a (j + 1))))))) ?_ rfl)
        have tk2 := tk (j + 1) (by omega)
        simp only [wEnv, tk2]
        simp [rowD_len, ppy0, r2, ok]) (fun ρ ⟨o, hρ⟩ => by
        subst hρ
        refine ⟨_, ?_, o, rfl⟩
        have e : op N a (per N a - 1 + 1) = N := by rw [show per N a - 1 + 1 = per N a by omega]; exact P.at_
        have z := lst (per N a - 1) (by omega)
        rw [e] at z
        simp [wEnv, z]) WF 0 (wEnv n N i a 0 o5) (Nat.zero_le _) (by unfold WF; omega) ⟨o5, rfl⟩
    subst hρ
    have full : (rowD N a).take (per N a - 1 + 1) = rowD N a := List.take_of_length_le (by rw [rowD_len]; omega)
    refine ⟨some (.v (.list (rowD N a))), o5', ?_⟩
    show ex _ _ [some (.v (.int n)), some (.v (.int N)), some (.l (stg N i)), some (.v (.int a)), o4, o5, none] = _
    have t1 : (rowD N a).take (0 + 1) = [.int ((a : Int) + 1)] := by
      rw [tk 0 pp, op_one hlt]
      rfl
    refine seq_n (ρ1 := wEnv n N i a 0 o5) (asg_n (ρ1 := [some (.v (.int n)), some (.v (.int N)), some (.l (stg N i)), some (.v (.int a)), o4, o5, none]) (r := .l ((rowD N a).take (0 + 1))) (by simp only [t1]; simp [okN])) (seq_n (whl_n ew) (seq_n ?_ rfl))
    have e2 : ixN (stg N i).length (a : Int) = some a := ix_nat rfl (by rw [stg_len]; omega)
    have e3 : (stg N i).set a (.list (rowD N a)) = stg N (i + 1) := by
      rw [ea]
      exact stg_set hi
    simp [wEnv, full, e2, e3]
  obtain ⟨ρ', ef, o3', o4', o5', hρ⟩ := forL_turns (f := f) (fun i ρ => ∃ o3 o4 o5, ρ = [some (.v (.int n)), some (.v (.int N)), some (.l (stg N i)), o3, o4, o5, none]) (rngC ((N : Int) - 1) (-1) (N - 1)) 0
    [some (.v (.int n)), some (.v (.int N)), some (.l (stg N 0)), none, none, none, none] ⟨_, _, _, rfl⟩ (fun j d ρ hj ⟨o3, o4, o5, hρ⟩ => by
      subst hρ
      have lt := (List.getElem?_eq_some_iff.mp hj).1
      rw [rngC_len] at lt
      rw [rngC_at lt] at hj
      cases hj
      obtain ⟨o4', o5', e⟩ := hturn j (N - (j + 1)) rfl (by omega) (by omega) o3 o4 o5
      rw [show (((N - (j + 1) : Nat)) : Int) = (N : Int) - 1 - (j : Nat) by omega] at e
      rw [Nat.zero_add]
      exact ⟨_, .inl e, _, _, _, rfl⟩)
  subst hρ
  rw [rngC_len, Nat.zero_add] at ef
  refine runF_of (ρ0 := [some (.v (.int n)), none, none, none, none, none, none]) (ρ1 := [some (.v (.int n)), some (.v (.int N)), none, o3', o4', o5', none]) rfl rfl (seq_n (asg_n (ρ1 := [some (.v (.int n)), none, none, none, none, none, none]) (r := .v (.int N)) ?_)
    (seq_n (asg_n (ρ1 := [some (.v (.int n)), some (.v (.int N)), none, none, none, none, none]) (r := .l (stg N 0)) ?_) (seq_n (for_n (ρ1 := [some (.v (.int n)), some (.v (.int N)), some (.l (stg N 0)), none, none, none, none]) (ds := rngC ((N : Int) - 1) (-1) (N - 1)) ?_ ef) rfl))) rfl rfl
  · have b1 : (n : Int) ≤ 1000000 := by omega
    simp [b1, hp]
  · have z := rng2_n (Φ := Ph Ir.prog k) (a := .num 1) (b := .bin .Add (.var 1) (.num 1)) (ρ := [some (.v (.int n)), some (.v (.int N)), none, none, none, none, none]) (i := 1) (j := (N : Int) + 1) (ρ1 := [some (.v (.int n)), some (.v (.int N)), none, none, none, none, none]) (ρ2 := [some (.v (.int n)), some (.v (.int N)), none, none, none, none, none])
      (o := .d (.int 1)) (p := .d (.int ((N : Int) + 1))) (by simp) (by simp) rfl rfl (by omega) (by omega) (by omega) (by omega)
    have hl1 : (rngD 1 ((N : Int) + 1)).length ≤ 16777216 := by rw [rngD_len]; omega
    have hl2 : ((rngD 0 N).map fun _ => PyData.list []).length + [PyData.list (rngD 1 ((N : Int) + 1))].length ≤ 16777216 := by rw [List.length_map, rngD_len]; simp; omega
    rw [← h0]
    exact bin_n (opd_n (by intro _; nofun) hcomp rfl) (opd_n (by intro _; nofun) (lst1_n (lrg_n z hl1) rfl) rfl) rfl rfl (cat_n hl2)
  · have z := rng3_n (Φ := Ph Ir.prog k) (a := .bin .Sub (.var 1) (.num 1)) (b := .num 0) (c := .neg (.num 1)) (ρ := [some (.v (.int n)), some (.v (.int N)), some (.l (stg N 0)), none, none, none, none]) (i := (N : Int) - 1) (j := 0) (ρ1 := [some (.v (.int n)), some (.v (.int N)), some (.l (stg N 0)), none, none, none, none]) (ρ2 := [some (.v (.int n)), some (.v (.int N)), some (.l (stg N 0)), none, none, none, none]) (ρ3 := [some (.v (.int n)), some (.v (.int N)), some (.l (stg N 0)), none, none, none, none]) (o := .d (.int ((N : Int) - 1))) (p := .d (.int 0)) (u := .d (.int (-1))) (by simp) (by simp) (by simp) rfl rfl rfl (by omega) (by omega) (by omega) (by omega)
    rw [show ((N : Int) - 1 - 0).toNat = N - 1 by omega] at z
    exact z
end Ev
namespace Ev
open PySem Pv L2 Lv
abbrev iv (a : Nat) : R := .v (.int a)
/-- the rows, own or not -/
def RowsR (N : Nat) (r : R) : Prop := r = .v (.list (rowsD N)) ∨ r = .l (rowsD N)
theorem emod_cast (a b : Nat) : ((a % b : Nat) : Int) = (a : Int) % (b : Int) := by simp
theorem c_sure_number {k : Nat} {rs : List R} : Ph Ir.prog (k + 1) "sure_number" rs = runF (Ph Ir.prog k) Ir.f_sure_number rs := rfl
theorem c_sure_level {k : Nat} {rs : List R} : Ph Ir.prog (k + 1) "sure_level" rs = runF (Ph Ir.prog k) Ir.f_sure_level rs := rfl
theorem c_sure_in {k : Nat} {rs : List R} : Ph Ir.prog (k + 1) "sure_in" rs = runF (Ph Ir.prog k) Ir.f_sure_in rs := rfl
theorem c_both_in {k : Nat} {rs : List R} : Ph Ir.prog (k + 1) "both_in" rs = runF (Ph Ir.prog k) Ir.f_both_in rs := rfl
theorem c_both {k : Nat} {rs : List R} : Ph Ir.prog (k + 1) "both" rs = runF (Ph Ir.prog k) Ir.f_both rs := rfl
theorem c_times {k : Nat} {rs : List R} : Ph Ir.prog (k + 1) "times" rs = runF (Ph Ir.prog k) Ir.f_times rs := rfl
theorem e_sure_number {k : Nat} {z a b : Int} (h1 : a ≤ z) (h2 : z ≤ b) : Ph Ir.prog (k + 3) "sure_number" [.v (.int z), .v (.int a), .v (.int b)] = some (.v (.int z), [.v (.int z), .v (.int a), .v (.int b)]) := by
  rw [c_sure_number]
  simp [runF, Ir.f_sure_number, Ir.b_sure_number, Fn.io, S.st, e_is_among, h1, h2]
theorem e_sure_level {k n : Nat} (hn : n ≤ 12) : Ph Ir.prog (k + 4) "sure_level" [iv n] = some (iv n, [iv n]) := by
  rw [c_sure_level]
  have h1 : (0 : Int) ≤ n := by omega
  have h2 : (n : Int) ≤ 12 := by omega
  simp [runF, Ir.f_sure_level, Ir.b_sure_level, Fn.io, S.st, e_sure_number, h1, h2]
theorem e_sure_in {k n a : Nat} (hn : n ≤ 12) (h1 : 1 ≤ a) (h2 : a ≤ 2 ^ n) : Ph Ir.prog (k + 4) "sure_in" [iv n, iv a] = some (iv a, [iv n, iv a]) := by
  rw [c_sure_in]
  have b1 : (n : Int) ≤ 1000000 := by omega
  have k1 : (1 : Int) ≤ a := by omega
  have k2 : (a : Int) ≤ 2 ^ n := by rw [pow_cast]; omega
  simp [runF, Ir.f_sure_in, Ir.b_sure_in, Fn.io, S.st, e_sure_number, b1, k1, k2]
section
variable {k n a b : Nat} {r : R}
theorem e_prod {N : Nat} (F : Fine N) (hr : RowsR N r) (ha : 1 ≤ a) (ha2 : a ≤ N) (hb : 1 ≤ b) (hb2 : b ≤ N) : Ph Ir.prog (k + 1) "product_in" [r, iv a, iv b] = some (iv (op N a b), [r, iv a, iv b]) := by
  rw [c_product_in]
  obtain ⟨P, _, pl⟩ := perP F ha ha2
  have h1 : atI (rowsD N) (a : Int) = some (.list (rowD N a)) := by rw [at_nat rfl, rowsD_at ha ha2]
  have h3 : atI (rowD N a) (((b : Int) - 1) % (per N a : Nat)) = some (.int (op N a b : Nat)) := by
    rw [at_nat (n := (b - 1) % per N a) (by rw [emod_cast, show ((b - 1 : Nat) : Int) = (b : Int) - 1 by omega]), rowD_at (Nat.mod_lt _ P.pos), op_mod F ha ha2 (by omega), show b - 1 + 1 = b by omega]
  have ppos : 0 < per N a := P.pos
  rcases hr with rfl | rfl <;> simp [runF, Ir.f_product_in, Ir.b_product_in, Fn.io, S.st, h1, h3, rowD_len, ppos]
theorem pv_int {N y : Nat} (hN : 1 ≤ N) (hy : 1 ≤ y) : ((y : Int) - 2) % (N : Int) + 1 = (Lv.pv N y : Nat) := by
  unfold Lv.pv
  rw [Int.natCast_add, emod_cast, show ((y + N - 2 : Nat) : Int) = (y : Int) - 2 + N by omega, Int.add_emod_right]
  rfl
theorem nx_int {N y : Nat} : (y : Int) % (N : Int) + 1 = (nx N y : Nat) := by
  unfold nx
  rw [Int.natCast_add, emod_cast]
  rfl
theorem e_both_in (hn : n ≤ 12) (hr : RowsR (2 ^ n) r) (ha : 1 ≤ a) (ha2 : a ≤ 2 ^ n) : Ph Ir.prog (k + 2) "both_in" [iv n, r, iv a, iv b] = some (iv (co (2 ^ n) a b), [iv n, r, iv a, iv b]) := by
  rw [c_both_in]
  have b1 : (n : Int) ≤ 1000000 := by omega
  have hN : 1 ≤ 2 ^ n := Nat.one_le_two_pow
  have F := fine_pow n
  have hp := pow_cast n
  unfold co
  generalize 2 ^ n = N at *
  have e := e_prod (k := k) (b := nx N b) F hr ha ha2 (nx_pos hN) (nx_le hN)
  have z := pv_int hN (op_pos ha ha2 (nx_pos hN (x := b)))
  have hN0 : 0 < N := hN
  rcases hr with rfl | rfl <;> simp [runF, Ir.f_both_in, Ir.b_both_in, Fn.io, S.st, b1, hp, nx_int, e, z, hN0]
theorem e_both (hn : n ≤ 12) (ha : 1 ≤ a) (ha2 : a ≤ 2 ^ n) (hb : 1 ≤ b) (hb2 : b ≤ 2 ^ n) : Ph Ir.prog (k + 5) "both" [iv n, iv a, iv b] = some (iv (co (2 ^ n) a b), [iv n, iv a, iv b]) := by
  rw [c_both]
  have e1 := e_sure_level (k := k) hn
  have e2 := e_sure_in (k := k) hn ha ha2
  have e3 := e_sure_in (k := k) hn hb hb2
  have e4 := e_rows_in (k := k + 3) hn
  have e5 := e_both_in (k := k + 2) (b := b) hn (.inr rfl) ha ha2
  simp [runF, Ir.f_both, Ir.b_both, Fn.io, S.st, e1, e2, e3, e4, e5]
theorem e_times (hn : n ≤ 12) (ha : 1 ≤ a) (ha2 : a ≤ 2 ^ n) (hb : 1 ≤ b) (hb2 : b ≤ 2 ^ n) : Ph Ir.prog (k + 5) "times" [iv n, iv a, iv b] = some (iv (op (2 ^ n) a b), [iv n, iv a, iv b]) := by
  rw [c_times]
  have e1 := e_sure_level (k := k) hn
  have e2 := e_sure_in (k := k) hn ha ha2
  have e3 := e_sure_in (k := k) hn hb hb2
  have e4 := e_rows_in (k := k + 3) hn
  have e5 := e_prod (k := k + 3) (fine_pow n) (.inr rfl) ha ha2 hb hb2
  simp [runF, Ir.f_times, Ir.b_times, Fn.io, S.st, e1, e2, e3, e4, e5]
end
end Ev
namespace Ev
open PySem Pv L2 Lv
theorem c_table_row {k : Nat} {rs : List R} : Ph Ir.prog (k + 1) "table_row" rs = runF (Ph Ir.prog k) Ir.f_table_row rs := rfl
theorem c_period {k : Nat} {rs : List R} : Ph Ir.prog (k + 1) "period" rs = runF (Ph Ir.prog k) Ir.f_period rs := rfl
theorem c_sure_below {k : Nat} {rs : List R} : Ph Ir.prog (k + 1) "sure_below" rs = runF (Ph Ir.prog k) Ir.f_sure_below rs := rfl
theorem c_lowered_in {k : Nat} {rs : List R} : Ph Ir.prog (k + 1) "lowered_in" rs = runF (Ph Ir.prog k) Ir.f_lowered_in rs := rfl
theorem c_lowered {k : Nat} {rs : List R} : Ph Ir.prog (k + 1) "lowered" rs = runF (Ph Ir.prog k) Ir.f_lowered rs := rfl
theorem c_folded {k : Nat} {rs : List R} : Ph Ir.prog (k + 1) "folded" rs = runF (Ph Ir.prog k) Ir.f_folded rs := rfl
theorem c_both_times {k : Nat} {rs : List R} : Ph Ir.prog (k + 1) "both_times" rs = runF (Ph Ir.prog k) Ir.f_both_times rs := rfl
theorem c_sure_all_in {k : Nat} {rs : List R} : Ph Ir.prog (k + 1) "sure_all_in" rs = runF (Ph Ir.prog k) Ir.f_sure_all_in rs := rfl
theorem c_tupled {k : Nat} {rs : List R} : Ph Ir.prog (k + 1) "tupled" rs = runF (Ph Ir.prog k) Ir.f_tupled rs := rfl
abbrev nL (l : List Nat) : List D := l.map fun x => .int (x : Nat)
section
variable {k n a b c : Nat}
theorem e_table_row (hn : n ≤ 12) (ha : 1 ≤ a) (ha2 : a ≤ 2 ^ n) : Ph Ir.prog (k + 5) "table_row" [iv n, iv a] = some (.v (.tuple (rowD (2 ^ n) a)), [iv n, iv a]) := by
  rw [c_table_row]
  have e1 := e_sure_level (k := k) hn
  have e2 := e_sure_in (k := k) hn ha ha2
  have e4 := e_rows_in (k := k + 3) hn
  have h1 : atI (rowsD (2 ^ n)) (a : Int) = some (.list (rowD (2 ^ n) a)) := by rw [at_nat rfl, rowsD_at ha ha2]
  simp [runF, Ir.f_table_row, Ir.b_table_row, Fn.io, S.st, e1, e2, e4, h1]
theorem e_period (hn : n ≤ 12) (ha : 1 ≤ a) (ha2 : a ≤ 2 ^ n) : Ph Ir.prog (k + 6) "period" [iv n, iv a] = some (iv (per (2 ^ n) a), [iv n, iv a]) := by
  rw [c_period]
  have e1 := e_table_row (k := k) hn ha ha2
  simp [runF, Ir.f_period, Ir.b_period, Fn.io, S.st, e1, rowD_len]
theorem e_lowered {m : Nat} (hm : m ≤ 11) (ha : 1 ≤ a) (ha2 : a ≤ 4096) : Ph Ir.prog (k + 5) "lowered" [iv m, iv a] = some (iv (pr (2 ^ m) a), [iv m, iv a]) := by
  rw [c_lowered]
  have b1 : (0 : Int) ≤ m := by omega
  have b2 : (m : Int) ≤ 11 := by omega
  have b3 : (1 : Int) ≤ a := by omega
  have b4 : (a : Int) ≤ 4096 := by omega
  have b5 : (m : Int) ≤ 1000000 := by omega
  have e1 : Ph Ir.prog (k + 4) "sure_below" [iv m] = some (iv m, [iv m]) := by
    rw [c_sure_below]
    simp [runF, Ir.f_sure_below, Ir.b_sure_below, Fn.io, S.st, e_sure_number, b1, b2]
  have e2 : Ph Ir.prog (k + 4) "lowered_in" [iv m, iv a] = some (iv (pr (2 ^ m) a), [iv m, iv a]) := by
    rw [c_lowered_in]
    have hN : 1 ≤ 2 ^ m := Nat.one_le_two_pow
    have hp := pow_cast m
    have z : ((a : Int) - 1) % (2 ^ m : Nat) + 1 = (pr (2 ^ m) a : Nat) := by
      unfold pr
      rw [Int.natCast_add, emod_cast, show ((a - 1 : Nat) : Int) = (a : Int) - 1 by omega]
      rfl
    have h0 : (0 : Int) < (2 ^ m : Nat) := by omega
    rw [← hp] at z h0
    simp [runF, Ir.f_lowered_in, Ir.b_lowered_in, Fn.io, S.st, b5, z, h0]
  simp [runF, Ir.f_lowered, Ir.b_lowered, Fn.io, S.st, e1, e2, e_sure_number, b3, b4]
/-- fold -/
def fl (N : Nat) (l : List Nat) : Nat := l.foldl (co N) N
theorem fl_rng {N : Nat} (hN : 1 ≤ N) (l : List Nat) : ∀ y, 1 ≤ y → y ≤ N → 1 ≤ l.foldl (co N) y ∧ l.foldl (co N) y ≤ N := by
  induction l with
  | nil => exact fun y h1 h2 => ⟨h1, h2⟩
  | cons x l ih => exact fun y h1 h2 => ih _ (co_pos hN) (co_le hN)
theorem e_folded (hn : n ≤ 12) (l : List Nat) (hl : ∀ x ∈ l, 1 ≤ x ∧ x ≤ 2 ^ n) (r : R) (hr : r = .v (.tuple (nL l)) ∨ r = .l (nL l)) : ∃ r', Ph Ir.prog (k + 3) "folded" [iv n, r] = some (iv (fl (2 ^ n) l), [iv n, r']) := by
  rw [c_folded]
  have hN : 1 ≤ 2 ^ n := Nat.one_le_two_pow
  have e4 := e_rows_in (k := k + 1) hn
  have b1 : (n : Int) ≤ 1000000 := by omega
  have hp := pow_cast n
  let f : D → Pv.Env → Option (Fl × Pv.Env) := fun d ρ => (bindT (.nm 4) d ρ).bind fun ρ2 => ex (Ph Ir.prog (k + 2)) (.seq (.asg 3 (.call "both_in" (.cons (.var 0) (.cons (.var 2) (.cons (.var 3) (.cons (.var 4) .nil)))))) .skip) ρ2
  have loop : ∀ (r1 : R) (l : List Nat) (y : Nat) (o : Option R), 1 ≤ y → y ≤ 2 ^ n → ∃ o', forL f (nL l) [some (iv n), some r1, some (.l (rowsD (2 ^ n))), some (iv y), o] = some (.next, [some (iv n), some r1, some (.l (rowsD (2 ^ n))), some (iv (l.foldl (co (2 ^ n)) y)), o']) := by
    intro r1 l
    induction l with
    | nil => exact fun y o _ _ => ⟨o, rfl⟩
    | cons x l ih =>
      intro y o h1 h2
      obtain ⟨o', e⟩ := ih (co (2 ^ n) y x) (some (iv x)) (co_pos hN) (co_le hN)
      refine ⟨o', ?_⟩
      show (f _ _).bind _ = _
      have e5 := e_both_in (k := k) (b := x) hn (.inr rfl) h1 h2
      have e6 : f (.int x) [some (iv n), some r1, some (.l (rowsD (2 ^ n))), some (iv y), o] = some (.next, [some (iv n), some r1, some (.l (rowsD (2 ^ n))), some (iv (co (2 ^ n) y x)), some (iv x)]) := by
        simp [f, e5]
      rw [e6]
      exact e
  rcases hr with rfl | rfl
  · obtain ⟨o', e⟩ := loop (.v (.tuple (nL l))) l (2 ^ n) none hN (Nat.le_refl _)
    refine ⟨_, runF_of (ρ0 := [some (iv n), some (.v (.tuple (nL l))), none, none, none]) rfl rfl (seq_n (asg_n (ρ1 := [some (iv n), some (.v (.tuple (nL l))), none, none, none]) (r := .l (rowsD (2 ^ n))) (by simp [e4])) (seq_n (asg_n (ρ1 := [some (iv n), some (.v (.tuple (nL l))), some (.l (rowsD (2 ^ n))), none, none]) (r := iv (2 ^ n)) (by simp [b1])) (seq_n (for_n (ρ1 := [some (iv n), some (.v (.tuple (nL l))), some (.l (rowsD (2 ^ n))), some (iv (2 ^ n)), none]) (ds := nL l) (by simp [seqD]) e) rfl))) rfl rfl⟩
  · obtain ⟨o', e⟩ := loop (.v (.list (nL l))) l (2 ^ n) none hN (Nat.le_refl _)
    refine ⟨_, runF_of (ρ0 := [some (iv n), some (.l (nL l)), none, none, none]) rfl rfl (seq_n (asg_n (ρ1 := [some (iv n), some (.l (nL l)), none, none, none]) (r := .l (rowsD (2 ^ n))) (by simp [e4])) (seq_n (asg_n (ρ1 := [some (iv n), some (.l (nL l)), some (.l (rowsD (2 ^ n))), none, none]) (r := iv (2 ^ n)) (by simp [b1])) (seq_n (for_n (ρ1 := [some (iv n), some (.v (.list (nL l))), some (.l (rowsD (2 ^ n))), some (iv (2 ^ n)), none]) (ds := nL l) (by simp [seqD]) e) rfl))) rfl rfl⟩
theorem rep_flat (x : D) (m : Nat) : (List.replicate ((m : Nat) : Int).toNat [x]).flatten = List.replicate m x := by
  rw [Int.toNat_natCast]
  induction m with
  | zero => rfl
  | succ m ih => rw [List.replicate_succ, List.flatten_cons, ih, List.replicate_succ]; rfl
theorem e_both_times {m : Nat} (hn : n ≤ 12) (ha : 1 ≤ a) (ha2 : a ≤ 2 ^ n) (hm : m ≤ 1000) : Ph Ir.prog (k + 5) "both_times" [iv n, iv a, iv m] = some (iv (fl (2 ^ n) (List.replicate m a)), [iv n, iv a, iv m]) := by
  rw [c_both_times]
  have e1 := e_sure_level (k := k) hn
  have e2 := e_sure_in (k := k) hn ha ha2
  have b1 : (0 : Int) ≤ m := by omega
  have b2 : (m : Int) ≤ 1000 := by omega
  have e3 := e_sure_number (k := k + 1) b1 b2
  obtain ⟨r', e5⟩ := e_folded (k := k + 1) hn (List.replicate m a) (fun x hx => by rw [List.eq_of_mem_replicate hx]; exact ⟨ha, ha2⟩) _ (.inr rfl)
  have hrep : binD .Mult (.list [.int a]) (.int m) = some (.l (nL (List.replicate m a))) := by
    have h1 : in62 (m : Int) = true := in62_of (by omega) (by omega)
    have h2 : okN ([PyData.int (a : Int)].length * ((m : Nat) : Int).toNat) = true := okN_t (by simp; omega)
    rw [bd_rep, if_pos ⟨h1, h2⟩, rep_flat, nL, List.map_replicate]
  simp only [nL, List.map_replicate] at hrep e5
  simp [runF, Ir.f_both_times, Ir.b_both_times, Fn.io, S.st, e1, e2, e3, hrep, e5, -bd_rep]
end
end Ev
namespace Ev
open PySem Pv L2 Lv
theorem c__law_same {k : Nat} {rs : List R} : Ph Ir.prog (k + 1) "_law_same" rs = runF (Ph Ir.prog k) Ir.f__law_same rs := rfl
/-- tuples of ints, to a depth -/
def TD : Nat → D → Prop
  | _, .int _ => True
  | c + 1, .tuple ds => ds.length ≤ 16777216 ∧ ∀ d ∈ ds, TD c d
  | _, _ => False
theorem e_tupled {k : Nat} : ∀ (c : Nat) (d : D), TD c d → Ph Ir.prog (k + c + 1) "tupled" [.v d] = some (.v d, [.v d]) := by
  intro c
  induction c with
  | zero =>
    intro d h
    rw [c_tupled]
    cases d with
    | int i => simp [runF, Ir.f_tupled, Ir.b_tupled, Fn.io, S.st, isiD]
    | _ => exact h.elim
  | succ c ih =>
    intro d h
    rw [c_tupled]
    cases d with
    | int i => simp [runF, Ir.f_tupled, Ir.b_tupled, Fn.io, S.st, isiD]
    | tuple ds =>
      obtain ⟨hz, h⟩ : ds.length ≤ 16777216 ∧ ∀ d ∈ ds, TD c d := h
      have hc : compL (turnE (Ph Ir.prog (k + (c + 1))) (.call "tupled" (.cons (.var 1) .nil)) (.nm 1) .tyes) [1] ds [some (.v (.tuple ds)), none] = some (ds.map id, [some (.v (.tuple ds)), none]) := by
        apply compL_all
        intro d hd
        have e := ih d (h d hd)
        exact ⟨[some (.v (.tuple ds)), some (.v d)], by simp [turnE, show k + (c + 1) = k + c + 1 from rfl, e], rfl⟩
      rw [List.map_id] at hc
      have hA := comp_n (Φ := Ph Ir.prog (k + (c + 1))) (elt := .call "tupled" (.cons (.var 1) .nil)) (tg := .nm 1) (it := .it (.var 0)) (ifs := .tyes) (vs := [1]) (ρ := [some (.v (.tuple ds)), none]) (ρ1 := [some (.v (.tuple ds)), none]) (ds := ds) (by simp [seqD]) hz hc
      exact runF_of (ρ0 := [some (.v (.tuple ds)), none]) (ρ1 := [some (.v (.tuple ds)), none]) rfl rfl (ret_n (by simp only [ev_ife, tv_tt, ev_isi]; simp [isiD]; exact tup_n (by intro _; nofun) hA)) rfl rfl
    | _ => exact h.elim
/-- what _law_same is asked of -/
def SD : Nat → D → Prop
  | _, .int _ => True
  | _, .bool _ => True
  | _, .none => True
  | c + 1, .tuple ds => ds.length ≤ 16777216 ∧ ∀ d ∈ ds, SD c d
  | c + 1, .list ds => ds.length ≤ 16777216 ∧ ∀ d ∈ ds, SD c d
  | _, _ => False
def Rv (d : D) (r : R) : Prop := r = .v d ∨ ∃ xs, d = .list xs ∧ r = .l xs
theorem Rv.flat {d : D} {r : R} (h : Rv d r) (n : ∀ xs, d ≠ .list xs) : r = .v d := h.elim id fun ⟨xs, e, _⟩ => absurd e (n xs)
theorem zip_self {ds : List D} {x : D} (h : x ∈ zipD ds ds) : ∃ d ∈ ds, x = .tuple [d, d] := by
  obtain ⟨i, hi⟩ := List.getElem?_of_mem h
  obtain ⟨a, b, h1, h2, rfl⟩ := zipD_get hi
  rw [h1] at h2
  cases h2
  exact ⟨a, List.mem_of_getElem? h1, rfl⟩
theorem trues_of (xs : List D) : boolsOf (xs.map fun _ => PyData.bool true) = some (xs.map fun _ => true) := by
  rw [show (xs.map fun _ => PyData.bool true) = (xs.map fun _ => true).map PyData.bool by simp]
  exact boolsOf_of _
theorem e__law_same {k : Nat} : ∀ (c : Nat) (d : D) (r s : R), SD c d → Rv d r → Rv d s → ∃ o1 o2, Ph Ir.prog (k + c + 1) "_law_same" [r, s] = some (.v (.bool true), [o1, o2]) := by
  intro c
  induction c with
  | zero =>
    intro d r s h hr hs
    rw [c__law_same]
    cases d with
    | int i =>
      obtain rfl := hr.flat (fun _ => nofun)
      obtain rfl := hs.flat (fun _ => nofun)
      exact ⟨_, _, by simp [runF, Ir.f__law_same, Ir.b__law_same, Fn.io, S.st, isiD, isNonD]; exact ⟨rfl, rfl⟩⟩
    | bool i =>
      obtain rfl := hr.flat (fun _ => nofun)
      obtain rfl := hs.flat (fun _ => nofun)
      exact ⟨_, _, by simp [runF, Ir.f__law_same, Ir.b__law_same, Fn.io, S.st, isiD, isNonD]; exact ⟨rfl, rfl⟩⟩
    | none =>
      obtain rfl := hr.flat (fun _ => nofun)
      obtain rfl := hs.flat (fun _ => nofun)
      exact ⟨_, _, by simp [runF, Ir.f__law_same, Ir.b__law_same, Fn.io, S.st, isiD, isNonD]; exact ⟨rfl, rfl⟩⟩
    | _ => exact h.elim
  | succ c ih =>
    intro d r s h hr hs
    rw [c__law_same]
    have hcomp : ∀ (ds : List D) (ρ : Pv.Env) (x y : R), (ds.length ≤ 16777216 ∧ ∀ d ∈ ds, SD c d) → evI (Ph Ir.prog (k + (c + 1))) (.zip (.var 0) (.var 1)) ρ = some (zipD ds ds, [some x, some y, none, none]) →
        evE (Ph Ir.prog (k + (c + 1))) (.comp (.call "_law_same" (.cons (.var 2) (.cons (.var 3) .nil))) (.tp (.cons (.nm 2) (.cons (.nm 3) .nil))) (.zip (.var 0) (.var 1)) .tyes [2, 3]) ρ = some (.l ((zipD ds ds).map fun _ => .bool true), [some x, some y, none, none]) := by
      intro ds ρ x y ⟨hz, hh⟩ hi
      refine comp_n (ρ2 := [some x, some y, none, none]) hi (by rw [zipD_len]; omega) ?_
      apply compL_all
      intro z hzz
      obtain ⟨d, hd, rfl⟩ := zip_self hzz
      obtain ⟨o1, o2, e⟩ := ih d (.v d) (.v d) (hh d hd) (.inl rfl) (.inl rfl)
      exact ⟨[some x, some y, some (.v d), some (.v d)], by simp [turnE, show k + (c + 1) = k + c + 1 from rfl, e], rfl⟩
    cases d with
    | int i =>
      obtain rfl := hr.flat (fun _ => nofun)
      obtain rfl := hs.flat (fun _ => nofun)
      exact ⟨_, _, by simp [runF, Ir.f__law_same, Ir.b__law_same, Fn.io, S.st, isiD, isNonD]; exact ⟨rfl, rfl⟩⟩
    | bool i =>
      obtain rfl := hr.flat (fun _ => nofun)
      obtain rfl := hs.flat (fun _ => nofun)
      exact ⟨_, _, by simp [runF, Ir.f__law_same, Ir.b__law_same, Fn.io, S.st, isiD, isNonD]; exact ⟨rfl, rfl⟩⟩
    | none =>
      obtain rfl := hr.flat (fun _ => nofun)
      obtain rfl := hs.flat (fun _ => nofun)
      exact ⟨_, _, by simp [runF, Ir.f__law_same, Ir.b__law_same, Fn.io, S.st, isiD, isNonD]; exact ⟨rfl, rfl⟩⟩
    | tuple ds =>
      obtain rfl := hr.flat (fun _ => nofun)
      obtain rfl := hs.flat (fun _ => nofun)
      have hA := hcomp ds [some (.v (.tuple ds)), some (.v (.tuple ds)), none, none] (.v (.tuple ds)) (.v (.tuple ds)) h (by simp)
      have hB := all_n (by intro _; nofun) hA (trues_of _)
      exact ⟨.v (.tuple ds), .v (.tuple ds), by simp [runF, Ir.f__law_same, Ir.b__law_same, Fn.io, S.st, isiD, isNonD, hB, -ev_ball]⟩
    | list ds =>
      have hr2 : r = .v (.list ds) ∨ r = .l ds := hr.imp id fun ⟨xs, e, h⟩ => by cases e; exact h
      have hs2 : s = .v (.list ds) ∨ s = .l ds := hs.imp id fun ⟨xs, e, h⟩ => by cases e; exact h
      have hA : evE (Ph Ir.prog (k + (c + 1))) (.comp (.call "_law_same" (.cons (.var 2) (.cons (.var 3) .nil))) (.tp (.cons (.nm 2) (.cons (.nm 3) .nil))) (.zip (.var 0) (.var 1)) .tyes [2, 3]) [some r, some s, none, none] = some (.l ((zipD ds ds).map fun _ => .bool true), [some (.v (.list ds)), some (.v (.list ds)), none, none]) :=
        hcomp ds [some r, some s, none, none] _ _ h (by rcases hr2 with rfl | rfl <;> rcases hs2 with rfl | rfl <;> simp)
      have hB := all_n (by intro _; nofun) hA (trues_of _)
      rcases hr2 with rfl | rfl <;> rcases hs2 with rfl | rfl <;>
        exact ⟨.v (.list ds), .v (.list ds), by simp [runF, Ir.f__law_same, Ir.b__law_same, Fn.io, S.st, isiD, isNonD, hB, -ev_ball]⟩
    | _ => exact h.elim
end Ev
namespace Ev
open PySem Pv L2 Lv
theorem c_divided {k : Nat} {rs : List R} : Ph Ir.prog (k + 1) "divided" rs = runF (Ph Ir.prog k) Ir.f_divided rs := rfl
theorem c_fixed_by {k : Nat} {rs : List R} : Ph Ir.prog (k + 1) "fixed_by" rs = runF (Ph Ir.prog k) Ir.f_fixed_by rs := rfl
theorem c_sure_listed {k : Nat} {rs : List R} : Ph Ir.prog (k + 1) "sure_listed" rs = runF (Ph Ir.prog k) Ir.f_sure_listed rs := rfl
theorem c_periods {k : Nat} {rs : List R} : Ph Ir.prog (k + 1) "periods" rs = runF (Ph Ir.prog k) Ir.f_periods rs := rfl
section
variable {k n a b c : Nat}
theorem td_nums (l : List Nat) (hl : l.length ≤ 16777216) : TD 1 (.tuple (nL l)) := ⟨by simpa using hl, fun d hd => by
  obtain ⟨x, _, rfl⟩ := List.mem_map.mp hd
  trivial⟩
theorem e_sure_all_in (hn : n ≤ 12) (l : List Nat) (hl : ∀ x ∈ l, 1 ≤ x ∧ x ≤ 2 ^ n) (hz : l.length ≤ 16777216) : Ph Ir.prog (k + 3) "sure_all_in" [iv n, .v (.tuple (nL l))] = some (.v (.tuple (nL l)), [iv n, .v (.tuple (nL l))]) := by
  rw [c_sure_all_in]
  have b1 : (n : Int) ≤ 1000000 := by omega
  have e1 := e_tupled (k := k) 1 _ (td_nums l hz)
  have hc : compL (turnE (Ph Ir.prog (k + 2)) (.call "is_among" (.cons (.var 3) (.cons (.num 1) (.cons (.bin .LShift (.num 1) (.var 0)) .nil)))) (.nm 3) .tyes) [3] (nL l) [some (iv n), some (.v (.tuple (nL l))), some (.v (.tuple (nL l))), none] = some ((nL l).map fun _ => .bool true, [some (iv n), some (.v (.tuple (nL l))), some (.v (.tuple (nL l))), none]) := by
    apply compL_all
    intro d hd
    obtain ⟨x, hx, rfl⟩ := List.mem_map.mp hd
    obtain ⟨h1, h2⟩ := hl x hx
    have k1 : (1 : Int) ≤ x := by omega
    have k2 : (x : Int) ≤ 2 ^ n := by rw [pow_cast]; omega
    exact ⟨[some (iv n), some (.v (.tuple (nL l))), some (.v (.tuple (nL l))), some (iv x)], by simp [turnE, b1, e_is_among, k1, k2], rfl⟩
  have hA := comp_n (Φ := Ph Ir.prog (k + 2)) (elt := .call "is_among" (.cons (.var 3) (.cons (.num 1) (.cons (.bin .LShift (.num 1) (.var 0)) .nil)))) (tg := .nm 3) (it := .it (.var 2)) (ifs := .tyes) (vs := [3]) (ρ := [some (iv n), some (.v (.tuple (nL l))), some (.v (.tuple (nL l))), none]) (ρ1 := [some (iv n), some (.v (.tuple (nL l))), some (.v (.tuple (nL l))), none]) (ds := nL l) (by simp [seqD]) (by simpa using hz) hc
  have hB := all_n (by intro _; nofun) hA (trues_of _)
  refine runF_of (ρ0 := [some (iv n), some (.v (.tuple (nL l))), none, none]) (ρ1 := [some (iv n), some (.v (.tuple (nL l))), none, none]) rfl rfl (seq_n (asg_n (ρ1 := [some (iv n), some (.v (.tuple (nL l))), none, none]) (r := .v (.tuple (nL l))) (by simp [e1])) (seq_n (ρ1 := [some (iv n), some (.v (.tuple (nL l))), some (.v (.tuple (nL l))), none]) ?_ rfl)) rfl rfl
  have hB' : opd (.bi .all (.cons (.comp (.call "is_among" (.cons (.var 3) (.cons (.num 1) (.cons (.bin .LShift (.num 1) (.var 0)) .nil)))) (.nm 3) (.it (.var 2)) .tyes [3]) .nil)) (evE (Ph Ir.prog (k + 2)) (.bi .all (.cons (.comp (.call "is_among" (.cons (.var 3) (.cons (.num 1) (.cons (.bin .LShift (.num 1) (.var 0)) .nil)))) (.nm 3) (.it (.var 2)) .tyes [3]) .nil))) [some (iv n), some (.v (.tuple (nL l))), some (.v (.tuple (nL l))), none] = some (.d (.bool true), [some (iv n), some (.v (.tuple (nL l))), some (.v (.tuple (nL l))), none]) :=
    (opd_n (by intro _; nofun) hB rfl).trans (by simp)
  simp only [x0_if, tv_or, tv_not, tv_tt, ev_isi]
  simp [isiD, hB', -op_bi]
end
end Ev
namespace Ev
open PySem Pv L2 Lv
def rowN (N a : Nat) : List Nat := (List.range (per N a)).map fun i => op N a (i + 1)
theorem rowD_eq {N a : Nat} : rowD N a = nL (rowN N a) := by simp [rowD, rowN, nL]
theorem eqv_int (a b : Int) : PyData.eqv (.int a) (.int b) = decide (a = b) := by
  show (a == b) = _
  exact Bool.beq_eq_decide_eq a b
theorem flat_nL (l : List Nat) : (nL l).all flatD = true := by
  rw [List.all_eq_true]
  intro d hd
  obtain ⟨x, _, rfl⟩ := List.mem_map.mp hd
  rfl
theorem in_nL (l : List Nat) (g : Nat) : inD (.int g) (.list (nL l)) = some (decide (g ∈ l)) := by
  show (if (flatD (.int g) && (nL l).all flatD) = true then some _ else _) = _
  rw [if_pos (by rw [flat_nL]; rfl)]
  congr 1
  rw [Bool.eq_iff_iff, List.any_eq_true, decide_eq_true_iff]
  constructor
  · rintro ⟨d, hd, e⟩
    obtain ⟨x, hx, rfl⟩ := List.mem_map.mp hd
    rw [eqv_int, decide_eq_true_iff] at e
    have : x = g := by omega
    rwa [← this]
  · intro h
    exact ⟨.int g, List.mem_map.mpr ⟨g, h, rfl⟩, by rw [eqv_int]; exact decide_eq_true rfl⟩
theorem in_nLT (l : List Nat) (g : Nat) : inD (.int g) (.tuple (nL l)) = some (decide (g ∈ l)) := by
  show (if (flatD (.int g) && (nL l).all flatD) = true then some _ else _) = _
  rw [if_pos (by rw [flat_nL]; rfl)]
  have := in_nL l g
  unfold inD at this
  dsimp only at this
  rw [if_pos (by rw [flat_nL]; rfl)] at this
  exact this
theorem ix_nL : ∀ (l : List Nat) (g : Nat), g ∈ l → ∃ m, ixOf (.int g) (nL l) = some m ∧ l[m]? = some g
  | [], g, h => by cases h
  | x :: l, g, h => by
    by_cases q : x = g
    · subst q
      exact ⟨0, by show (if PyData.eqv (.int (x : Nat)) (.int (x : Nat)) = true then _ else _) = _; rw [if_pos (by rw [eqv_int]; exact decide_eq_true rfl)], rfl⟩
    · obtain ⟨m, e1, e2⟩ := ix_nL l g ((List.mem_cons.mp h).resolve_left fun z => q z.symm)
      refine ⟨m + 1, ?_, e2⟩
      show (if PyData.eqv (.int (x : Nat)) (.int (g : Nat)) = true then _ else (ixOf _ (nL l)).map _) = _
      rw [if_neg (by rw [eqv_int, decide_eq_true_iff]; omega), e1]
      rfl
theorem mem_rowN {N a : Nat} {g : Nat} : g ∈ rowN N a ↔ ∃ j, j < per N a ∧ op N a (j + 1) = g := by
  unfold rowN
  rw [List.mem_map]
  constructor
  · rintro ⟨j, hj, e⟩
    exact ⟨j, List.mem_range.mp hj, e⟩
  · rintro ⟨j, hj, e⟩
    exact ⟨j, List.mem_range.mpr hj, e⟩
section
variable {k n a b c : Nat}
theorem e_divided (hn : n ≤ 12) (ha : 1 ≤ a) (ha2 : a ≤ 2 ^ n) (hb : 1 ≤ b) (hb2 : b ≤ 2 ^ n) (h : b ∈ rowN (2 ^ n) a) : ∃ m, m < per (2 ^ n) a ∧ op (2 ^ n) a (m + 1) = b ∧ Ph Ir.prog (k + 5) "divided" [iv n, iv a, iv b] = some (iv ((m + 1 : Nat)), [iv n, iv a, iv b]) := by
  rw [c_divided]
  have e1 := e_sure_level (k := k) hn
  have e2 := e_sure_in (k := k) hn ha ha2
  have e3 := e_sure_in (k := k) hn hb hb2
  have e4 := e_rows_in (k := k + 3) hn
  have h1 : atI (rowsD (2 ^ n)) (a : Int) = some (.list (nL (rowN (2 ^ n) a))) := by rw [at_nat rfl, rowsD_at ha ha2, rowD_eq]
  obtain ⟨m, m1, m2⟩ := ix_nL _ _ h
  have lm := (List.getElem?_eq_some_iff.mp m2).1
  have lm : m < per (2 ^ n) a := by simpa [rowN] using lm
  refine ⟨m, lm, ?_, ?_⟩
  · unfold rowN at m2
    rw [List.getElem?_map, List.getElem?_range lm] at m2
    exact Option.some.inj m2
  · have h2 := in_nL (rowN (2 ^ n) a) b
    have h3 : mtD .index (.list (nL (rowN (2 ^ n) a))) [.int b] = some (iv m) := by
      show (if (flatD (.int b) && (nL (rowN (2 ^ n) a)).all flatD) = true then (ixOf _ _).bind _ else none) = _
      rw [if_pos (by rw [flat_nL]; rfl), m1]
      rfl
    generalize nL (rowN (2 ^ n) a) = L at *
    simp [runF, Ir.f_divided, Ir.b_divided, Fn.io, S.st, e1, e2, e3, e4, h1, h2, h3, h, isLst]
def upN (N : Nat) : List Nat := (List.range N).map (· + 1)
theorem upN_len {N : Nat} : (upN N).length = N := by simp [upN]
theorem mem_upN {N x : Nat} : x ∈ upN N ↔ 1 ≤ x ∧ x ≤ N := by
  unfold upN
  rw [List.mem_map]
  constructor
  · rintro ⟨y, hy, rfl⟩
    have := List.mem_range.mp hy
    omega
  · intro h
    exact ⟨x - 1, List.mem_range.mpr (by omega), by omega⟩
theorem rng_up {N : Nat} : rngD 1 ((N : Int) + 1) = nL (upN N) := by
  unfold rngD upN nL
  rw [List.map_map, show ((N : Int) + 1 - 1).toNat = N by omega]
  apply List.map_congr_left
  intro i _
  show PyData.int (1 + (i : Nat)) = PyData.int ((i + 1 : Nat) : Int)
  rw [show (1 : Int) + (i : Nat) = ((i + 1 : Nat) : Int) by omega]
theorem comp_nat {g : D → Pv.Env → Option (Option D × Pv.Env)} {vs : List Nat} {ρ : Pv.Env} {p : Nat → Bool} {f : Nat → D} (l : List Nat) (h : ∀ x ∈ l, ∃ ρ', g (.int (x : Nat)) ρ = some (if p x then some (f x) else none, ρ') ∧ wipeE ρ' vs = ρ) : compL g vs (nL l) ρ = some ((l.filter p).map f, ρ) := by
  have z := compL_map (g := g) (vs := vs) (ρ := ρ) (h := fun d => match d with | .int i => if p i.toNat then some (f i.toNat) else none | _ => none) (nL l) (fun d hd => by
    obtain ⟨x, hx, rfl⟩ := List.mem_map.mp hd
    obtain ⟨ρ', e, e2⟩ := h x hx
    exact ⟨ρ', by rw [e]; simp, e2⟩)
  rw [z]
  congr 2
  clear z h
  induction l with
  | nil => rfl
  | cons x l ih =>
    show List.filterMap _ (.int (x : Nat) :: nL l) = _
    rw [List.filterMap_cons]
    cases q : p x <;> simp [q, ih]
theorem comp_natA {g : D → Pv.Env → Option (Option D × Pv.Env)} {vs : List Nat} {ρ : Pv.Env} {f : Nat → D} (l : List Nat) (h : ∀ x ∈ l, ∃ ρ', g (.int (x : Nat)) ρ = some (some (f x), ρ') ∧ wipeE ρ' vs = ρ) : compL g vs (nL l) ρ = some (l.map f, ρ) := by
  have z := comp_nat (p := fun _ => true) (f := f) l (fun x hx => by simpa using h x hx)
  rw [z]
  congr 3
  simp
def fixN (N a : Nat) : List Nat := (upN N).filter fun x => decide (op N a x = x)
theorem e_fixed_by (hn : n ≤ 12) (ha : 1 ≤ a) (ha2 : a ≤ 2 ^ n) : Ph Ir.prog (k + 5) "fixed_by" [iv n, iv a] = some (.v (.tuple (nL (fixN (2 ^ n) a))), [iv n, iv a]) := by
  rw [c_fixed_by]
  have e1 := e_sure_level (k := k) hn
  have e2 := e_sure_in (k := k) hn ha ha2
  have e4 := e_rows_in (k := k + 3) hn
  have b1 : (n : Int) ≤ 1000000 := by omega
  have hN := pow_le12 hn
  have hp := pow_cast n
  have F := fine_pow n
  unfold fixN
  generalize 2 ^ n = N at *
  have hc := comp_nat (g := turnE (Ph Ir.prog (k + 4)) (.var 5) (.nm 5) (.tcmp .Eq (.call "product_in" (.cons (.var 4) (.cons (.var 3) (.cons (.var 5) .nil)))) (.var 5))) (vs := [5]) (ρ := [some (iv n), some (iv a), some (iv n), some (iv a), some (.l (rowsD N)), none]) (p := fun x => decide (op N a x = x)) (f := fun x => .int (x : Nat)) (upN N) (fun x hx => by
    obtain ⟨x1, x2⟩ := mem_upN.mp hx
    have e := e_prod (k := k + 3) F (.inr rfl) ha ha2 x1 x2
    refine ⟨[some (iv n), some (iv a), some (iv n), some (iv a), some (.l (rowsD N)), some (iv x)], ?_, rfl⟩
    by_cases q : op N a x = x
    · simp [turnE, e, q]
    · have q2 : ¬ ((op N a x : Nat) : Int) = (x : Int) := by omega
      simp [turnE, e, q, q2])
  have hr := rng2_n (Φ := Ph Ir.prog (k + 4)) (a := .num 1) (b := .bin .Add (.bin .LShift (.num 1) (.var 2)) (.num 1)) (ρ := [some (iv n), some (iv a), some (iv n), some (iv a), some (.l (rowsD N)), none]) (ρ1 := [some (iv n), some (iv a), some (iv n), some (iv a), some (.l (rowsD N)), none]) (ρ2 := [some (iv n), some (iv a), some (iv n), some (iv a), some (.l (rowsD N)), none]) (i := 1) (j := (N : Int) + 1) (o := .d (.int 1)) (p := .d (.int ((N : Int) + 1))) (by simp) (by simp [b1, hp]) rfl rfl (by omega) (by omega) (by omega) (by omega)
  rw [rng_up] at hr
  have hA := comp_n (tg := .nm 5) (vs := [5]) hr (by simp [upN_len]; omega) hc
  refine runF_of (ρ0 := [some (iv n), some (iv a), none, none, none, none]) (ρ1 := [some (iv n), some (iv a), some (iv n), some (iv a), some (.l (rowsD N)), none]) rfl rfl (seq_n (asg_n (ρ1 := [some (iv n), some (iv a), none, none, none, none]) (r := iv n) (by simp [e1])) (seq_n (asg_n (ρ1 := [some (iv n), some (iv a), some (iv n), none, none, none]) (r := iv a) (by simp [e2])) (seq_n (asg_n (ρ1 := [some (iv n), some (iv a), some (iv n), some (iv a), none, none]) (r := .l (rowsD N)) (by simp [e4])) (ret_n ?_)))) rfl rfl
  exact tup_n (by intro _; nofun) hA
end
end Ev
namespace Ev
open PySem Pv L2 Lv
theorem c_whole_in {k : Nat} {rs : List R} : Ph Ir.prog (k + 1) "whole_in" rs = runF (Ph Ir.prog k) Ir.f_whole_in rs := rfl
theorem c_whole_table {k : Nat} {rs : List R} : Ph Ir.prog (k + 1) "whole_table" rs = runF (Ph Ir.prog k) Ir.f_whole_table rs := rfl
theorem c_both_table {k : Nat} {rs : List R} : Ph Ir.prog (k + 1) "both_table" rs = runF (Ph Ir.prog k) Ir.f_both_table rs := rfl
section
variable {k n a b c : Nat}
/-- a loop over 1 .. N that appends one thing a turn -/
theorem app_loop {f : D → Pv.Env → Option (Fl × Pv.Env)} (Ev : List D → Option R → Pv.Env) (h : Nat → D) (B : Nat) (l : List Nat) : ∀ (acc : List D) (o : Option R), acc.length + l.length ≤ B → (∀ x ∈ l, ∀ acc o, acc.length ≤ B → f (.int (x : Nat)) (Ev acc o) = some (.next, Ev (acc ++ [h x]) (some (iv x)))) → ∃ o', forL f (nL l) (Ev acc o) = some (.next, Ev (acc ++ l.map h) o') := by
  induction l with
  | nil => exact fun acc o _ _ => ⟨o, by rw [List.map_nil, List.append_nil]; rfl⟩
  | cons x l ih =>
    intro acc o hb hh
    rw [List.length_cons] at hb
    obtain ⟨o', e⟩ := ih (acc ++ [h x]) (some (iv x)) (by rw [List.length_append, List.length_singleton]; omega) fun y hy => hh y (List.mem_cons_of_mem _ hy)
    refine ⟨o', ?_⟩
    show (f (.int (x : Nat)) (Ev acc o)).bind _ = _
    rw [hh x (List.mem_cons_self ..) _ _ (by omega)]
    show forL f (nL l) _ = _
    rw [e, List.append_assoc]
    rfl
def tbl (N : Nat) (f : Nat → Nat → Nat) : List D := (upN N).map fun a => .tuple (nL ((upN N).map fun b => f a b))
theorem app_n {Φ : Phi} {i : Nat} {e : E} {ρ ρ1 : Pv.Env} {xs : List D} {r : R} {d : D} (h0 : getS ρ i = some (.l xs)) (h : evE Φ e ρ = some (r, ρ1)) (h2 : frzO r = some d) (h3 : getS ρ1 i = some (.l xs)) (hl : xs.length + 1 ≤ 16777216) : ex Φ (.app i e) ρ = some (.next, setS ρ1 i (some (.l (xs ++ [d])))) := by
  rw [x0_app, h0]
  simp only [Option.bind_some, il_l, if_true]
  rw [h]
  simp only [Option.bind_some]
  rw [h2]
  simp only [Option.bind_some]
  rw [h3]
  simp only [Option.bind_some]
  rw [if_pos (okN_t hl)]
theorem e_whole_in (hn : n ≤ 6) : Ph Ir.prog (k + 2) "whole_in" [iv n] = some (.v (.tuple (tbl (2 ^ n) (op (2 ^ n)))), [iv n]) := by
  rw [c_whole_in]
  have e4 := e_rows_in (k := k) (n := n) (by omega)
  have b1 : (n : Int) ≤ 1000000 := by omega
  have hN1 : 1 ≤ 2 ^ n := Nat.one_le_two_pow
  have hN := pow_le12 (n := n) (by omega)
  have hp := pow_cast n
  have F := fine_pow n
  generalize 2 ^ n = N at *
  let f : D → Pv.Env → Option (Fl × Pv.Env) := fun d ρ => (bindT (.nm 2) d ρ).bind fun ρ2 => ex (Ph Ir.prog (k + 1)) (.seq (.app 4 (.bi .tuple (.cons (.comp (.call "product_in" (.cons (.var 3) (.cons (.var 2) (.cons (.var 5) .nil)))) (.nm 5) (.rng2 (.num 1) (.bin .Add (.var 1) (.num 1))) .tyes [5]) .nil))) .skip) ρ2
  let Ev : List D → Option R → Pv.Env := fun acc o => [some (iv n), some (iv N), o, some (.l (rowsD N)), some (.l acc), none]
  have hl : ∀ x ∈ upN N, ∀ acc o, acc.length ≤ 10000 → f (.int (x : Nat)) (Ev acc o) = some (.next, Ev (acc ++ [.tuple (nL ((upN N).map fun b => op N x b))]) (some (iv x))) := by
    intro x hx acc o hacc
    obtain ⟨x1, x2⟩ := mem_upN.mp hx
    have hc := comp_natA (g := turnE (Ph Ir.prog (k + 1)) (.call "product_in" (.cons (.var 3) (.cons (.var 2) (.cons (.var 5) .nil)))) (.nm 5) .tyes) (vs := [5]) (ρ := Ev acc (some (iv x))) (f := fun b => .int (op N x b : Nat)) (upN N) (fun b hb => by
      obtain ⟨y1, y2⟩ := mem_upN.mp hb
      have e := e_prod (k := k) F (.inr rfl) x1 x2 y1 y2
      exact ⟨[some (iv n), some (iv N), some (iv x), some (.l (rowsD N)), some (.l acc), some (iv b)], by simp [turnE, Ev, e], rfl⟩)
    have hr := rng2_n (Φ := Ph Ir.prog (k + 1)) (a := .num 1) (b := .bin .Add (.var 1) (.num 1)) (ρ := Ev acc (some (iv x))) (ρ1 := Ev acc (some (iv x))) (ρ2 := Ev acc (some (iv x))) (i := 1) (j := (N : Int) + 1) (o := .d (.int 1)) (p := .d (.int ((N : Int) + 1))) (by simp) (by simp [Ev]) rfl rfl (by omega) (by omega) (by omega) (by omega)
    rw [rng_up] at hr
    have hA := comp_n (tg := .nm 5) (vs := [5]) hr (by simp [upN_len]; omega) hc
    have hT := tup_n (by intro _; nofun) hA
    show ex _ _ (Ev acc (some (iv x))) = _
    refine seq_n (app_n (xs := acc) rfl hT rfl rfl (by omega)) ?_
    simp [Ev]
  obtain ⟨o', ef⟩ := app_loop (f := f) Ev (fun x => .tuple (nL ((upN N).map fun b => op N x b))) 10000 (upN N) [] none (by rw [upN_len]; simp; omega) hl
  have hr := rng2_n (Φ := Ph Ir.prog (k + 1)) (a := .num 1) (b := .bin .Add (.var 1) (.num 1)) (ρ := Ev [] none) (ρ1 := Ev [] none) (ρ2 := Ev [] none) (i := 1) (j := (N : Int) + 1) (o := .d (.int 1)) (p := .d (.int ((N : Int) + 1))) (by simp) (by simp [Ev]) rfl rfl (by omega) (by omega) (by omega) (by omega)
  rw [rng_up] at hr
  exact runF_of (ρ0 := [some (iv n), none, none, none, none, none]) (ρ1 := [some (iv n), some (iv N), o', some (.l (rowsD N)), some (.l (tbl N (op N))), none]) rfl rfl (seq_n (ρ1 := [some (iv n), none, none, some (.l (rowsD N)), some (.l []), none]) (by simp [e4]) (seq_n (asg_n (ρ1 := [some (iv n), none, none, some (.l (rowsD N)), some (.l []), none]) (r := iv N) (by simp [b1, hp])) (seq_n (for_n hr ef) (ret_n (by simp [Ev, tbl])))))  rfl rfl
theorem e_whole_table (hn : n ≤ 6) : Ph Ir.prog (k + 5) "whole_table" [iv n] = some (.v (.tuple (tbl (2 ^ n) (op (2 ^ n)))), [iv n]) := by
  rw [c_whole_table]
  have e1 := e_sure_level (k := k) (n := n) (by omega)
  have e2 := e_whole_in (k := k + 2) hn
  have h : ¬ (6 : Int) < n := by omega
  simp [runF, Ir.f_whole_table, Ir.b_whole_table, Fn.io, S.st, e1, e2, h]
theorem e_both_table (hn : n ≤ 6) : Ph Ir.prog (k + 5) "both_table" [iv n] = some (.v (.tuple (tbl (2 ^ n) (co (2 ^ n)))), [iv n]) := by
  rw [c_both_table]
  have e1 := e_sure_level (k := k) (n := n) (by omega)
  have e4 := e_rows_in (k := k + 3) (n := n) (by omega)
  have b1 : (n : Int) ≤ 1000000 := by omega
  have b2 : ¬ (6 : Int) < n := by omega
  have hN := pow_le12 (n := n) (by omega)
  have hp := pow_cast n
  have e5 : ∀ x b, 1 ≤ x → x ≤ 2 ^ n → Ph Ir.prog (k + 4) "both_in" [iv n, .l (rowsD (2 ^ n)), iv x, iv b] = some (iv (co (2 ^ n) x b), [iv n, .l (rowsD (2 ^ n)), iv x, iv b]) := fun x b h1 h2 => e_both_in (k := k + 2) (b := b) (by omega) (.inr rfl) h1 h2
  generalize 2 ^ n = N at *
  let f : D → Pv.Env → Option (Fl × Pv.Env) := fun d ρ => (bindT (.nm 3) d ρ).bind fun ρ2 => ex (Ph Ir.prog (k + 4)) (.seq (.app 2 (.bi .tuple (.cons (.comp (.call "both_in" (.cons (.var 1) (.cons (.var 4) (.cons (.var 3) (.cons (.var 6) .nil))))) (.nm 6) (.rng2 (.num 1) (.bin .Add (.var 5) (.num 1))) .tyes [6]) .nil))) .skip) ρ2
  let Ev : List D → Option R → Pv.Env := fun acc o => [some (iv n), some (iv n), some (.l acc), o, some (.l (rowsD N)), some (iv N), none]
  have hl : ∀ x ∈ upN N, ∀ acc o, acc.length ≤ 10000 → f (.int (x : Nat)) (Ev acc o) = some (.next, Ev (acc ++ [.tuple (nL ((upN N).map fun b => co N x b))]) (some (iv x))) := by
    intro x hx acc o hacc
    obtain ⟨x1, x2⟩ := mem_upN.mp hx
    have hc := comp_natA (g := turnE (Ph Ir.prog (k + 4)) (.call "both_in" (.cons (.var 1) (.cons (.var 4) (.cons (.var 3) (.cons (.var 6) .nil))))) (.nm 6) .tyes) (vs := [6]) (ρ := Ev acc (some (iv x))) (f := fun b => .int (co N x b : Nat)) (upN N) (fun b hb => by
      exact ⟨[some (iv n), some (iv n), some (.l acc), some (iv x), some (.l (rowsD N)), some (iv N), some (iv b)], by simp [turnE, Ev, e5 x b x1 x2], rfl⟩)
    have hr := rng2_n (Φ := Ph Ir.prog (k + 4)) (a := .num 1) (b := .bin .Add (.var 5) (.num 1)) (ρ := Ev acc (some (iv x))) (ρ1 := Ev acc (some (iv x))) (ρ2 := Ev acc (some (iv x))) (i := 1) (j := (N : Int) + 1) (o := .d (.int 1)) (p := .d (.int ((N : Int) + 1))) (by simp) (by simp [Ev]) rfl rfl (by omega) (by omega) (by omega) (by omega)
    rw [rng_up] at hr
    have hA := comp_n (tg := .nm 6) (vs := [6]) hr (by simp [upN_len]; omega) hc
    have hT := tup_n (by intro _; nofun) hA
    show ex _ _ (Ev acc (some (iv x))) = _
    refine seq_n (app_n (xs := acc) rfl hT rfl rfl (by omega)) ?_
    simp [Ev]
  obtain ⟨o', ef⟩ := app_loop (f := f) Ev (fun x => .tuple (nL ((upN N).map fun b => co N x b))) 10000 (upN N) [] none (by rw [upN_len]; simp; omega) hl
  have hr := rng2_n (Φ := Ph Ir.prog (k + 4)) (a := .num 1) (b := .bin .Add (.var 5) (.num 1)) (ρ := Ev [] none) (ρ1 := Ev [] none) (ρ2 := Ev [] none) (i := 1) (j := (N : Int) + 1) (o := .d (.int 1)) (p := .d (.int ((N : Int) + 1))) (by simp) (by simp [Ev]) rfl rfl (by omega) (by omega) (by omega) (by omega)
  rw [rng_up] at hr
  exact runF_of (ρ0 := [some (iv n), none, none, none, none, none, none]) (ρ1 := [some (iv n), some (iv n), some (.l (tbl N (co N))), o', some (.l (rowsD N)), some (iv N), none]) rfl rfl (seq_n (asg_n (ρ1 := [some (iv n), none, none, none, none, none, none]) (r := iv n) (by simp [e1])) (seq_n (ρ1 := [some (iv n), some (iv n), none, none, none, none, none]) (by simp [b2]) (seq_n (ρ1 := [some (iv n), some (iv n), none, none, some (.l (rowsD N)), some (iv N), none]) (by simp [e4, b1, hp]) (seq_n (ρ1 := [some (iv n), some (iv n), some (.l []), none, some (.l (rowsD N)), some (iv N), none]) (by simp) (seq_n (for_n hr ef) (ret_n (by simp [Ev, tbl]))))))) rfl rfl
end
end Ev
namespace Ev
open PySem Pv L2 Lv
def trow (N a : Nat) : List D := (List.range (N + 1)).map fun b => .int ((if b = 0 then 0 else op N a b : Nat) : Int)
theorem trow_len {N a : Nat} : (trow N a).length = N + 1 := by simp [trow]
theorem trow_at {N a b : Nat} (h1 : 1 ≤ b) (h : b ≤ N) : (trow N a)[b]? = some (.int (op N a b : Nat)) := by
  unfold trow
  rw [List.getElem?_map, List.getElem?_range (by omega)]
  show some (PyData.int ((if b = 0 then 0 else op N a b : Nat) : Int)) = _
  rw [if_neg (by omega)]
def tst (N i : Nat) : List D := (List.range (N + 1)).map fun a => if N - i ≤ a then .list (trow N a) else .none
theorem tst_len {N i : Nat} : (tst N i).length = N + 1 := by simp [tst]
theorem tst_at {N i a : Nat} (h : a ≤ N) (h2 : N - i ≤ a) : (tst N i)[a]? = some (.list (trow N a)) := by
  unfold tst
  rw [List.getElem?_map, List.getElem?_range (by omega)]
  show some (if N - i ≤ a then PyData.list (trow N a) else .none) = _
  rw [if_pos h2]
theorem tst_set {N i : Nat} (h : i + 1 ≤ N) : (tst N i).set (N - (i + 1)) (.list (trow N (N - (i + 1)))) = tst N (i + 1) := by
  apply List.ext_getElem?
  intro m
  by_cases hm : m ≤ N
  · by_cases q : m = N - (i + 1)
    · rw [q, List.getElem?_set_self (by rw [tst_len]; omega), tst_at (by omega) (Nat.le_refl _)]
    · rw [List.getElem?_set_ne (Ne.symm q)]
      unfold tst
      rw [List.getElem?_map, List.getElem?_map, List.getElem?_range (by omega)]
      show some (if N - i ≤ m then PyData.list (trow N m) else .none) = some (if N - (i + 1) ≤ m then PyData.list (trow N m) else .none)
      by_cases w : N - i ≤ m
      · rw [if_pos w, if_pos (by omega)]
      · rw [if_neg w, if_neg (by omega)]
  · rw [List.getElem?_eq_none (by rw [List.length_set, tst_len]; omega), List.getElem?_eq_none (by rw [tst_len]; omega)]
def tabD (N : Nat) : List D := tst N (N - 1)
theorem tabD_at {N a : Nat} (ha : 1 ≤ a) (h : a ≤ N) : (tabD N)[a]? = some (.list (trow N a)) := tst_at h (by omega)
def tEnv (n N i a j : Nat) (o : Option R) : Pv.Env := [some (iv n), some (iv N), some (.l (tst N i)), some (iv a), some (.l ((trow N a).take (j + 2))), o]
end Ev
namespace Ev
open PySem Pv L2 Lv
theorem c_is_bush_in {k : Nat} {rs : List R} : Ph Ir.prog (k + 1) "is_bush_in" rs = runF (Ph Ir.prog k) Ir.f_is_bush_in rs := rfl
theorem c_is_long {k : Nat} {rs : List R} : Ph Ir.prog (k + 1) "is_long" rs = runF (Ph Ir.prog k) Ir.f_is_long rs := rfl
theorem c_sure_bush {k : Nat} {rs : List R} : Ph Ir.prog (k + 1) "sure_bush" rs = runF (Ph Ir.prog k) Ir.f_sure_bush rs := rfl
theorem c_worth_by {k : Nat} {rs : List R} : Ph Ir.prog (k + 1) "worth_by" rs = runF (Ph Ir.prog k) Ir.f_worth_by rs := rfl
theorem c_worth {k : Nat} {rs : List R} : Ph Ir.prog (k + 1) "worth" rs = runF (Ph Ir.prog k) Ir.f_worth rs := rfl
theorem c__law_net {k : Nat} {rs : List R} : Ph Ir.prog (k + 1) "_law_net" rs = runF (Ph Ir.prog k) Ir.f__law_net rs := rfl
/-! bushes -/
inductive Bt where
  | o | n (l r : Bt)
def Bt.d : Bt → D
  | .o => .tuple []
  | .n l r => .tuple [l.d, r.d]
def Bt.dep : Bt → Nat
  | .o => 0
  | .n l r => max l.dep r.dep + 1
def Bt.lv : Bt → Nat
  | .o => 1
  | .n l r => l.lv + r.lv
theorem Bt.dep_lt : ∀ t : Bt, t.dep < t.lv
  | .o => by show 0 < 1; omega
  | .n l r => by
    have := l.dep_lt
    have := r.dep_lt
    show max l.dep r.dep + 1 < l.lv + r.lv
    omega
def Bt.w (N : Nat) : Bt → Nat
  | .o => 1
  | .n l r => op N (l.w N) (r.w N)
theorem Bt.w_rng {N : Nat} (hN : 1 ≤ N) : ∀ t : Bt, 1 ≤ t.w N ∧ t.w N ≤ N
  | .o => ⟨Nat.le_refl _, hN⟩
  | .n l r => by
    obtain ⟨a, b⟩ := l.w_rng hN
    obtain ⟨c, d⟩ := r.w_rng hN
    exact ⟨op_pos a b c, op_le b c d⟩
theorem Bt.td : ∀ (t : Bt) (c : Nat), t.dep < c → TD c t.d
  | .o, c + 1, _ => ⟨by simp, fun d hd => by cases hd⟩
  | .n l r, c + 1, h => by
    have h : max l.dep r.dep + 1 < c + 1 := h
    refine ⟨by simp, fun d hd => ?_⟩
    rcases List.mem_cons.mp hd with rfl | hd
    · exact l.td c (by omega)
    · rcases List.mem_cons.mp hd with rfl | hd
      · exact r.td c (by omega)
      · cases hd
theorem Bt.lay : ∀ t : Bt, t.d.canLay0 = true ∧ t.d.depth ≤ t.dep + 1
  | .o => ⟨rfl, Nat.le_refl _⟩
  | .n l r => by
    obtain ⟨a, b⟩ := l.lay
    obtain ⟨c, d⟩ := r.lay
    refine ⟨?_, ?_⟩
    · show (l.d.canLay0 && (r.d.canLay0 && true)) = true
      rw [a, c]
      rfl
    · show max l.d.depth (max r.d.depth 0) + 1 ≤ max l.dep r.dep + 1 + 1
      omega
theorem Bt.sh (t : Bt) (h : t.dep ≤ 60) : SeqAt.shaped t.d = true := by
  obtain ⟨a, b⟩ := t.lay
  show (t.d.canLay0 && decide (t.d.depth ≤ 64)) = true
  rw [a, Bool.true_and]
  exact decide_eq_true (by omega)
def Bt.isO : Bt → Bool
  | .o => true
  | .n _ _ => false
theorem Bt.eq0 (t : Bt) (h : t.dep ≤ 60) : eqD t.d (.tuple []) = some t.isO := by
  have h1 := t.sh h
  have h2 := Bt.sh .o (by decide)
  have e : eqD t.d (.tuple []) = if (SeqAt.shaped t.d && SeqAt.shaped (.tuple [])) = true then some (PyData.eqv t.d (.tuple [])) else none := by
    cases t <;> rfl
  rw [e, h1, show SeqAt.shaped (.tuple []) = true from h2, if_pos (show (true && true) = true from rfl)]
  cases t <;> rfl
section
variable {k n a b c : Nat}
theorem e_is_bush_in : ∀ (c : Nat) (t : Bt), t.dep < c → t.dep ≤ 60 → Ph Ir.prog (k + c + 1) "is_bush_in" [.v t.d] = some (.v (.bool true), [.v t.d]) := by
  intro c
  induction c with
  | zero => intro t h; omega
  | succ c ih =>
    intro t h h2
    rw [c_is_bush_in]
    have e0 := t.eq0 h2
    cases t with
    | o =>
      have e0 : eqD (.tuple []) (.tuple []) = some true := e0
      simp [runF, Ir.f_is_bush_in, Ir.b_is_bush_in, Fn.io, S.st, Bt.d, isiD, e0]
    | n l r =>
      have h : max l.dep r.dep + 1 < c + 1 := h
      have h2 : max l.dep r.dep + 1 ≤ 60 := h2
      have e0 : eqD (.tuple [l.d, r.d]) (.tuple []) = some false := e0
      have e1 := ih l (by omega) (by omega)
      have e2 := ih r (by omega) (by omega)
      have e3 : Ph Ir.prog (k + c + 1) "is_long" [.v (.tuple [l.d, r.d]), .v (.int 2)] = some (.v (.bool true), [.v (.tuple [l.d, r.d]), .v (.int 2)]) := by
        rw [c_is_long]
        simp [runF, Ir.f_is_long, Ir.b_is_long, Fn.io, S.st, isiD]
      have a0 : atI [l.d, r.d] 0 = some l.d := rfl
      have a1 : atI [l.d, r.d] 1 = some r.d := rfl
      simp [runF, Ir.f_is_bush_in, Ir.b_is_bush_in, Fn.io, S.st, Bt.d, isiD, e0, show k + (c + 1) = k + c + 1 from rfl, e1, e2, e3, a0, a1]
theorem e_sure_bush (t : Bt) (h : t.dep < 20) : Ph Ir.prog (k + 22) "sure_bush" [.v t.d] = some (.v t.d, [.v t.d]) := by
  rw [c_sure_bush]
  have e1 := e_tupled (k := k) 20 t.d (t.td 20 h)
  have e2 := e_is_bush_in (k := k) 20 t h (by omega)
  simp [runF, Ir.f_sure_bush, Ir.b_sure_bush, Fn.io, S.st, e1, e2]
theorem e_worth_by {N : Nat} {r : R} (hN : 1 ≤ N) (F : Fine N) (hr : RowsR N r) : ∀ (c : Nat) (t : Bt), t.dep < c → t.dep ≤ 60 → Ph Ir.prog (k + c + 1) "worth_by" [r, .v t.d] = some (iv (t.w N), [r, .v t.d]) := by
  intro c
  induction c with
  | zero => intro t h; omega
  | succ c ih =>
    intro t h h2
    rw [c_worth_by]
    have e0 := t.eq0 h2
    cases t with
    | o =>
      have e0 : eqD (.tuple []) (.tuple []) = some true := e0
      rcases hr with rfl | rfl <;> simp [runF, Ir.f_worth_by, Ir.b_worth_by, Fn.io, S.st, Bt.d, e0, Bt.w]
    | n l s =>
      have h : max l.dep s.dep + 1 < c + 1 := h
      have h2 : max l.dep s.dep + 1 ≤ 60 := h2
      have e0 : eqD (.tuple [l.d, s.d]) (.tuple []) = some false := e0
      have e1 := ih l (by omega) (by omega)
      have e2 := ih s (by omega) (by omega)
      obtain ⟨w1, w2⟩ := l.w_rng hN
      obtain ⟨w3, w4⟩ := s.w_rng hN
      have e3 := e_prod (k := k + c) F hr w1 w2 w3 w4
      have a0 : atI [l.d, s.d] 0 = some l.d := rfl
      have a1 : atI [l.d, s.d] 1 = some s.d := rfl
      rcases hr with rfl | rfl <;> simp [runF, Ir.f_worth_by, Ir.b_worth_by, Fn.io, S.st, Bt.d, e0, Bt.w, show k + (c + 1) = k + c + 1 from rfl, e1, e2, e3, a0, a1]
theorem e_worth (hn : n ≤ 12) (t : Bt) (h : t.dep < 20) : Ph Ir.prog (k + 23) "worth" [iv n, .v t.d] = some (iv (t.w (2 ^ n)), [iv n, .v t.d]) := by
  rw [c_worth]
  have e1 := e_sure_level (k := k + 18) hn
  have e2 := e_rows_in (k := k + 21) hn
  have e3 := e_sure_bush (k := k) t h
  have e4 := e_worth_by (k := k + 1) Nat.one_le_two_pow (fine_pow n) (.inr rfl) 20 t h (by omega)
  simp [runF, Ir.f_worth, Ir.b_worth, Fn.io, S.st, e1, e2, e3, e4]
/-- the draws: c at most were taken -/
def Tn (c : Nat) (r : R) : Prop := ∃ x y z : Int, r = .l (tinD x y z) ∧ TinI c x y z
theorem Tn.take {c : Nat} {r : R} (t : Tn c r) (hc : c < 1000000) (m : Nat) (h1 : 1 ≤ m) (h2 : m ≤ 1000000) (k : Nat) : ∃ (v : Nat) (r' : R), Tn (c + 1) r' ∧ v < m ∧ Ph Ir.prog (k + 1) "_law_take" [r, iv m] = some (iv v, [r', iv m]) := by
  obtain ⟨x, y, z, rfl, t⟩ := t
  obtain ⟨v, x', z', t', v1, v2, e⟩ := e__law_take (k := k) hc t (b := m) (by omega) (by omega)
  obtain ⟨w, rfl⟩ : ∃ w : Nat, v = w := ⟨v.toNat, by omega⟩
  exact ⟨w, _, ⟨x', y, z', rfl, t'⟩, by omega, e⟩
theorem e_periods (hn : n ≤ 10) : ∃ ds : List D, ds.length = 2 ^ n ∧ Ph Ir.prog (k + 6) "periods" [iv n] = some (.v (.tuple ds), [iv n]) := by
  rw [c_periods]
  have e1 := e_sure_level (k := k) (n := n) (by omega)
  have b : ¬ (10 : Int) < n := by omega
  have e2 : Ph Ir.prog (k + 5) "sure_listed" [iv n] = some (iv n, [iv n]) := by
    rw [c_sure_listed]
    simp [runF, Ir.f_sure_listed, Ir.b_sure_listed, Fn.io, S.st, e1, b]
  have e3 := e_rows_in (k := k + 4) (n := n) (by omega)
  have hN := pow_le12 (n := n) (by omega)
  generalize 2 ^ n = N at *
  have hcut : cutA (rowsD N) (some 1) none = (rowsD N).drop 1 := cut_drop (by omega)
  have hc : compL (turnE (Ph Ir.prog (k + 5)) (.bi .len (.cons (.var 1) .nil)) (.nm 1) .tyes) [1] ((rowsD N).drop 1) [some (iv n), none] = some (((rowsD N).drop 1).map fun d => match d with | .list xs => .int xs.length | _ => .none, [some (iv n), none]) := by
    apply compL_all
    intro d hd
    have hd : d ∈ rowsD N := List.mem_of_mem_drop hd
    obtain ⟨a, _, rfl⟩ := List.mem_map.mp hd
    exact ⟨[some (iv n), some (.v (.list _))], by simp [turnE]; rfl, rfl⟩
  have hA := comp_n (Φ := Ph Ir.prog (k + 5)) (it := .it (.slc (.call "rows_in" (.cons (.call "sure_listed" (.cons (.var 0) .nil)) .nil)) (.it (.num 1)) .nob)) (tg := .nm 1) (vs := [1]) (ρ := [some (iv n), none]) (ρ1 := [some (iv n), none]) (ds := (rowsD N).drop 1) (by simp [e2, e3, hcut, seqD]) (by rw [List.length_drop, rowsD_len]; omega) hc
  refine ⟨_, ?_, runF_of (ρ0 := [some (iv n), none]) (ρ1 := [some (iv n), none]) rfl rfl (ret_n (tup_n (by intro _; nofun) hA)) rfl rfl⟩
  rw [List.length_map, List.length_drop, rowsD_len]
  omega
end
end Ev
namespace Ev
open PySem Pv L2 Lv
theorem Tn.own {c : Nat} {r : R} (t : Tn c r) : r.own = true := by
  obtain ⟨x, y, z, rfl, _⟩ := t
  rfl
def lvs (ts : List Bt) : Nat := (ts.map Bt.lv).sum
theorem split2 {ts : List Bt} {i : Nat} (h : i + 1 < ts.length) : ∃ a b, ts[i]? = some a ∧ ts[i + 1]? = some b ∧ ts = ts.take i ++ [a, b] ++ ts.drop (i + 2) := by
  refine ⟨ts[i], ts[i + 1], List.getElem?_eq_getElem _, List.getElem?_eq_getElem _, ?_⟩
  have e1 := List.take_append_drop i ts
  rw [List.drop_eq_getElem_cons (by omega), List.drop_eq_getElem_cons (by omega)] at e1
  rw [List.append_assoc]
  exact e1.symm
theorem e__law_net {k c m : Nat} {r : R} (t : Tn c r) (hc : c + m < 1000000) (h1 : 1 ≤ m) (h2 : m ≤ 1000) : ∃ (b : Bt) (r' : R), Tn (c + m) r' ∧ b.lv = m ∧ Ph Ir.prog (k + 2) "_law_net" [r, iv m] = some (.v b.d, [r', iv m]) := by
  rw [c__law_net]
  let f : D → Pv.Env → Option (Fl × Pv.Env) := fun d ρ => (bindT (.nm 3) d ρ).bind fun ρ2 => ex (Ph Ir.prog (k + 1)) (.seq (.asg 4 (.call "_law_take" (.cons (.var 0) (.cons (.bin .Sub (.bi .len (.cons (.var 2) .nil)) (.num 1)) .nil)))) (.seq (.asg 2 (.bin .Add (.bin .Add (.slc (.var 2) .nob (.it (.var 4))) (.lst (.cons (.tup (.cons (.idx (.var 2) (.var 4)) (.cons (.idx (.var 2) (.bin .Add (.var 4) (.num 1))) .nil))) .nil))) (.slc (.var 2) (.it (.bin .Add (.var 4) (.num 2))) .nob))) .skip)) ρ2
  obtain ⟨ρ', ef, ts, r', o3, o4, hl, hv, tn, hρ⟩ := forL_turns (f := f) (fun j ρ => ∃ (ts : List Bt) (r' : R) (o3 o4 : Option R), ts.length = m - j ∧ lvs ts = m ∧ Tn (c + j) r' ∧ ρ = [some r', some (iv m), some (.l (ts.map Bt.d)), o3, o4]) (rngD 0 ((m : Int) - 1)) 0
    [some r, some (iv m), some (.l ((List.replicate m Bt.o).map Bt.d)), none, none] ⟨List.replicate m .o, r, none, none, by simp, by simp [lvs, Bt.lv], t, rfl⟩ (fun j d ρ hj ⟨ts, r', o3, o4, hl, hv, tn, hρ⟩ => by
      subst hρ
      have lt := (List.getElem?_eq_some_iff.mp hj).1
      rw [rngD_len] at lt
      rw [Nat.zero_add] at hl tn ⊢
      obtain ⟨v, r2, tn2, v1, et⟩ := tn.take (by omega) (ts.length - 1) (by omega) (by omega) k
      obtain ⟨a, b, ha, hb, hs⟩ := split2 (ts := ts) (i := v) (by omega)
      have ho := tn.own
      have hcast : iv (ts.length - 1) = .v (.int ((ts.length : Int) - 1)) := by
        show R.v (.int _) = _
        rw [show (((ts.length - 1 : Nat)) : Int) = (ts.length : Int) - 1 by omega]
      rw [hcast] at et
      have a0 : atI (ts.map Bt.d) (v : Int) = some a.d := by rw [at_nat rfl, List.getElem?_map, ha]; rfl
      have a1 : atI (ts.map Bt.d) ((v : Int) + 1) = some b.d := by rw [at_nat (n := v + 1) (by omega), List.getElem?_map, hb]; rfl
      have c0 : cutA (ts.map Bt.d) none (some (v : Int)) = (ts.take v).map Bt.d := by rw [cut_take (by omega), List.map_take]; rfl
      have c1 : cutA (ts.map Bt.d) (some ((v : Int) + 2)) none = (ts.drop (v + 2)).map Bt.d := by rw [cut_drop (by omega), List.map_drop, show ((v : Int) + 2).toNat = v + 2 by omega]
      have k1 : okN (min v ts.length + 1) = true := okN_t (by omega)
      have k2 : okN (min v ts.length + 1 + (ts.length - (v + 2))) = true := okN_t (by omega)
      refine ⟨[some r2, some (iv m), some (.l ((ts.take v ++ [Bt.n a b] ++ ts.drop (v + 2)).map Bt.d)), some (.v d), some (iv v)], .inl (by simp [f, ho, et, a0, a1, c0, c1, k1, k2, Bt.d]), ts.take v ++ [Bt.n a b] ++ ts.drop (v + 2), r2, _, _, ?_, ?_, tn2, rfl⟩
      · simp only [List.length_append, List.length_take, List.length_drop, List.length_singleton]
        omega
      · rw [← hv]
        conv => rhs; rw [hs]
        simp only [lvs, List.map_append, List.sum_append, List.map_cons, List.map_nil, List.sum_cons, List.sum_nil, Bt.lv]
        omega)
  subst hρ
  rw [rngD_len, show ((m : Int) - 1 - 0).toNat = m - 1 by omega, Nat.zero_add] at hl tn
  obtain ⟨b, rfl⟩ : ∃ b, ts = [b] := List.length_eq_one_iff.mp (by omega)
  have hb : b.lv = m := by simpa [lvs] using hv
  have hrep : binD .Mult (.list [.tuple []]) (.int (m : Nat)) = some (.l ((List.replicate m Bt.o).map Bt.d)) := by
    have h3 : in62 (m : Int) = true := in62_of (by omega) (by omega)
    have h4 : okN ([PyData.tuple []].length * ((m : Nat) : Int).toNat) = true := okN_t (by simp; omega)
    rw [bd_rep, if_pos ⟨h3, h4⟩, rep_flat, List.map_replicate]
    rfl
  have ho := t.own
  have hr := rng1_n (Φ := Ph Ir.prog (k + 1)) (a := .bin .Sub (.var 1) (.num 1)) (ρ := [some r, some (iv m), some (.l ((List.replicate m Bt.o).map Bt.d)), none, none]) (ρ1 := [some r, some (iv m), some (.l ((List.replicate m Bt.o).map Bt.d)), none, none]) (j := (m : Int) - 1) (o := .d (.int ((m : Int) - 1))) (by simp) rfl (by omega) (by omega)
  obtain ⟨x, y, z, rfl, ti⟩ := t
  obtain ⟨x', y', z', rfl, ti'⟩ := id tn
  refine ⟨b, _, ⟨x', y', z', rfl, ⟨ti'.1, ti'.2.1, ti'.2.2.1, ti'.2.2.2.1, by have := ti'.2.2.2.2; omega⟩⟩, hb, runF_of (ρ0 := [some (.l (tinD x y z)), some (iv m), none, none, none]) (ρ1 := [some (.l (tinD x' y' z')), some (iv m), some (.l [b.d]), o3, o4]) rfl rfl (seq_n (asg_n (ρ1 := [some (.l (tinD x y z)), some (iv m), none, none, none]) (r := .l ((List.replicate m Bt.o).map Bt.d)) (by
    have := hrep
    generalize (List.replicate m Bt.o).map Bt.d = L at *
    simp [hrep, -bd_rep])) (seq_n (for_n hr ef) (ret_n (by simp; rfl)))) rfl rfl⟩
end Ev
namespace Ev
open PySem Pv L2 Lv
/-- what is the same is the same -/
theorem same_ok {k : Nat} (d : D) (r s : R) (h : SD 4 d) (hr : Rv d r) (hs : Rv d s) : ∃ o1 o2, Ph Ir.prog (k + 5) "_law_same" [r, s] = some (.v (.bool true), [o1, o2]) := e__law_same 4 d r s h hr hs
theorem sd_nL (l : List Nat) (c : Nat) (h : l.length ≤ 16777216) : SD (c + 1) (.list (nL l)) := ⟨by simpa using h, fun d hd => by
  obtain ⟨x, _, rfl⟩ := List.mem_map.mp hd
  cases c <;> trivial⟩
theorem eqv_nL : ∀ (l m : List Nat), PyData.eqvAll (nL l) (nL m) = decide (l = m)
  | [], [] => rfl
  | [], _ :: _ => rfl
  | _ :: _, [] => rfl
  | x :: l, y :: m => by
    show (PyData.eqv (.int (x : Nat)) (.int (y : Nat)) && PyData.eqvAll (nL l) (nL m)) = _
    rw [eqv_int, eqv_nL l m, Bool.eq_iff_iff, Bool.and_eq_true_iff, decide_eq_true_iff, decide_eq_true_iff, decide_eq_true_iff]
    constructor
    · rintro ⟨h1, rfl⟩
      rw [show x = y by omega]
    · intro h
      cases h
      exact ⟨rfl, rfl⟩
theorem sh_nL (l : List Nat) : SeqAt.shaped (.list (nL l)) = true := by
  have h1 : ∀ l : List Nat, PyData.canLayAll0 (nL l) = true ∧ PyData.depthAll (nL l) = 0 := fun l => by
    induction l with
    | nil => exact ⟨rfl, rfl⟩
    | cons x l ih =>
      refine ⟨?_, ?_⟩
      · show (true && PyData.canLayAll0 (nL l)) = true
        rw [ih.1]
        rfl
      · show max 0 (PyData.depthAll (nL l)) = 0
        rw [ih.2]
        rfl
  show (PyData.canLayAll0 (nL l) && decide (PyData.depthAll (nL l) + 1 ≤ 64)) = true
  rw [(h1 l).1, (h1 l).2]
  rfl
theorem eq_nL (l m : List Nat) : eqD (.list (nL l)) (.list (nL m)) = some (decide (l = m)) := by
  have e : eqD (.list (nL l)) (.list (nL m)) = if (SeqAt.shaped (.list (nL l)) && SeqAt.shaped (.list (nL m))) = true then some (PyData.eqv (.list (nL l)) (.list (nL m))) else none := rfl
  rw [e, sh_nL, sh_nL, if_pos (show (true && true) = true from rfl)]
  show some (PyData.eqvAll (nL l) (nL m)) = _
  rw [eqv_nL]
/-! the fold's laws -/
theorem fl_app {N : Nat} (l : List Nat) (x : Nat) : fl N (l ++ [x]) = co N (fl N l) x := by
  unfold fl
  rw [List.foldl_append]
  rfl
theorem fl_from {N : Nat} (hN : 1 ≤ N) (F : Fine N) : ∀ (l : List Nat) (y : Nat), 1 ≤ y → y ≤ N → (∀ x ∈ l, 1 ≤ x ∧ x ≤ N) → l.foldl (co N) y = co N y (fl N l)
  | [], y, h1, h2, _ => (co_r hN h1 h2).symm
  | x :: l, y, h1, h2, hl => by
    obtain ⟨x1, x2⟩ := hl x (List.mem_cons_self ..)
    have hl' := fun z hz => hl z (List.mem_cons_of_mem x hz)
    obtain ⟨f1, f2⟩ : 1 ≤ fl N l ∧ fl N l ≤ N := fl_rng hN l N hN (Nat.le_refl _)
    show l.foldl (co N) (co N y x) = co N y (l.foldl (co N) (co N N x))
    rw [fl_from hN F l (co N y x) (co_pos hN) (co_le hN) hl', co_N hN x1 x2, fl_from hN F l x x1 x2 hl', co_assoc hN F h1 h2 x1 x2 f1 f2]
theorem fl_cons {N : Nat} (hN : 1 ≤ N) (F : Fine N) (x : Nat) (l : List Nat) (h1 : 1 ≤ x) (h2 : x ≤ N) (hl : ∀ x ∈ l, 1 ≤ x ∧ x ≤ N) : fl N (x :: l) = co N x (fl N l) := by
  show l.foldl (co N) (co N N x) = _
  rw [co_N hN h1 h2]
  exact fl_from hN F l x h1 h2 hl
theorem op_fl {N : Nat} (hN : 1 ≤ N) (F : Fine N) : ∀ (l : List Nat) (c : Nat), 1 ≤ c → c ≤ N → (∀ x ∈ l, 1 ≤ x ∧ x ≤ N) → op N (fl N l) c = l.foldr (op N) c
  | [], c, _, _, _ => op_N
  | x :: l, c, h1, h2, hl => by
    obtain ⟨x1, x2⟩ := hl x (List.mem_cons_self ..)
    have hl' := fun z hz => hl z (List.mem_cons_of_mem x hz)
    obtain ⟨f1, f2⟩ : 1 ≤ fl N l ∧ fl N l ≤ N := fl_rng hN l N hN (Nat.le_refl _)
    rw [fl_cons hN F x l x1 x2 hl', co_op hN F x1 x2 f1 f2 c h1 h2, op_fl hN F l c h1 h2 hl']
    rfl
theorem fl_rep {N : Nat} (m a : Nat) : fl N (List.replicate (m + 1) a) = co N (fl N (List.replicate m a)) a := by
  rw [List.replicate_succ', fl_app]
theorem foldr_rep {N : Nat} (a c : Nat) : ∀ m, (List.replicate (m + 1) a).foldr (op N) c = op N a ((List.replicate m a).foldr (op N) c) := fun m => rfl
/-- a row tells whose it is -/
theorem row_own {N x y : Nat} (hN : 1 ≤ N) (hx : 1 ≤ x) (hx2 : x ≤ N) (hy : 1 ≤ y) (hy2 : y ≤ N) (h : op N x 1 = op N y 1) : x = y := by
  rw [← nx_op hN hx hx2, ← nx_op hN hy hy2] at h
  exact nx_inj hN hx hx2 hy hy2 h
section
variable {k n N a b c ab : Nat}
theorem all_true {α : Type} (l : List α) : l.filter (fun _ => true) = l := by simp
theorem drop1 {x : Nat} : (trow N x).drop 1 = nL ((upN N).map (op N x)) := by
  unfold trow upN nL
  rw [List.range_succ_eq_map, List.map_cons, List.drop_one, List.tail_cons, List.map_map, List.map_map, List.map_map]
  apply List.map_congr_left
  intro i _
  show PyData.int ((if i + 1 = 0 then 0 else op N x (i + 1) : Nat) : Int) = PyData.int ((op N x (i + 1) : Nat) : Int)
  rw [if_neg (by omega)]
theorem filter_one {p : Nat → Bool} {y : Nat} (hy : 1 ≤ y) (hy2 : y ≤ N) (h : ∀ x, 1 ≤ x → x ≤ N → p x = decide (x = y)) : (upN N).filter p = [y] := by
  have e : (upN N).filter p = (upN N).filter fun x => decide (x = y) := by
    apply List.filter_congr
    intro x hx
    exact h x (mem_upN.mp hx).1 (mem_upN.mp hx).2
  rw [e]
  unfold upN
  have : ∀ m, y ≤ m + 1 → ((List.range m).map (· + 1)).filter (fun x => decide (x = y)) = if y ≤ m then [y] else [] := by
    intro m
    induction m with
    | zero =>
      intro _
      rw [if_neg (by omega)]
      rfl
    | succ m ih =>
      intro hm
      rw [List.range_succ, List.map_append, List.filter_append]
      by_cases q : y ≤ m
      · rw [ih (by omega), if_pos q, if_pos (by omega)]
        rw [show (List.map (fun x => x + 1) [m]).filter (fun x => decide (x = y)) = [] by simp; omega]
        rfl
      · have e0 : ((List.range m).map (· + 1)).filter (fun x => decide (x = y)) = [] := by
          rw [List.filter_eq_nil_iff]
          intro x hx
          obtain ⟨i, hi, rfl⟩ := List.mem_map.mp hx
          have := List.mem_range.mp hi
          simp
          omega
        rw [e0]
        by_cases e1 : y = m + 1
        · subst e1
          rw [if_pos (Nat.le_refl _)]
          simp
        · rw [if_neg (by omega), show (List.map (fun x => x + 1) [m]).filter (fun x => decide (x = y)) = [] by simp; omega]
          rfl
  rw [this N (by omega), if_pos hy2]
end
end Ev
namespace Ev
open PySem Pv L2 Lv
/-! new ways: rows as lists of numbers -/
theorem rowN_len {N a : Nat} : (rowN N a).length = per N a := by simp [rowN]
theorem rowN_at {N a i : Nat} (h : i < per N a) : (rowN N a)[i]? = some (op N a (i + 1)) := by
  unfold rowN
  rw [List.getElem?_map, List.getElem?_range h]
  rfl
theorem hide {α : Sort _} (a : α) : ∃ x, x = a := ⟨a, rfl⟩
theorem nL_len (l : List Nat) : (nL l).length = l.length := by simp
theorem nL_take (l : List Nat) (i : Nat) : (nL l).take i = nL (l.take i) := by simp [nL, List.map_take]
theorem nL_drop (l : List Nat) (i : Nat) : (nL l).drop i = nL (l.drop i) := by simp [nL, List.map_drop]
theorem nL_app (l m : List Nat) : nL l ++ nL m = nL (l ++ m) := by simp [nL]
theorem nL_inj {l m : List Nat} (h : nL l = nL m) : l = m := by
  have z := eqv_nL l m
  rw [h, eqv_nL m m] at z
  simpa using z.symm
theorem rows_at {N a : Nat} (ha : 1 ≤ a) (h : a ≤ N) : atI (rowsD N) (a : Int) = some (.list (nL (rowN N a))) := by rw [at_nat rfl, rowsD_at ha h, rowD_eq]
theorem nL_cut (l : List Nat) (i : Nat) : cutA (nL l) none (some (i : Int)) = nL (l.take i) := by rw [cut_take (by omega), nL_take]; rfl
theorem nL_cutD (l : List Nat) (i : Nat) : cutA (nL l) (some (i : Int)) none = nL (l.drop i) := by rw [cut_drop (by omega), nL_drop]; rfl
theorem per_le {N a : Nat} (F : Fine N) (ha : 1 ≤ a) (h : a ≤ N) : per N a ≤ N := (perP F ha h).2.2
theorem per_pos {N a : Nat} (F : Fine N) (ha : 1 ≤ a) (h : a ≤ N) : 1 ≤ per N a := (perP F ha h).1.pos
theorem two_pow (n : Nat) : 2 ^ (n + 1) = 2 * 2 ^ n := by rw [Nat.pow_succ, Nat.mul_comm]
section
variable {k : Nat}
/-- what is the same is the same; what stands behind it -/
theorem same2 : ∀ (c : Nat) (d : D) (r s : R), SD c d → Rv d r → Rv d s → Ph Ir.prog (k + c + 1) "_law_same" [r, s] = some (.v (.bool true), [.v d, .v d]) := by
  intro c
  induction c with
  | zero =>
    intro d r s h hr hs
    rw [c__law_same]
    cases d with
    | int i =>
      obtain rfl := hr.flat (fun _ => nofun)
      obtain rfl := hs.flat (fun _ => nofun)
      simp [runF, Ir.f__law_same, Ir.b__law_same, Fn.io, S.st, isiD, isNonD]
    | bool i =>
      obtain rfl := hr.flat (fun _ => nofun)
      obtain rfl := hs.flat (fun _ => nofun)
      simp [runF, Ir.f__law_same, Ir.b__law_same, Fn.io, S.st, isiD, isNonD]
    | none =>
      obtain rfl := hr.flat (fun _ => nofun)
      obtain rfl := hs.flat (fun _ => nofun)
      simp [runF, Ir.f__law_same, Ir.b__law_same, Fn.io, S.st, isiD, isNonD]
    | _ => exact h.elim
  | succ c ih =>
    intro d r s h hr hs
    rw [c__law_same]
    have hcomp : ∀ (ds : List D) (ρ : Pv.Env) (x y : R), (ds.length ≤ 16777216 ∧ ∀ d ∈ ds, SD c d) → evI (Ph Ir.prog (k + (c + 1))) (.zip (.var 0) (.var 1)) ρ = some (zipD ds ds, [some x, some y, none, none]) →
        evE (Ph Ir.prog (k + (c + 1))) (.comp (.call "_law_same" (.cons (.var 2) (.cons (.var 3) .nil))) (.tp (.cons (.nm 2) (.cons (.nm 3) .nil))) (.zip (.var 0) (.var 1)) .tyes [2, 3]) ρ = some (.l ((zipD ds ds).map fun _ => .bool true), [some x, some y, none, none]) := by
      intro ds ρ x y ⟨hz, hh⟩ hi
      refine comp_n (ρ2 := [some x, some y, none, none]) hi (by rw [zipD_len]; omega) ?_
      apply compL_all
      intro z hzz
      obtain ⟨d, hd, rfl⟩ := zip_self hzz
      have e := ih d (.v d) (.v d) (hh d hd) (.inl rfl) (.inl rfl)
      exact ⟨[some x, some y, some (.v d), some (.v d)], by simp [turnE, show k + (c + 1) = k + c + 1 from rfl, e], rfl⟩
    cases d with
    | int i =>
      obtain rfl := hr.flat (fun _ => nofun)
      obtain rfl := hs.flat (fun _ => nofun)
      simp [runF, Ir.f__law_same, Ir.b__law_same, Fn.io, S.st, isiD, isNonD]
    | bool i =>
      obtain rfl := hr.flat (fun _ => nofun)
      obtain rfl := hs.flat (fun _ => nofun)
      simp [runF, Ir.f__law_same, Ir.b__law_same, Fn.io, S.st, isiD, isNonD]
    | none =>
      obtain rfl := hr.flat (fun _ => nofun)
      obtain rfl := hs.flat (fun _ => nofun)
      simp [runF, Ir.f__law_same, Ir.b__law_same, Fn.io, S.st, isiD, isNonD]
    | tuple ds =>
      obtain rfl := hr.flat (fun _ => nofun)
      obtain rfl := hs.flat (fun _ => nofun)
      have hA := hcomp ds [some (.v (.tuple ds)), some (.v (.tuple ds)), none, none] (.v (.tuple ds)) (.v (.tuple ds)) h (by simp)
      have hB := all_n (by intro _; nofun) hA (trues_of _)
      simp [runF, Ir.f__law_same, Ir.b__law_same, Fn.io, S.st, isiD, isNonD, hB, -ev_ball]
    | list ds =>
      have hr2 : r = .v (.list ds) ∨ r = .l ds := hr.imp id fun ⟨xs, e, h⟩ => by cases e; exact h
      have hs2 : s = .v (.list ds) ∨ s = .l ds := hs.imp id fun ⟨xs, e, h⟩ => by cases e; exact h
      have hA : evE (Ph Ir.prog (k + (c + 1))) (.comp (.call "_law_same" (.cons (.var 2) (.cons (.var 3) .nil))) (.tp (.cons (.nm 2) (.cons (.nm 3) .nil))) (.zip (.var 0) (.var 1)) .tyes [2, 3]) [some r, some s, none, none] = some (.l ((zipD ds ds).map fun _ => .bool true), [some (.v (.list ds)), some (.v (.list ds)), none, none]) :=
        hcomp ds [some r, some s, none, none] _ _ h (by rcases hr2 with rfl | rfl <;> rcases hs2 with rfl | rfl <;> simp)
      have hB := all_n (by intro _; nofun) hA (trues_of _)
      rcases hr2 with rfl | rfl <;> rcases hs2 with rfl | rfl <;>
        simp [runF, Ir.f__law_same, Ir.b__law_same, Fn.io, S.st, isiD, isNonD, hB, -ev_ball]
    | _ => exact h.elim
/-- .. of two values, told as equal -/
theorem same_ll {xs ys : List D} (h : xs = ys) (sd : SD 6 (.list ys)) : Ph Ir.prog (k + 7) "_law_same" [.l xs, .l ys] = some (.v (.bool true), [.v (.list ys), .v (.list ys)]) := by
  subst h
  exact same2 6 _ _ _ sd (.inr ⟨_, rfl, rfl⟩) (.inr ⟨_, rfl, rfl⟩)
theorem same_vl {xs ys : List D} (h : xs = ys) (sd : SD 6 (.list ys)) : Ph Ir.prog (k + 7) "_law_same" [.v (.list xs), .l ys] = some (.v (.bool true), [.v (.list ys), .v (.list ys)]) := by
  subst h
  exact same2 6 _ _ _ sd (.inl rfl) (.inr ⟨_, rfl, rfl⟩)
theorem same_lv {xs ys : List D} (h : xs = ys) (sd : SD 6 (.list ys)) : Ph Ir.prog (k + 7) "_law_same" [.l xs, .v (.list ys)] = some (.v (.bool true), [.v (.list ys), .v (.list ys)]) := by
  subst h
  exact same2 6 _ _ _ sd (.inr ⟨_, rfl, rfl⟩) (.inl rfl)
theorem same_vv {x y : D} (h : x = y) (sd : SD 6 y) : Ph Ir.prog (k + 7) "_law_same" [.v x, .v y] = some (.v (.bool true), [.v y, .v y]) := by
  subst h
  exact same2 6 _ _ _ sd (.inl rfl) (.inl rfl)
end
theorem sd_i {c : Nat} {z : Int} : SD c (.int z) := by cases c <;> trivial
theorem sd_b {c : Nat} {z : Bool} : SD c (.bool z) := by cases c <;> trivial
theorem sd_n {c : Nat} : SD c .none := by cases c <;> trivial
theorem sd_t {c : Nat} {ds : List D} (h : ds.length ≤ 16777216) (h2 : ∀ d ∈ ds, SD c d) : SD (c + 1) (.tuple ds) := ⟨h, h2⟩
theorem sd_l {c : Nat} {ds : List D} (h : ds.length ≤ 16777216) (h2 : ∀ d ∈ ds, SD c d) : SD (c + 1) (.list ds) := ⟨h, h2⟩
theorem sd_nT (l : List Nat) (c : Nat) (h : l.length ≤ 16777216) : SD (c + 1) (.tuple (nL l)) := ⟨by simpa using h, fun d hd => by
  obtain ⟨x, _, rfl⟩ := List.mem_map.mp hd
  exact sd_i⟩
theorem all_nil {P : D → Prop} : ∀ d ∈ ([] : List D), P d := fun _ h => by cases h
theorem all_cons {P : D → Prop} {x : D} {l : List D} (h : P x) (h2 : ∀ d ∈ l, P d) : ∀ d ∈ x :: l, P d := fun d hd => by
  rcases List.mem_cons.mp hd with rfl | hd
  · exact h
  · exact h2 d hd
theorem all_map {α : Type} {P : D → Prop} {f : α → D} {l : List α} (h : ∀ x ∈ l, P (f x)) : ∀ d ∈ l.map f, P d := fun d hd => by
  obtain ⟨x, hx, rfl⟩ := List.mem_map.mp hd
  exact h x hx
theorem it_up {Φ : Phi} {B : E} {ρ ρ1 : Pv.Env} {N : Nat} (hv : ∀ i, B ≠ .var i) (h : evE Φ B ρ = some (.v (.int ((N : Int) + 1)), ρ1)) (hN : N ≤ 100000) : evI Φ (.rng2 (.num 1) B) ρ = some ((upN N).map fun x => .int (x : Nat), ρ1) := by
  have z := rng2_n (Φ := Φ) (a := .num 1) (b := B) (ρ := ρ) (ρ1 := ρ) (ρ2 := ρ1) (i := 1) (j := (N : Int) + 1) (o := .d (.int 1)) (p := .d (.int ((N : Int) + 1))) (by simp) (opd_n hv h rfl) rfl rfl (by omega) (by omega) (by omega) (by omega)
  rw [rng_up] at z
  exact z
theorem it_to {Φ : Phi} {B : E} {ρ ρ1 : Pv.Env} {N : Nat} (hv : ∀ i, B ≠ .var i) (h : evE Φ B ρ = some (.v (.int (N : Int)), ρ1)) (hN : N ≤ 100000) : evI Φ (.rng1 B) ρ = some ((List.range N).map fun x => .int (x : Nat), ρ1) := by
  have z := rng1_n (Φ := Φ) (a := B) (ρ := ρ) (ρ1 := ρ1) (j := (N : Int)) (o := .d (.int (N : Int))) (opd_n hv h rfl) rfl (by omega) (by omega)
  rw [z]
  unfold rngD
  congr 2
  rw [show ((N : Int) - 0).toNat = N by omega]
  apply List.map_congr_left
  intro x _
  rw [Int.zero_add]
theorem it_toV {Φ : Phi} {i : Nat} {ρ : Pv.Env} {N : Nat} (h : getS ρ i = some (iv N)) (hN : N ≤ 100000) : evI Φ (.rng1 (.var i)) ρ = some ((List.range N).map fun x => .int (x : Nat), ρ) := by
  have z := rng1_n (Φ := Φ) (a := .var i) (ρ := ρ) (ρ1 := ρ) (j := (N : Int)) (o := .sl i) (by rw [op_var, h]; rfl) (by rw [de_s, h]; rfl) (by omega) (by omega)
  rw [z]
  unfold rngD
  congr 2
  rw [show ((N : Int) - 0).toNat = N by omega]
  apply List.map_congr_left
  intro x _
  rw [Int.zero_add]
theorem nL_map {α : Type} (l : List α) (f : α → Nat) : l.map (fun x => PyData.int (f x : Nat)) = nL (l.map f) := by rw [nL, List.map_map]; rfl
end Ev
namespace Ev
open PySem Pv L2 Lv
theorem c_threshold_in {k : Nat} {rs : List R} : Ph Ir.prog (k + 1) "threshold_in" rs = runF (Ph Ir.prog k) Ir.f_threshold_in rs := rfl
theorem c_threshold {k : Nat} {rs : List R} : Ph Ir.prog (k + 1) "threshold" rs = runF (Ph Ir.prog k) Ir.f_threshold rs := rfl
theorem le_cast (x N : Nat) : decide ((x : Int) ≤ (N : Int)) = decide (x ≤ N) := by simp
theorem len_fm {α : Type} (L : List α) (p : α → Bool) (f : α → D) : ((L.filter p).map f).length = L.countP p := by rw [List.length_map, List.countP_eq_length_filter]
/-- how many of the first ones above do not go above N -/
def thr (N a : Nat) : Nat := ((rowN (2 * N) a).take (per N a)).countP fun x => decide (x ≤ N)
section
variable {k n a b c : Nat} {r s : R}
theorem e_threshold_in (hn : n ≤ 11) (hr : RowsR (2 ^ n) r) (hs : RowsR (2 ^ (n + 1)) s) (ha : 1 ≤ a) (ha2 : a ≤ 2 ^ n) : Ph Ir.prog (k + 1) "threshold_in" [iv n, r, s, iv a] = some (iv (thr (2 ^ n) a), [iv n, r, s, iv a]) := by
  rw [c_threshold_in]
  have b1 : (n : Int) ≤ 1000000 := by omega
  have pl := per_le (fine_pow n) ha ha2
  have hN := pow_le12 (n := n) (by omega)
  have h1 := rows_at ha ha2
  have h2 := rows_at (N := 2 ^ (n + 1)) ha (by rw [two_pow]; omega)
  have hp := pow_cast n
  rw [two_pow] at hs h2
  generalize 2 ^ n = N at *
  rcases hr with rfl | rfl <;> rcases hs with rfl | rfl <;> (
    apply Ir.ru_threshold_in
    apply ans_ret
    · apply len_n (by intro _; nofun)
      apply comp_nm ((rowN (2 * N) a).take (per N a)) (fun x => .int (x : Nat)) (fun x => decide (x ≤ N)) (fun _ => .int 1)
      · simp [h1, h2, rowN_len, nL_cut, seqD]; rfl
      · simp; omega
      · intro x hx
        simp [b1, hp, le_cast]
      · intro x hx _
        simp [evD]
    · rw [len_fm]
      exact ⟨rfl, rfl⟩)
theorem e_sure_below (hn : n ≤ 11) : Ph Ir.prog (k + 4) "sure_below" [iv n] = some (iv n, [iv n]) := by
  rw [c_sure_below]
  have b1 : (0 : Int) ≤ n := by omega
  have b2 : (n : Int) ≤ 11 := by omega
  simp [runF, Ir.f_sure_below, Ir.b_sure_below, Fn.io, S.st, e_sure_number, b1, b2]
theorem cast1 (n : Nat) : (n : Int) + 1 = ((n + 1 : Nat) : Int) := by omega
theorem e_rows_up (hn : n ≤ 11) : Ph Ir.prog (k + 1) "rows_in" [.v (.int ((n : Int) + 1))] = some (.l (rowsD (2 ^ (n + 1))), [.v (.int ((n : Int) + 1))]) := by
  rw [cast1]
  exact e_rows_in (by omega)
theorem e_threshold (hn : n ≤ 11) (ha : 1 ≤ a) (ha2 : a ≤ 2 ^ n) : Ph Ir.prog (k + 5) "threshold" [iv n, iv a] = some (iv (thr (2 ^ n) a), [iv n, iv a]) := by
  rw [c_threshold]
  have e1 : Ph Ir.prog (k + 4) _ _ = _ := e_sure_below (k := k) hn
  have e2 : Ph Ir.prog (k + 4) _ _ = _ := e_sure_in (k := k) (n := n) (by omega) ha ha2
  have e3 : Ph Ir.prog (k + 4) _ _ = _ := e_rows_in (k := k + 3) (n := n) (by omega)
  have e4 : Ph Ir.prog (k + 4) _ _ = _ := e_rows_up (k := k + 3) hn
  have e5 : Ph Ir.prog (k + 4) _ _ = _ := e_threshold_in (k := k + 3) hn (.inr rfl) (.inr rfl) ha ha2
  obtain ⟨Φ, hΦ⟩ := hide (Ph Ir.prog (k + 4))
  simp only [← hΦ] at *
  try clear hΦ
  obtain ⟨X, hhX⟩ := hide (rowsD (2 ^ n))
  simp only [← hhX] at *
  try clear hhX
  obtain ⟨Y, hhY⟩ := hide (rowsD (2 ^ (n + 1)))
  simp only [← hhY] at *
  try clear hhY
  obtain ⟨t, hht⟩ := hide (thr (2 ^ n) a)
  simp only [← hht] at *
  try clear hht
  apply Ir.ru_threshold
  apply ans_next
  · (simp [e1, -ev_comp] <;> first | rfl | exact ⟨rfl, rfl⟩)
  apply ans_next
  · (simp [e2, -ev_comp] <;> first | rfl | exact ⟨rfl, rfl⟩)
  apply ans_ret
  · (simp [e3, e4, e5, -ev_comp] <;> first | rfl | exact ⟨rfl, rfl⟩)
  · exact ⟨rfl, rfl⟩
end
end Ev
namespace Ev
open PySem Pv L2 Lv
theorem c_row_above {k : Nat} {rs : List R} : Ph Ir.prog (k + 1) "row_above" rs = runF (Ph Ir.prog k) Ir.f_row_above rs := rfl
theorem c_period_above {k : Nat} {rs : List R} : Ph Ir.prog (k + 1) "period_above" rs = runF (Ph Ir.prog k) Ir.f_period_above rs := rfl
theorem c_does_double {k : Nat} {rs : List R} : Ph Ir.prog (k + 1) "does_double" rs = runF (Ph Ir.prog k) Ir.f_does_double rs := rfl
theorem c_lowered_product {k : Nat} {rs : List R} : Ph Ir.prog (k + 1) "lowered_product" rs = runF (Ph Ir.prog k) Ir.f_lowered_product rs := rfl
/-- the row above, by the threshold -/
def rowUp (N a : Nat) : List Nat := if thr N a = per N a then rowN N a ++ (rowN N a).map (· + N) else (rowN N a).take (thr N a) ++ ((rowN N a).drop (thr N a)).map (· + N)
section
variable {k n a b c : Nat} {r s : R}
theorem eq_cast (x y : Nat) : decide ((x : Int) = (y : Int)) = decide (x = y) := decide_eq_decide.mpr ⟨fun h => by omega, fun h => by rw [h]⟩
theorem lt_cast (x y : Nat) : decide ((x : Int) < (y : Int)) = decide (x < y) := by simp
theorem plus_nL (l : List Nat) (N : Nat) : l.map (fun x : Nat => PyData.int ((x : Int) + (N : Int))) = nL (l.map (· + N)) := by
  unfold nL
  rw [List.map_map]
  apply List.map_congr_left
  intro x _
  show PyData.int _ = PyData.int _
  congr 1
theorem e_row_above (hn : n ≤ 11) (ha : 1 ≤ a) (ha2 : a ≤ 2 ^ n) : Ph Ir.prog (k + 6) "row_above" [iv n, iv a] = some (.v (.tuple (nL (rowUp (2 ^ n) a))), [iv n, iv a]) := by
  rw [c_row_above]
  have b2 : (n : Int) ≤ 1000000 := by omega
  have hN := pow_le12 (n := n) (by omega)
  have e1 : Ph Ir.prog (k + 5) _ _ = _ := e_sure_below (k := k + 1) hn
  have e2 : Ph Ir.prog (k + 5) _ _ = _ := e_sure_in (k := k + 1) (n := n) (by omega) ha ha2
  have e3 : Ph Ir.prog (k + 5) _ _ = _ := e_rows_in (k := k + 4) (n := n) (by omega)
  have e4 : Ph Ir.prog (k + 5) _ _ = _ := e_threshold (k := k) hn ha ha2
  have h1 := rows_at ha ha2
  have hp := pow_cast n
  have pl := per_le (fine_pow n) ha ha2
  have hl : (rowN (2 ^ n) a).length = per (2 ^ n) a := rowN_len
  unfold rowUp
  obtain ⟨Φ, hΦ⟩ := hide (Ph Ir.prog (k + 5))
  simp only [← hΦ] at *
  try clear hΦ
  obtain ⟨X, hhX⟩ := hide (rowsD (2 ^ n))
  simp only [← hhX] at *
  try clear hhX
  obtain ⟨t, hht⟩ := hide (thr (2 ^ n) a)
  simp only [← hht] at *
  try clear hht
  obtain ⟨L, hhL⟩ := hide (rowN (2 ^ n) a)
  simp only [← hhL] at *
  try clear hhL
  obtain ⟨p, hhp⟩ := hide (per (2 ^ n) a)
  simp only [← hhp] at *
  try clear hhp
  obtain ⟨N, hhN⟩ := hide ((2 ^ n : Nat))
  simp only [← hhN] at *
  try clear hhN
  have hz : ∀ m : Nat, okN (min t m + (m - t)) = okN m := fun m => by rw [show min t m + (m - t) = m by omega]
  apply Ir.ru_row_above
  apply ans_next
  · (simp [e1, -ev_comp] <;> first | rfl | exact ⟨rfl, rfl⟩)
  apply ans_next
  · (simp [e2, -ev_comp] <;> first | rfl | exact ⟨rfl, rfl⟩)
  apply ans_next
  · (simp [e3, h1, -ev_comp] <;> first | rfl | exact ⟨rfl, rfl⟩)
  apply ans_next
  · (simp [e4, b2, hp, -ev_comp] <;> first | rfl | exact ⟨rfl, rfl⟩)
  apply ans_if (b := decide (t = p))
  · (simp [hl, eq_cast, -ev_comp] <;> first | rfl | exact ⟨rfl, rfl⟩)
  by_cases q : t = p
  · rw [if_pos q, if_pos (decide_eq_true q)]
    apply ans_seq
    apply ans_ret
    · apply tup_n (by intro _; nofun)
      apply add_n (xs := nL L) (ys := nL (L.map (· + N)))
      · intro _; nofun
      · (simp [-ev_comp] <;> first | rfl | exact ⟨rfl, rfl⟩)
      · rw [← plus_nL]
        apply comp_na L (fun x => .int (x : Nat)) (fun x => .int ((x : Int) + (N : Int)))
        · (simp [seqD, -ev_comp] <;> first | rfl | exact ⟨rfl, rfl⟩)
        · omega
        · intro x _
          simp [evD]
      · simp
      · rw [nL_len, nL_len, List.length_map]; omega
    · rw [nL_app]
      exact ⟨rfl, rfl⟩
  · rw [if_neg q, if_neg (by rw [decide_eq_true_iff]; exact q)]
    apply ans_next
    · rfl
    apply ans_ret
    · apply tup_n (by intro _; nofun)
      apply add_n (xs := nL (L.take t)) (ys := nL ((L.drop t).map (· + N)))
      · intro _; nofun
      · (simp [nL_cut, -ev_comp] <;> first | rfl | exact ⟨rfl, rfl⟩)
      · rw [← plus_nL]
        apply comp_na (L.drop t) (fun x => .int (x : Nat)) (fun x => .int ((x : Int) + (N : Int)))
        · (simp [seqD, nL_cutD, -ev_comp] <;> first | rfl | exact ⟨rfl, rfl⟩)
        · simp; omega
        · intro x _
          simp [evD]
      · simp
      · rw [nL_len, nL_len, List.length_map, List.length_take, List.length_drop]; omega
    · rw [nL_app]
      exact ⟨rfl, rfl⟩
theorem e_period_above (hn : n ≤ 11) (ha : 1 ≤ a) (ha2 : a ≤ 2 ^ n) : Ph Ir.prog (k + 7) "period_above" [iv n, iv a] = some (iv (rowUp (2 ^ n) a).length, [iv n, iv a]) := by
  rw [c_period_above]
  have e1 : Ph Ir.prog (k + 6) _ _ = _ := e_row_above (k := k) hn ha ha2
  obtain ⟨Φ, hΦ⟩ := hide (Ph Ir.prog (k + 6))
  simp only [← hΦ] at *
  try clear hΦ
  obtain ⟨L, hhL⟩ := hide (rowUp (2 ^ n) a)
  simp only [← hhL] at *
  try clear hhL
  apply Ir.ru_period_above
  apply ans_ret
  · (simp [e1, -ev_comp] <;> first | rfl | exact ⟨rfl, rfl⟩)
  · exact ⟨rfl, rfl⟩
theorem e_does_double (hn : n ≤ 11) (ha : 1 ≤ a) (ha2 : a ≤ 2 ^ n) : Ph Ir.prog (k + 5) "does_double" [iv n, iv a] = some (.v (.bool (decide (per (2 ^ n) a < per (2 ^ (n + 1)) a))), [iv n, iv a]) := by
  rw [c_does_double]
  have e1 : Ph Ir.prog (k + 4) _ _ = _ := e_sure_below (k := k) hn
  have e2 : Ph Ir.prog (k + 4) _ _ = _ := e_sure_in (k := k) (n := n) (by omega) ha ha2
  have e3 : Ph Ir.prog (k + 4) _ _ = _ := e_rows_in (k := k + 3) (n := n) (by omega)
  have e4 : Ph Ir.prog (k + 4) _ _ = _ := e_rows_up (k := k + 3) hn
  have h1 := rows_at ha ha2
  have h2 := rows_at (N := 2 ^ (n + 1)) ha (by rw [two_pow]; omega)
  have l1 : (rowN (2 ^ n) a).length = per (2 ^ n) a := rowN_len
  have l2 : (rowN (2 ^ (n + 1)) a).length = per (2 ^ (n + 1)) a := rowN_len
  obtain ⟨Φ, hΦ⟩ := hide (Ph Ir.prog (k + 4))
  simp only [← hΦ] at *
  try clear hΦ
  obtain ⟨X, hhX⟩ := hide (rowsD (2 ^ n))
  simp only [← hhX] at *
  try clear hhX
  obtain ⟨Y, hhY⟩ := hide (rowsD (2 ^ (n + 1)))
  simp only [← hhY] at *
  try clear hhY
  obtain ⟨L, hhL⟩ := hide (rowN (2 ^ n) a)
  simp only [← hhL] at *
  try clear hhL
  obtain ⟨M, hhM⟩ := hide (rowN (2 ^ (n + 1)) a)
  simp only [← hhM] at *
  try clear hhM
  obtain ⟨p, hhp⟩ := hide (per (2 ^ n) a)
  simp only [← hhp] at *
  try clear hhp
  obtain ⟨q, hhq⟩ := hide (per (2 ^ (n + 1)) a)
  simp only [← hhq] at *
  try clear hhq
  apply Ir.ru_does_double
  apply ans_next
  · (simp [e1, -ev_comp] <;> first | rfl | exact ⟨rfl, rfl⟩)
  apply ans_next
  · (simp [e2, -ev_comp] <;> first | rfl | exact ⟨rfl, rfl⟩)
  apply ans_ret
  · (simp [e3, e4, h1, h2, l1, l2, lt_cast, -ev_comp] <;> first | rfl | exact ⟨rfl, rfl⟩)
  · exact ⟨rfl, rfl⟩
theorem e_sure_up (hn : n ≤ 11) (ha : 1 ≤ a) (ha2 : a ≤ 2 ^ (n + 1)) : Ph Ir.prog (k + 4) "sure_in" [.v (.int ((n : Int) + 1)), iv a] = some (iv a, [.v (.int ((n : Int) + 1)), iv a]) := by
  rw [cast1]
  exact e_sure_in (by omega) ha ha2
theorem e_lowered_in {m : Nat} (hm : m ≤ 11) (ha : 1 ≤ a) : Ph Ir.prog (k + 1) "lowered_in" [iv m, iv a] = some (iv (pr (2 ^ m) a), [iv m, iv a]) := by
  rw [c_lowered_in]
  have b5 : (m : Int) ≤ 1000000 := by omega
  have hN : 1 ≤ 2 ^ m := Nat.one_le_two_pow
  have hp := pow_cast m
  have z : ((a : Int) - 1) % (2 ^ m : Nat) + 1 = (pr (2 ^ m) a : Nat) := by
    unfold pr
    rw [Int.natCast_add, emod_cast, show ((a - 1 : Nat) : Int) = (a : Int) - 1 by omega]
    rfl
  have h0 : (0 : Int) < (2 ^ m : Nat) := by omega
  rw [← hp] at z h0
  obtain ⟨y, hhy⟩ := hide (pr (2 ^ m) a)
  simp only [← hhy] at *
  try clear hhy
  apply Ir.ru_lowered_in
  apply ans_ret
  · (simp [b5, z, h0, -ev_comp] <;> first | rfl | exact ⟨rfl, rfl⟩)
  · exact ⟨rfl, rfl⟩
theorem e_lowered_product (hn : n ≤ 11) (ha : 1 ≤ a) (ha2 : a ≤ 2 ^ (n + 1)) (hb : 1 ≤ b) (hb2 : b ≤ 2 ^ (n + 1)) :
    Ph Ir.prog (k + 5) "lowered_product" [iv n, iv a, iv b] = some (.v (.tuple (nL [pr (2 ^ n) (op (2 ^ (n + 1)) a b), op (2 ^ n) (pr (2 ^ n) a) (pr (2 ^ n) b)])), [iv n, iv a, iv b]) := by
  rw [c_lowered_product]
  have hN : 1 ≤ 2 ^ n := Nat.one_le_two_pow
  have e1 : Ph Ir.prog (k + 4) _ _ = _ := e_sure_below (k := k) hn
  have e2 : Ph Ir.prog (k + 4) _ _ = _ := e_sure_up (k := k) hn ha ha2
  have e3 : Ph Ir.prog (k + 4) _ _ = _ := e_sure_up (k := k) hn hb hb2
  have e4 : Ph Ir.prog (k + 4) _ _ = _ := e_rows_up (k := k + 3) hn
  have e5 : Ph Ir.prog (k + 4) _ _ = _ := e_rows_in (k := k + 3) (n := n) (by omega)
  have e6 : Ph Ir.prog (k + 4) _ _ = _ := e_prod (k := k + 3) (fine_pow (n + 1)) (.inr rfl) ha ha2 hb hb2
  have e7 : Ph Ir.prog (k + 4) _ _ = _ := e_lowered_in (k := k + 3) (m := n) (a := op (2 ^ (n + 1)) a b) hn (op_pos ha ha2 hb)
  have e8 : Ph Ir.prog (k + 4) _ _ = _ := e_lowered_in (k := k + 3) (m := n) hn ha
  have e9 : Ph Ir.prog (k + 4) _ _ = _ := e_lowered_in (k := k + 3) (m := n) hn hb
  have e10 : Ph Ir.prog (k + 4) _ _ = _ := e_prod (k := k + 3) (fine_pow n) (.inr rfl) (pr_pos (N := 2 ^ n) (x := a)) (pr_le hN) (pr_pos (N := 2 ^ n) (x := b)) (pr_le hN)
  obtain ⟨Φ, hΦ⟩ := hide (Ph Ir.prog (k + 4))
  simp only [← hΦ] at *
  try clear hΦ
  obtain ⟨X, hhX⟩ := hide (rowsD (2 ^ n))
  simp only [← hhX] at *
  try clear hhX
  obtain ⟨Y, hhY⟩ := hide (rowsD (2 ^ (n + 1)))
  simp only [← hhY] at *
  try clear hhY
  obtain ⟨u, hhu⟩ := hide (pr (2 ^ n) (op (2 ^ (n + 1)) a b))
  simp only [← hhu] at *
  try clear hhu
  obtain ⟨v, hhv⟩ := hide (op (2 ^ n) (pr (2 ^ n) a) (pr (2 ^ n) b))
  simp only [← hhv] at *
  try clear hhv
  obtain ⟨w, hhw⟩ := hide (op (2 ^ (n + 1)) a b)
  simp only [← hhw] at *
  try clear hhw
  obtain ⟨x, hhx⟩ := hide (pr (2 ^ n) a)
  simp only [← hhx] at *
  try clear hhx
  obtain ⟨y, hhy⟩ := hide (pr (2 ^ n) b)
  simp only [← hhy] at *
  try clear hhy
  apply Ir.ru_lowered_product
  apply ans_next
  · (simp [e1, -ev_comp] <;> first | rfl | exact ⟨rfl, rfl⟩)
  apply ans_next
  · (simp [e2, -ev_comp] <;> first | rfl | exact ⟨rfl, rfl⟩)
  apply ans_next
  · (simp [e3, -ev_comp] <;> first | rfl | exact ⟨rfl, rfl⟩)
  apply ans_next
  · (simp [e4, e6, e7, -ev_comp] <;> first | rfl | exact ⟨rfl, rfl⟩)
  apply ans_ret
  · (simp [e5, e8, e9, e10, -ev_comp] <;> first | rfl | exact ⟨rfl, rfl⟩)
  · exact ⟨rfl, rfl⟩
end
end Ev
namespace Ev
open PySem Pv L2 Lv
theorem c_sure_from {k : Nat} {rs : List R} : Ph Ir.prog (k + 1) "sure_from" rs = runF (Ph Ir.prog k) Ir.f_sure_from rs := rfl
theorem c_is_from {k : Nat} {rs : List R} : Ph Ir.prog (k + 1) "is_from" rs = runF (Ph Ir.prog k) Ir.f_is_from rs := rfl
theorem rows_drop {N : Nat} : cutA (rowsD N) (some 1) none = (upN N).map fun a => .list (nL (rowN N a)) := by
  rw [cut_drop (by omega)]
  apply List.ext_getElem?
  intro i
  rw [List.getElem?_drop]
  by_cases h : i < N
  · rw [show (1 : Int).toNat + i = i + 1 by omega, rowsD_at (by omega) (by omega), rowD_eq, List.getElem?_map]
    unfold upN
    rw [List.getElem?_map, List.getElem?_range h]
    rfl
  · rw [List.getElem?_eq_none (by rw [rowsD_len]; omega), List.getElem?_eq_none (by rw [List.length_map, upN_len]; omega)]
section
variable {k n a b c : Nat} {r s : R}
theorem e_sure_listed (hn : n ≤ 10) : Ph Ir.prog (k + 5) "sure_listed" [iv n] = some (iv n, [iv n]) := by
  rw [c_sure_listed]
  have b1 : ¬ (10 : Int) < n := by omega
  have e1 : Ph Ir.prog (k + 4) _ _ = _ := e_sure_level (k := k) (n := n) (by omega)
  obtain ⟨Φ, hΦ⟩ := hide (Ph Ir.prog (k + 4))
  simp only [← hΦ] at *
  try clear hΦ
  apply Ir.ru_sure_listed
  apply ans_next
  · (simp [e1, -ev_comp] <;> first | rfl | exact ⟨rfl, rfl⟩)
  apply ans_next
  · (simp [b1, -ev_comp] <;> first | rfl | exact ⟨rfl, rfl⟩)
  apply ans_ret
  · (simp [-ev_comp] <;> first | rfl | exact ⟨rfl, rfl⟩)
  · exact ⟨rfl, rfl⟩
theorem e_periodsN (hn : n ≤ 10) : Ph Ir.prog (k + 6) "periods" [iv n] = some (.v (.tuple (nL ((upN (2 ^ n)).map (per (2 ^ n))))), [iv n]) := by
  rw [c_periods]
  have hN := pow_le12 (n := n) (by omega)
  have e1 : Ph Ir.prog (k + 5) _ _ = _ := e_sure_listed (k := k) hn
  have e2 : Ph Ir.prog (k + 5) _ _ = _ := e_rows_in (k := k + 4) (n := n) (by omega)
  have h1 := rows_drop (N := 2 ^ n)
  have hl : ∀ a, (rowN (2 ^ n) a).length = per (2 ^ n) a := fun a => rowN_len
  obtain ⟨Φ, hΦ⟩ := hide (Ph Ir.prog (k + 5))
  simp only [← hΦ] at *
  try clear hΦ
  obtain ⟨X, hhX⟩ := hide (rowsD (2 ^ n))
  simp only [← hhX] at *
  try clear hhX
  obtain ⟨L, hhL⟩ := hide (rowN (2 ^ n))
  simp only [← hhL] at *
  try clear hhL
  obtain ⟨p, hhp⟩ := hide (per (2 ^ n))
  simp only [← hhp] at *
  try clear hhp
  obtain ⟨N, hhN⟩ := hide ((2 ^ n : Nat))
  simp only [← hhN] at *
  try clear hhN
  apply Ir.ru_periods
  apply ans_ret
  · apply tup_n (by intro _; nofun)
    apply comp_na (upN N) (fun a => .list (nL (L a))) (fun a => .int (p a : Nat))
    · (simp [e1, e2, h1, seqD, -ev_comp] <;> first | rfl | exact ⟨rfl, rfl⟩)
    · rw [upN_len]; omega
    · intro x _
      simp [evD, hl]
  · rw [nL_map]
    exact ⟨rfl, rfl⟩
theorem e_sure_from {m z : Nat} (h : z ≤ m) : Ph Ir.prog (k + 3) "sure_from" [iv m, iv z] = some (iv m, [iv m, iv z]) := by
  rw [c_sure_from]
  have e0 : Ph Ir.prog (k + 2) "is_from" [iv m, iv z] = some (.v (.bool true), [iv m, iv z]) := by
    rw [c_is_from]
    have b1 : (z : Int) ≤ m := by omega
    have e1 : Ph Ir.prog (k + 1) _ _ = _ := e_is_number (k := k) (z := (m : Int))
    obtain ⟨Φ, hΦ⟩ := hide (Ph Ir.prog (k + 1))
    simp only [← hΦ] at *
    try clear hΦ
    apply Ir.ru_is_from
    apply ans_ret
    · (simp [e1, b1, -ev_comp] <;> first | rfl | exact ⟨rfl, rfl⟩)
    · exact ⟨rfl, rfl⟩
  obtain ⟨Φ, hΦ⟩ := hide (Ph Ir.prog (k + 2))
  simp only [← hΦ] at *
  try clear hΦ
  apply Ir.ru_sure_from
  apply ans_next
  · (simp [e0, -ev_comp] <;> first | rfl | exact ⟨rfl, rfl⟩)
  apply ans_ret
  · (simp [-ev_comp] <;> first | rfl | exact ⟨rfl, rfl⟩)
  · exact ⟨rfl, rfl⟩
theorem le2_cast (a l : Nat) (hl : l ≤ 20) : (decide ((a : Int) ≤ 2 ^ l)) = decide (a ≤ 2 ^ l) := decide_eq_decide.mpr (by rw [pow_cast]; omega)
/-- the levels up to m that have a number a, with its period there -/
def stepsL (a m : Nat) : List Nat := (List.range (m + 1)).filter fun l => decide (a ≤ 2 ^ l)
/-- the first one, or None -/
def headD (l : List Nat) : D := match l with
  | [] => .none
  | x :: _ => .int (x : Nat)
end
end Ev
namespace Ev
open PySem Pv L2 Lv
theorem c_made_in {k : Nat} {rs : List R} : Ph Ir.prog (k + 1) "made_in" rs = runF (Ph Ir.prog k) Ir.f_made_in rs := rfl
/-- a while that goes down -/
theorem while_dec {c : Pv.Env → Option (Bool × Pv.Env)} {f : Pv.Env → Option (Fl × Pv.Env)} (P : Nat → Pv.Env → Prop) (Q : Pv.Env → Prop)
    (h : ∀ m ρ, P m ρ → (∃ ρ1, c ρ = some (false, ρ1) ∧ Q ρ1) ∨ ∃ ρ1 ρ2 m', c ρ = some (true, ρ1) ∧ f ρ1 = some (.next, ρ2) ∧ m' < m ∧ P m' ρ2) : ∀ (fuel m : Nat) (ρ : Pv.Env), m < fuel → P m ρ → ∃ ρ', whileN c f fuel ρ = some (.next, ρ') ∧ Q ρ'
  | 0, _, _, h, _ => absurd h (Nat.not_lt_zero _)
  | fuel + 1, m, ρ, hf, p => by
    rcases h m ρ p with ⟨ρ1, e, q⟩ | ⟨ρ1, ρ2, m', e1, e2, lt, p'⟩
    · exact ⟨ρ1, by show (c ρ).bind _ = _; rw [e]; rfl, q⟩
    · obtain ⟨ρ3, e3, q⟩ := while_dec P Q h fuel m' ρ2 (by omega) p'
      exact ⟨ρ3, by show (c ρ).bind _ = _; rw [e1]; show (f ρ1).bind _ = _; rw [e2]; exact e3, q⟩
theorem isNone_of {α : Type} {o : Option α} {b : Bool} (h : o.isSome = b) : o.isNone = !b := by
  cases o <;> (subst h; rfl)
/-! ### dicts as sets of numbers -/
def kv (ks : List Nat) : MP := ks.map fun x : Nat => ([(x : Int)], .bool true)
theorem kv_get (ks : List Nat) (g : Nat) : (getM (kv ks) [(g : Int)]).isSome = decide (g ∈ ks) := by
  induction ks with
  | nil => rfl
  | cons x ks ih =>
    show (getM (([(x : Int)], .bool true) :: kv ks) [(g : Int)]).isSome = _
    rw [getM_cons]
    by_cases q : x = g
    · subst q
      simp
    · have q' : ¬ ([(x : Int)] : List Int) = [(g : Int)] := by simp; omega
      rw [if_neg (by simpa using q'), ih]
      simp [Ne.symm q]
theorem kv_put (ks : List Nat) (g : Nat) : putM (kv ks) [(g : Int)] (.bool true) = if g ∈ ks then kv ks else kv (ks ++ [g]) := by
  have ha : ((kv ks).any fun p => decide (p.1 = [(g : Int)])) = decide (g ∈ ks) := by
    rw [Bool.eq_iff_iff, List.any_eq_true, decide_eq_true_iff]
    constructor
    · rintro ⟨p, hp, e⟩
      obtain ⟨x, hx, rfl⟩ := List.mem_map.mp hp
      have e := of_decide_eq_true e
      have : (x : Int) = g := by simpa using e
      have : x = g := by omega
      rw [← this]
      exact hx
    · intro h
      exact ⟨_, List.mem_map.mpr ⟨g, h, rfl⟩, by simp⟩
  unfold putM
  rw [ha]
  by_cases q : g ∈ ks
  · rw [if_pos (decide_eq_true q), if_pos q]
    unfold kv
    rw [List.map_map]
    apply List.map_congr_left
    intro x _
    show (if ([(x : Int)] : List Int) = [(g : Int)] then _ else _) = _
    split <;> rfl
  · rw [if_neg (by simpa using q), if_neg q]
    unfold kv
    rw [List.map_append]
    rfl
theorem kv_len (ks : List Nat) : (kv ks).length = ks.length := by simp [kv]
theorem kv_keys (ks : List Nat) : (kv ks).map (fun p => p.1.headD 0) = ks.map fun x : Nat => (x : Int) := by
  unfold kv
  rw [List.map_map]
  rfl
theorem srt_nat (l : List Nat) : ∃ m : List Nat, srtI (l.map fun x : Nat => (x : Int)) = m.map (fun x : Nat => (x : Int)) ∧ m.Perm l ∧ m.Pairwise (· ≤ ·) := by
  have hp := srtI_perm (l.map fun x : Nat => (x : Int))
  have hs := srtI_sorted (l.map fun x : Nat => (x : Int))
  generalize srtI (l.map fun x : Nat => (x : Int)) = s at *
  refine ⟨s.map Int.toNat, ?_, ?_, ?_⟩
  · rw [List.map_map]
    conv => lhs; rw [← List.map_id s]
    apply List.map_congr_left
    intro z hz
    obtain ⟨x, _, rfl⟩ := List.mem_map.mp (hp.mem_iff.mp hz)
    rfl
  · have := hp.map Int.toNat
    rw [List.map_map] at this
    have e : l.map (Int.toNat ∘ fun x : Nat => (x : Int)) = l := by
      conv => rhs; rw [← List.map_id l]
      rfl
    rw [e] at this
    exact this
  · rw [List.pairwise_map]
    exact hs.imp fun h => Int.toNat_le_toNat h
theorem nL_ints (m : List Nat) : (m.map fun x : Nat => (x : Int)).map PyData.int = nL m := by rw [List.map_map]; rfl
/-! ### what numbers make -/
inductive Cl (N : Nat) (l : List Nat) : Nat → Prop
  | base {x : Nat} : x ∈ l → Cl N l x
  | mul {x y : Nat} : Cl N l x → Cl N l y → Cl N l (op N x y)
theorem Cl.rng {N : Nat} {l : List Nat} (hl : ∀ x ∈ l, 1 ≤ x ∧ x ≤ N) {x : Nat} (h : Cl N l x) : 1 ≤ x ∧ x ≤ N := by
  induction h with
  | base h => exact hl _ h
  | mul _ _ ih1 ih2 => exact ⟨op_pos ih1.1 ih1.2 ih2.1, op_le ih1.2 ih2.1 ih2.2⟩
/-- known ones, ones left to be done -/
def add1 (st : List Nat × List Nat) (g : Nat) : List Nat × List Nat := if g ∈ st.1 then st else (st.1 ++ [g], st.2 ++ [g])
theorem adds (G : List Nat) : ∀ st : List Nat × List Nat, st.1.Nodup → ∃ new : List Nat, G.foldl add1 st = (st.1 ++ new, st.2 ++ new) ∧ (st.1 ++ new).Nodup ∧ (∀ x ∈ new, x ∈ G) ∧ ∀ x ∈ G, x ∈ st.1 ++ new := by
  induction G with
  | nil => exact fun st h => ⟨[], by simp, by simpa using h, by simp, by simp⟩
  | cons g G ih =>
    intro st h
    rw [List.foldl_cons]
    by_cases q : g ∈ st.1
    · have e : add1 st g = st := if_pos q
      rw [e]
      obtain ⟨new, e1, e2, e3, e4⟩ := ih st h
      exact ⟨new, e1, e2, fun x hx => List.mem_cons_of_mem _ (e3 x hx), fun x hx => by
        rcases List.mem_cons.mp hx with rfl | hx
        · exact List.mem_append_left _ q
        · exact e4 x hx⟩
    · have e : add1 st g = (st.1 ++ [g], st.2 ++ [g]) := if_neg q
      rw [e]
      obtain ⟨new, e1, e2, e3, e4⟩ := ih (st.1 ++ [g], st.2 ++ [g]) (by
        rw [List.nodup_append]
        exact ⟨h, by simp, fun x hx y hy => by rw [List.mem_singleton.mp hy]; exact fun z => q (z ▸ hx)⟩)
      refine ⟨g :: new, by rw [e1]; simp, by simpa using e2, fun x hx => ?_, fun x hx => ?_⟩
      · rcases List.mem_cons.mp hx with rfl | hx
        · exact List.mem_cons_self ..
        · exact List.mem_cons_of_mem _ (e3 x hx)
      · rcases List.mem_cons.mp hx with rfl | hx
        · simp
        · have := e4 x hx
          simpa using this
theorem nodup_sub : ∀ {l m : List Nat}, l.Nodup → (∀ x ∈ l, x ∈ m) → l.length ≤ m.length
  | [], _, _, _ => Nat.zero_le _
  | x :: l, m, h, hs => by
    obtain ⟨h1, h2⟩ := List.nodup_cons.mp h
    have hx := hs x (List.mem_cons_self ..)
    have z := nodup_sub (m := m.erase x) h2 fun y hy => (List.mem_erase_of_ne (a := y) (b := x) fun e => h1 (by rw [← e]; exact hy)).mpr (hs y (List.mem_cons_of_mem _ hy))
    rw [List.length_erase_of_mem hx] at z
    have := List.length_pos_of_mem hx
    rw [List.length_cons]
    omega
theorem nodup_len {N : Nat} {l : List Nat} (h : l.Nodup) (hl : ∀ x ∈ l, 1 ≤ x ∧ x ≤ N) : l.length ≤ N := by
  have := nodup_sub (m := upN N) h fun x hx => mem_upN.mpr (hl x hx)
  rwa [upN_len] at this
/-- the slots of made_in in its while -/
def mEnv (r q : R) (o3 o5 o6 : Option R) (ks left : List Nat) : Pv.Env := [some r, some q, some (.m false (kv ks)), o3, some (.l (nL left)), o5, o6]
structure MInv (N : Nat) (l ks left : List Nat) : Prop where
  nd : ks.Nodup
  nl : left.Nodup
  sub : ∀ x ∈ left, x ∈ ks
  base : ∀ x ∈ l, x ∈ ks
  cl : ∀ x ∈ ks, Cl N l x
  ok : ∀ x ∈ ks, ∀ y ∈ ks, x ∉ left → y ∉ left → op N x y ∈ ks
section
variable {k N : Nat} {r q : R} {l : List Nat}
/-- the two products of a pair, put in where new -/
theorem m_pair {Φ : Phi} (hr : r.own = true ∨ ∃ d, r = .v d) (own its : Nat) (ks left : List Nat) (hk : ks.length ≤ 10000) (hl : left.length ≤ 10000) (o5 o6 : Option R)
    (e1 : Φ "product_in" [r, iv own, iv its] = some (iv (op N own its), [r, iv own, iv its])) (e2 : Φ "product_in" [r, iv its, iv own] = some (iv (op N its own), [r, iv its, iv own])) :
    ∃ o6', ex Φ (.seq (.for_ (.nm 6) (.it (.tup (.cons (.call "product_in" (.cons (.var 0) (.cons (.var 3) (.cons (.var 5) .nil)))) (.cons (.call "product_in" (.cons (.var 0) (.cons (.var 5) (.cons (.var 3) .nil)))) .nil)))) (.seq (.if_ (.tdin true 2 (.var 6)) (.seq (.dput 2 (.var 6) (.bl true)) (.seq (.app 4 (.var 6)) .skip)) .skip) .skip)) .skip) (mEnv r q (some (iv own)) (some (iv its)) o6 ks left) =
      some (.next, mEnv r q (some (iv own)) (some (iv its)) o6' ([op N own its, op N its own].foldl add1 (ks, left)).1 ([op N own its, op N its own].foldl add1 (ks, left)).2) := by
  have one : ∀ (g : Nat) (o6 : Option R) (ks left : List Nat), ks.length ≤ 10001 → left.length ≤ 10001 → (bindT (.nm 6) (.int (g : Nat)) (mEnv r q (some (iv own)) (some (iv its)) o6 ks left)).bind (fun ρ2 => ex Φ (.seq (.if_ (.tdin true 2 (.var 6)) (.seq (.dput 2 (.var 6) (.bl true)) (.seq (.app 4 (.var 6)) .skip)) .skip) .skip) ρ2) =
      some (.next, mEnv r q (some (iv own)) (some (iv its)) (some (iv g)) (add1 (ks, left) g).1 (add1 (ks, left) g).2) := by
    intro g o6 ks left h1 h2
    have hg := kv_get ks g
    have hp := kv_put ks g
    have k1 : okN ((kv ks).length + 1) = true := okN_t (by rw [kv_len]; omega)
    have k2 : okN ((nL left).length + 1) = true := okN_t (by rw [nL_len]; omega)
    have ha : nL left ++ [PyData.int (g : Nat)] = nL (left ++ [g]) := by rw [← nL_app]; rfl
    unfold mEnv add1
    by_cases w : g ∈ ks
    · have hn : (getM (kv ks) [(g : Int)]).isNone = false := by rw [isNone_of hg]; simp [w]
      rw [if_pos w]
      generalize kv ks = K at *
      generalize nL left = T at *
      simp [hn]
    · have hn : (getM (kv ks) [(g : Int)]).isNone = true := by rw [isNone_of hg]; simp [w]
      rw [if_neg w] at hp ⊢
      generalize kv ks = K at *
      generalize kv (ks ++ [g]) = K2 at *
      generalize nL (left ++ [g]) = T2 at *
      generalize nL left = T at *
      simp [hn, hp, k1, k2, ha]
  have len1 : ∀ g : Nat, (add1 (ks, left) g).1.length ≤ 10001 ∧ (add1 (ks, left) g).2.length ≤ 10001 := fun g => by
    unfold add1
    split
    · exact ⟨by show ks.length ≤ 10001; omega, by show left.length ≤ 10001; omega⟩
    · exact ⟨by simp; omega, by simp; omega⟩
  refine ⟨some (iv (op N its own)), ?_⟩
  refine seq_n (for_n (ρ1 := mEnv r q (some (iv own)) (some (iv its)) o6 ks left) (ds := [.int (op N own its : Nat), .int (op N its own : Nat)]) ?_ ?_) rfl
  · unfold mEnv
    generalize kv ks = K
    generalize nL left = T
    generalize op N own its = u at *
    generalize op N its own = v at *
    rcases hr with hr | ⟨d, rfl⟩
    · simp [hr, e1, e2, seqD]
    · simp [e1, e2, seqD]
  · show ((bindT (.nm 6) (.int (op N own its : Nat)) _).bind _).bind _ = _
    rw [one _ o6 ks left (by omega) (by omega)]
    obtain ⟨l1, l2⟩ := len1 (op N own its)
    show ((bindT (.nm 6) (.int (op N its own : Nat)) _).bind _).bind _ = _
    rw [one _ _ _ _ l1 l2]
    rfl
theorem foldl_add {st : List Nat × List Nat} (a b : Nat) (S : List Nat) (f g : Nat → Nat) : S.foldl (fun st x => [f x, g x].foldl add1 st) st = (S.flatMap fun x => [f x, g x]).foldl add1 st := by
  induction S generalizing st with
  | nil => rfl
  | cons x S ih => rw [List.foldl_cons, ih, List.flatMap_cons, List.foldl_append]
theorem m_row {Φ : Phi} (hr : r.own = true ∨ ∃ d, r = .v d) (own : Nat) (hN : N ≤ 4096) (S : List Nat) (hS : ∀ x ∈ S, 1 ≤ x ∧ x ≤ N)
    (e1 : ∀ x, 1 ≤ x → x ≤ N → Φ "product_in" [r, iv own, iv x] = some (iv (op N own x), [r, iv own, iv x])) (e2 : ∀ x, 1 ≤ x → x ≤ N → Φ "product_in" [r, iv x, iv own] = some (iv (op N x own), [r, iv x, iv own]))
    (cl : Nat → Prop) (hcl : ∀ x ∈ S, (1 ≤ op N own x ∧ op N own x ≤ N) ∧ (1 ≤ op N x own ∧ op N x own ≤ N)) :
    ∀ (ks left : List Nat) (o5 o6 : Option R), ks.Nodup → left.Nodup → (∀ x ∈ ks, 1 ≤ x ∧ x ≤ N) → (∀ x ∈ left, x ∈ ks) →
    ∃ o5' o6', forL (fun d ρ => (bindT (.nm 5) d ρ).bind fun ρ2 => ex Φ (.seq (.for_ (.nm 6) (.it (.tup (.cons (.call "product_in" (.cons (.var 0) (.cons (.var 3) (.cons (.var 5) .nil)))) (.cons (.call "product_in" (.cons (.var 0) (.cons (.var 5) (.cons (.var 3) .nil)))) .nil)))) (.seq (.if_ (.tdin true 2 (.var 6)) (.seq (.dput 2 (.var 6) (.bl true)) (.seq (.app 4 (.var 6)) .skip)) .skip) .skip)) .skip) ρ2) (nL S) (mEnv r q (some (iv own)) o5 o6 ks left) =
      some (.next, mEnv r q (some (iv own)) o5' o6' (S.foldl (fun st x => [op N own x, op N x own].foldl add1 st) (ks, left)).1 (S.foldl (fun st x => [op N own x, op N x own].foldl add1 st) (ks, left)).2) := by
  induction S with
  | nil => exact fun ks left o5 o6 _ _ _ _ => ⟨o5, o6, rfl⟩
  | cons x S ih =>
    intro ks left o5 o6 nd nl hk hs
    obtain ⟨x1, x2⟩ := hS x (List.mem_cons_self ..)
    obtain ⟨⟨c1, c2⟩, c3, c4⟩ := hcl x (List.mem_cons_self ..)
    have b1 := nodup_len nd hk
    have b2 := nodup_sub nl hs
    obtain ⟨o6', e⟩ := m_pair (q := q) (o5 := o5) hr own x ks left (by omega) (by omega) o6 (e1 x x1 x2) (e2 x x1 x2)
    obtain ⟨new, a1, a2, a3, a4⟩ := adds [op N own x, op N x own] (ks, left) nd
    have nd2 : ((([op N own x, op N x own].foldl add1 (ks, left)).1)).Nodup := by rw [a1]; exact a2
    have nl2 : ((([op N own x, op N x own].foldl add1 (ks, left)).2)).Nodup := by
      rw [a1]
      have z := List.nodup_append.mp a2
      exact List.nodup_append.mpr ⟨nl, z.2.1, fun y hy w hw => z.2.2 y (hs y hy) w hw⟩
    have hk2 : ∀ y ∈ ([op N own x, op N x own].foldl add1 (ks, left)).1, 1 ≤ y ∧ y ≤ N := fun y hy => by
      rw [a1] at hy
      rcases List.mem_append.mp hy with hy | hy
      · exact hk y hy
      · have := a3 y hy
        simp only [List.mem_cons, List.not_mem_nil, or_false] at this
        rcases this with rfl | rfl
        · exact ⟨c1, c2⟩
        · exact ⟨c3, c4⟩
    have hs2 : ∀ y ∈ ([op N own x, op N x own].foldl add1 (ks, left)).2, y ∈ ([op N own x, op N x own].foldl add1 (ks, left)).1 := fun y hy => by
      rw [a1] at hy ⊢
      rcases List.mem_append.mp hy with hy | hy
      · exact List.mem_append_left _ (hs y hy)
      · exact List.mem_append_right _ hy
    obtain ⟨o5', o6'', e'⟩ := ih (fun y hy => hS y (List.mem_cons_of_mem _ hy)) (fun y hy => hcl y (List.mem_cons_of_mem _ hy)) _ _ (some (iv x)) o6' nd2 nl2 hk2 hs2
    refine ⟨o5', o6'', ?_⟩
    show ((bindT (.nm 5) (.int (x : Nat)) (mEnv r q (some (iv own)) o5 o6 ks left)).bind _).bind _ = _
    have eb : bindT (.nm 5) (.int (x : Nat)) (mEnv r q (some (iv own)) o5 o6 ks left) = some (mEnv r q (some (iv own)) (some (iv x)) o6 ks left) := rfl
    rw [eb]
    show (ex Φ _ (mEnv r q (some (iv own)) (some (iv x)) o6 ks left)).bind _ = _
    rw [e]
    exact e'
theorem last_nL (l : List Nat) (x : Nat) : nL (l ++ [x]) = nL l ++ [PyData.int (x : Nat)] := by rw [← nL_app]; rfl
/-- what the numbers make, in order -/
theorem e_made_in (F : Fine N) (hN : N ≤ 4096) (hr : RowsR N r) (hl : ∀ x ∈ l, 1 ≤ x ∧ x ≤ N) (hz : l.length ≤ 4096) (hq : q = .v (.tuple (nL l)) ∨ q = .l (nL l)) :
    ∃ (C : List Nat) (q' : R), C.Pairwise (· < ·) ∧ (∀ x, x ∈ C ↔ Cl N l x) ∧ Ph Ir.prog (k + 2) "made_in" [r, q] = some (.l (nL C), [r, q']) := by
  rw [c_made_in]
  have hr2 : r.own = true ∨ ∃ d, r = .v d := by rcases hr with rfl | rfl <;> first | exact .inl rfl | exact .inr ⟨_, rfl⟩
  have e1 : ∀ x y, 1 ≤ x → x ≤ N → 1 ≤ y → y ≤ N → Ph Ir.prog (k + 1) "product_in" [r, iv x, iv y] = some (iv (op N x y), [r, iv x, iv y]) := fun x y h1 h2 h3 h4 => e_prod F hr h1 h2 h3 h4
  obtain ⟨Φ, hΦ⟩ := hide (Ph Ir.prog (k + 1))
  rw [← hΦ] at e1 ⊢
  clear hΦ
  obtain ⟨q1, hq1, hi⟩ : ∃ q1, (q1 = .v (.tuple (nL l)) ∨ q1 = .v (.list (nL l))) ∧ ∀ a b c d e : Option R, evI Φ (.it (.var 1)) [some r, some q, a, b, c, d, e] = some (nL l, [some r, some q1, a, b, c, d, e]) := by
    rcases hq with rfl | rfl
    · exact ⟨_, .inl rfl, fun a b c d e => by simp [seqD]⟩
    · exact ⟨_, .inr rfl, fun a b c d e => by simp [seqD]⟩
  -- the first ones
  have first : ∀ (m : List Nat) (ks : List Nat) (o3 : Option R), ks.Nodup → ks.length + m.length ≤ 10000 → ∃ ks' o3', ks'.Nodup ∧ (∀ x, x ∈ ks' ↔ x ∈ ks ∨ x ∈ m) ∧
      forL (fun d ρ => (bindT (.nm 3) d ρ).bind fun ρ2 => ex Φ (.seq (.dput 2 (.var 3) (.bl true)) .skip) ρ2) (nL m) [some r, some q1, some (.m false (kv ks)), o3, none, none, none] = some (.next, [some r, some q1, some (.m false (kv ks')), o3', none, none, none]) := by
    intro m
    induction m with
    | nil => exact fun ks o3 nd _ => ⟨ks, o3, nd, by simp, rfl⟩
    | cons x m ih =>
      intro ks o3 nd hb
      rw [List.length_cons] at hb
      have hp := kv_put ks x
      have k1 : okN ((kv ks).length + 1) = true := okN_t (by rw [kv_len]; omega)
      have st : (bindT (.nm 3) (.int (x : Nat)) [some r, some q1, some (.m false (kv ks)), o3, none, none, none]).bind (fun ρ2 => ex Φ (.seq (.dput 2 (.var 3) (.bl true)) .skip) ρ2) = some (.next, [some r, some q1, some (.m false (if x ∈ ks then kv ks else kv (ks ++ [x]))), some (iv x), none, none, none]) := by
        rw [← hp]
        generalize kv ks = K at *
        simp [k1]
      obtain ⟨ks2, h1, h2, h3, h4⟩ : ∃ ks2 : List Nat, (if x ∈ ks then kv ks else kv (ks ++ [x])) = kv ks2 ∧ ks2.Nodup ∧ ks2.length ≤ ks.length + 1 ∧ ∀ y, y ∈ ks2 ↔ y ∈ ks ∨ y = x := by
        by_cases w : x ∈ ks
        · exact ⟨ks, if_pos w, nd, by omega, fun y => ⟨.inl, fun h => h.elim id fun e => e ▸ w⟩⟩
        · exact ⟨ks ++ [x], if_neg w, List.nodup_append.mpr ⟨nd, by simp, fun y hy z hz => by rw [List.mem_singleton.mp hz]; exact fun e => w (e ▸ hy)⟩, by simp, fun y => by simp⟩
      obtain ⟨ks', o3', a1, a2, a3⟩ := ih ks2 (some (iv x)) h2 (by omega)
      refine ⟨ks', o3', a1, fun y => ?_, ?_⟩
      · rw [a2 y, h4 y, List.mem_cons]
        constructor
        · rintro ((h | h) | h)
          · exact .inl h
          · exact .inr (.inl h)
          · exact .inr (.inr h)
        · rintro (h | h | h)
          · exact .inl (.inl h)
          · exact .inl (.inr h)
          · exact .inr h
      · show ((bindT (.nm 3) (.int (x : Nat)) _).bind _).bind _ = _
        rw [st, h1]
        exact a3
  obtain ⟨ks0, o3, nd0, mem0, ef⟩ := first l [] none (by simp) (by simp; omega)
  have mem0 : ∀ x, x ∈ ks0 ↔ x ∈ l := fun x => by simpa using mem0 x
  obtain ⟨L0, s1, s2, s3⟩ := srt_nat ks0
  have rng0 : ∀ x ∈ ks0, 1 ≤ x ∧ x ≤ N := fun x hx => hl x ((mem0 x).mp hx)
  have srt : ∀ (ks : List Nat) (a b c d : Option R), ∃ S : List Nat, S.Perm ks ∧ S.Pairwise (· ≤ ·) ∧ evE Φ (.dsort 2) [some r, some q1, some (.m false (kv ks)), a, b, c, d] = some (.l (nL S), [some r, some q1, some (.m false (kv ks)), a, b, c, d]) := fun ks a b c d => by
    obtain ⟨S, t1, t2, t3⟩ := srt_nat ks
    refine ⟨S, t2, t3, ?_⟩
    rw [ev_dsort]
    show some (R.l ((srtI ((kv ks).map fun p => p.1.headD 0)).map PyData.int), _) = _
    rw [kv_keys, t1, nL_ints]
  obtain ⟨L1, t2, t3, es⟩ := srt ks0 o3 none none none
  have nd1 : L1.Nodup := t2.symm.nodup nd0
  have rng : ∀ {ks left : List Nat}, MInv N l ks left → ∀ x ∈ ks, 1 ≤ x ∧ x ≤ N := fun M x hx => (M.cl x hx).rng hl
  obtain ⟨ρ', ew, ks, o3', o5', o6', hk, ndk, hρ⟩ := while_dec (c := evT Φ (.tcmp .Gt (.bi .len (.cons (.var 4) .nil)) (.num 0)))
    (f := ex Φ (.seq (.asg 3 (.pop 4)) (.seq (.for_ (.nm 5) (.it (.dsort 2)) (.seq (.for_ (.nm 6) (.it (.tup (.cons (.call "product_in" (.cons (.var 0) (.cons (.var 3) (.cons (.var 5) .nil)))) (.cons (.call "product_in" (.cons (.var 0) (.cons (.var 5) (.cons (.var 3) .nil)))) .nil)))) (.seq (.if_ (.tdin true 2 (.var 6)) (.seq (.dput 2 (.var 6) (.bl true)) (.seq (.app 4 (.var 6)) .skip)) .skip) .skip)) .skip)) .skip)))
    (fun m ρ => ∃ (ks left : List Nat) (o3 o5 o6 : Option R), MInv N l ks left ∧ m = N + left.length - ks.length ∧ ρ = mEnv r q1 o3 o5 o6 ks left)
    (fun ρ => ∃ (ks : List Nat) (o3 o5 o6 : Option R), (∀ x, x ∈ ks ↔ Cl N l x) ∧ ks.Nodup ∧ ρ = mEnv r q1 o3 o5 o6 ks []) (fun m ρ ⟨ks, left, o3, o5, o6, M, hm, hρ⟩ => by
      subst hρ
      have rk := rng M
      have lk := nodup_len M.nd rk
      have ll := nodup_sub M.nl M.sub
      rcases List.eq_nil_or_concat left with rfl | ⟨left0, own, hcc⟩
      · refine .inl ⟨mEnv r q1 o3 o5 o6 ks [], ?_, ks, o3, o5, o6, fun x => ⟨M.cl x, fun h => ?_⟩, M.nd, rfl⟩
        · unfold mEnv
          generalize kv ks = K
          simp
        · induction h with
          | base h => exact M.base _ h
          | mul _ _ i1 i2 => exact M.ok _ i1 _ i2 (by simp) (by simp)
      · rw [List.concat_eq_append] at hcc
        subst hcc
        have nl0 := List.nodup_append.mp M.nl
        have own_k := M.sub own (by simp)
        obtain ⟨w1, w2⟩ := rk own own_k
        obtain ⟨S, u2, u3, eS⟩ := srt ks (some (iv own)) (some (.l (nL left0))) o5 o6
        have hS : ∀ x ∈ S, 1 ≤ x ∧ x ≤ N := fun x hx => rk x (u2.mem_iff.mp hx)
        have sub0 : ∀ x ∈ left0, x ∈ ks := fun x hx => M.sub x (List.mem_append_left _ hx)
        obtain ⟨o5', o6', er⟩ := m_row (Φ := Φ) (q := q1) hr2 own hN S hS (fun x h1 h2 => e1 own x w1 w2 h1 h2) (fun x h1 h2 => e1 x own h1 h2 w1 w2) (fun _ => True)
          (fun x hx => ⟨⟨op_pos w1 w2 (hS x hx).1, op_le w2 (hS x hx).1 (hS x hx).2⟩, op_pos (hS x hx).1 (hS x hx).2 w1, op_le (hS x hx).2 w1 w2⟩) ks left0 o5 o6 M.nd nl0.1 rk sub0
        rw [foldl_add 0 0] at er
        obtain ⟨new, a1, a2, a3, a4⟩ := adds (S.flatMap fun x => [op N own x, op N x own]) (ks, left0) M.nd
        rw [a1] at er
        have nda := List.nodup_append.mp a2
        have inG : ∀ x ∈ ks, op N own x ∈ ks ++ new ∧ op N x own ∈ ks ++ new := fun x hx => by
          have hx' : x ∈ S := u2.mem_iff.mpr hx
          exact ⟨a4 _ (List.mem_flatMap.mpr ⟨x, hx', by simp⟩), a4 _ (List.mem_flatMap.mpr ⟨x, hx', by simp⟩)⟩
        refine .inr ⟨mEnv r q1 o3 o5 o6 ks (left0 ++ [own]), mEnv r q1 (some (iv own)) o5' o6' (ks ++ new) (left0 ++ new), N + (left0 ++ new).length - (ks ++ new).length, ?_, ?_, ?_, ks ++ new, left0 ++ new, _, _, _, ?_, rfl, rfl⟩
        · unfold mEnv
          rw [last_nL]
          generalize kv ks = K
          generalize nL left0 = T
          simp
        · refine seq_n (ρ1 := mEnv r q1 (some (iv own)) o5 o6 ks left0) ?_ (seq_n (for_n (ρ1 := mEnv r q1 (some (iv own)) o5 o6 ks left0) (ds := nL S) ?_ er) rfl)
          · unfold mEnv
            rw [last_nL]
            generalize kv ks = K
            generalize nL left0 = T
            simp
          · rw [iv_it]
            show (evE Φ (.dsort 2) [some r, some q1, some (.m false (kv ks)), some (iv own), some (.l (nL left0)), o5, o6]).bind _ = _
            rw [eS]
            rfl
        · rw [List.length_append] at hm ll ⊢
          rw [List.length_append]
          simp only [List.length_singleton] at hm ll
          omega
        · refine ⟨a2, ?_, ?_, fun x hx => List.mem_append_left _ (M.base x hx), ?_, ?_⟩
          · exact List.nodup_append.mpr ⟨nl0.1, nda.2.1, fun y hy w hw => nda.2.2 y (sub0 y hy) w hw⟩
          · intro y hy
            rcases List.mem_append.mp hy with hy | hy
            · exact List.mem_append_left _ (sub0 y hy)
            · exact List.mem_append_right _ hy
          · intro y hy
            rcases List.mem_append.mp hy with hy | hy
            · exact M.cl y hy
            · obtain ⟨x, hx, hg⟩ := List.mem_flatMap.mp (a3 y hy)
              have cx := M.cl x (u2.mem_iff.mp hx)
              have co := M.cl own own_k
              simp only [List.mem_cons, List.not_mem_nil, or_false] at hg
              rcases hg with rfl | rfl
              · exact .mul co cx
              · exact .mul cx co
          · intro x hx y hy nx ny
            have hx : x ∈ ks := (List.mem_append.mp hx).resolve_right fun h => nx (List.mem_append_right _ h)
            have hy : y ∈ ks := (List.mem_append.mp hy).resolve_right fun h => ny (List.mem_append_right _ h)
            by_cases ex : x = own
            · rw [ex]
              exact (inG y hy).1
            · by_cases ey : y = own
              · rw [ey]
                exact (inG x hx).2
              · refine List.mem_append_left _ (M.ok x hx y hy (fun h => ?_) fun h => ?_)
                · rcases List.mem_append.mp h with h | h
                  · exact nx (List.mem_append_left _ h)
                  · exact ex (List.mem_singleton.mp h)
                · rcases List.mem_append.mp h with h | h
                  · exact ny (List.mem_append_left _ h)
                  · exact ey (List.mem_singleton.mp h)) WF (N + L1.length - ks0.length) (mEnv r q1 o3 none none ks0 L1) (by
      have := nodup_len nd0 rng0
      have := t2.length_eq
      unfold WF
      omega) ⟨ks0, L1, o3, none, none, ⟨nd0, nd1, fun x hx => t2.mem_iff.mp hx, fun x hx => (mem0 x).mpr hx, fun x hx => .base ((mem0 x).mp hx), fun x hx y hy nx => absurd (t2.mem_iff.mpr hx) nx⟩, rfl, rfl⟩
  subst hρ
  obtain ⟨C, v2, v3, eC⟩ := srt ks o3' (some (.l (nL []))) o5' o6'
  refine ⟨C, q1, ?_, fun x => by rw [v2.mem_iff, hk], ?_⟩
  · have nC : C.Nodup := v2.symm.nodup ndk
    refine List.Pairwise.imp₂ (fun a b h1 h2 => ?_) v3 nC
    have h2 : a ≠ b := h2
    omega
  · apply Ir.ru_made_in
    have st0 : (if r.own = true then some r else some r) = some r := by split <;> rfl
    apply ans_next
    · show _ = some (Fl.next, [some r, some q, some (.m false (kv [])), none, none, none, none])
      simp [kv]
    apply ans_next
    · exact for_n (hi _ _ _ _ _) ef
    apply ans_next
    · exact asg_n es
    apply ans_next
    · exact whl_n ew
    apply ans_ret
    · exact eC
    · exact ⟨rfl, rfl⟩
end
end Ev
namespace Ev
open PySem Pv L2 Lv
/-! ### rows go up -/
theorem op_up {N a : Nat} (h : a < N) : ∀ j i, 1 ≤ i → (∀ t, i ≤ t → t < i + j → op N a t < N) → j ≠ 0 → op N a i < op N a (i + j) := by
  intro j
  induction j with
  | zero => exact fun i _ _ z => absurd rfl z
  | succ j ih =>
    intro i hi hj _
    have s : op N a (i + j) < op N a (i + j + 1) := by
      rw [op_succ h (by omega)]
      exact op_gt (hj (i + j) (by omega) (by omega)) (by omega)
    by_cases q : j = 0
    · subst q
      exact s
    · exact Nat.lt_trans (ih i hi (fun t h1 h2 => hj t h1 (by omega)) q) s
theorem row_up {N a : Nat} (F : Fine N) (ha : 1 ≤ a) (h : a ≤ N) {i j : Nat} (hi : 1 ≤ i) (hj : j ≤ per N a) (hij : i < j) : op N a i < op N a j := by
  obtain ⟨P, _, pl⟩ := perP F ha h
  by_cases q : a = N
  · subst q
    rw [op_N, op_N]
    exact hij
  · have z := op_up (N := N) (a := a) (by omega) (j - i) i hi (fun t h1 h2 => P.lt t (by omega) (by omega)) (by omega)
    rwa [show i + (j - i) = j by omega] at z
theorem rowN_asc {N a : Nat} (F : Fine N) (ha : 1 ≤ a) (h : a ≤ N) : (rowN N a).Pairwise (· < ·) := by
  rw [List.pairwise_iff_getElem]
  intro i j hi hj hij
  rw [rowN_len] at hi hj
  simp only [rowN, List.getElem_map, List.getElem_range]
  exact row_up F ha h (by omega) (by omega) (by omega)
theorem asc_same : ∀ {l m : List Nat}, l.Pairwise (· < ·) → m.Pairwise (· < ·) → (∀ x, x ∈ l ↔ x ∈ m) → l = m
  | [], [], _, _, _ => rfl
  | [], y :: m, _, _, h => absurd ((h y).mpr (List.mem_cons_self ..)) (by simp)
  | x :: l, [], _, _, h => absurd ((h x).mp (List.mem_cons_self ..)) (by simp)
  | x :: l, y :: m, h1, h2, h => by
    obtain ⟨a1, a2⟩ := List.pairwise_cons.mp h1
    obtain ⟨b1, b2⟩ := List.pairwise_cons.mp h2
    have e : x = y := by
      have hx := (h x).mp (List.mem_cons_self ..)
      have hy := (h y).mpr (List.mem_cons_self ..)
      rcases List.mem_cons.mp hx with e | hx
      · exact e
      · rcases List.mem_cons.mp hy with e | hy
        · exact e.symm
        · have := a1 y hy
          have := b1 x hx
          omega
    subst e
    rw [asc_same a2 b2 fun z => ?_]
    constructor
    · intro hz
      rcases List.mem_cons.mp ((h z).mp (List.mem_cons_of_mem _ hz)) with e | hz'
      · have := a1 z hz
        omega
      · exact hz'
    · intro hz
      rcases List.mem_cons.mp ((h z).mpr (List.mem_cons_of_mem _ hz)) with e | hz'
      · have := b1 z hz
        omega
      · exact hz'
theorem cut_asc {N : Nat} : ∀ {l : List Nat}, l.Pairwise (· < ·) → (∀ x ∈ l.take (l.countP fun x => decide (x ≤ N)), x ≤ N) ∧ ∀ x ∈ l.drop (l.countP fun x => decide (x ≤ N)), N < x
  | [], _ => ⟨by simp, by simp⟩
  | x :: l, h => by
    obtain ⟨a1, a2⟩ := List.pairwise_cons.mp h
    obtain ⟨i1, i2⟩ := cut_asc (N := N) a2
    rw [List.countP_cons]
    by_cases q : x ≤ N
    · rw [if_pos (decide_eq_true q), List.take_succ_cons, List.drop_succ_cons]
      exact ⟨fun y hy => (List.mem_cons.mp hy).elim (fun e => e ▸ q) (i1 y), i2⟩
    · have z : (l.countP fun x => decide (x ≤ N)) = 0 := by
        rw [List.countP_eq_zero]
        intro y hy
        have := a1 y hy
        simp
        omega
      rw [z, if_neg (by simpa using q)]
      refine ⟨by simp, fun y hy => ?_⟩
      rcases List.mem_cons.mp hy with rfl | hy
      · omega
      · have := a1 y hy
        omega
section
variable {N a : Nat} (hN : 1 ≤ N) (F : Fine N) (F2 : Fine (2 * N)) (ha : 1 ≤ a) (h : a ≤ N)
include hN F F2 ha h
theorem pr_of_op {b : Nat} (hb : 1 ≤ b) (hb2 : b ≤ N) : pr N (op (2 * N) a b) = op N a b := by
  rw [op_pr hN F (2 * N) a (by omega) ha (by omega) b hb, pr_id ha h, pr_id hb hb2]
theorem low_or {b : Nat} (hb : 1 ≤ b) (hb2 : b ≤ N) : op (2 * N) a b = if op (2 * N) a b ≤ N then op N a b else N + op N a b := by
  have e := pr_of_op hN F F2 ha h hb hb2
  have p1 := op_pos (N := 2 * N) ha (by omega) hb
  have p2 := op_le (N := 2 * N) (a := a) (b := b) (by omega) hb (by omega)
  have q1 := op_pos (N := N) ha h hb
  split
  · rename_i q
    rw [← e, pr_id p1 q]
  · rename_i q
    have : op (2 * N) a b = N + (op (2 * N) a b - N) := by omega
    rw [this, pr_up (by omega) (by omega)] at e
    omega
theorem per_mono : per N a ≤ per (2 * N) a := by
  obtain ⟨P, _, pl⟩ := perP F ha h
  obtain ⟨Q, _, ql⟩ := perP F2 ha (by omega)
  by_cases g : per (2 * N) a ≤ N
  · have e := pr_of_op hN F F2 ha h Q.pos g
    rw [Q.at_] at e
    have : pr N (2 * N) = N := by rw [show 2 * N = N + N by omega, pr_up hN (Nat.le_refl _)]
    rw [this] at e
    rcases Nat.lt_or_ge (per (2 * N) a) (per N a) with lt | ge
    · have := P.lt _ Q.pos lt
      omega
    · exact ge
  · omega
/-- the first of the row above -/
theorem first_up : (rowN (2 * N) a).take (per N a) = (rowN N a).take (thr N a) ++ ((rowN N a).drop (thr N a)).map (· + N) := by
  have pm := per_mono hN F F2 ha h
  obtain ⟨P, _, pl⟩ := perP F ha h
  have up := (rowN_asc F2 ha (show a ≤ 2 * N by omega)).sublist (List.take_sublist (per N a) _)
  obtain ⟨c1, c2⟩ := cut_asc (N := N) up
  have ht : thr N a = ((rowN (2 * N) a).take (per N a)).countP fun x => decide (x ≤ N) := rfl
  rw [← ht] at c1 c2
  have len : ((rowN (2 * N) a).take (per N a)).length = per N a := by rw [List.length_take, rowN_len]; omega
  have tl : thr N a ≤ per N a := by rw [ht]; exact Nat.le_trans List.countP_le_length (by omega)
  have at1 : ∀ i, i < per N a → ((rowN (2 * N) a).take (per N a))[i]? = some (op (2 * N) a (i + 1)) := fun i hi => by
    rw [List.getElem?_take, if_pos hi, rowN_at (by omega)]
  apply List.ext_getElem?
  intro i
  by_cases hi : i < per N a
  · rw [at1 i hi]
    have lo := low_or hN F F2 ha h (b := i + 1) (by omega) (by omega)
    by_cases q : i < thr N a
    · rw [List.getElem?_append_left (by rw [List.length_take, rowN_len]; omega), List.getElem?_take, if_pos q, rowN_at hi]
      have m := c1 (op (2 * N) a (i + 1)) (by
        rw [List.mem_iff_getElem?]
        exact ⟨i, by rw [List.getElem?_take, if_pos q, at1 i hi]⟩)
      rw [if_pos m] at lo
      rw [lo]
    · rw [List.getElem?_append_right (by rw [List.length_take, rowN_len]; omega), List.length_take, rowN_len, Nat.min_eq_left tl, List.getElem?_map, List.getElem?_drop, show thr N a + (i - thr N a) = i by omega, rowN_at hi]
      have m := c2 (op (2 * N) a (i + 1)) (by
        rw [List.mem_iff_getElem?]
        exact ⟨i - thr N a, by rw [List.getElem?_drop, show thr N a + (i - thr N a) = i by omega, at1 i hi]⟩)
      rw [if_neg (by omega)] at lo
      rw [lo, Nat.add_comm]
      rfl
  · rw [List.getElem?_eq_none (by omega), List.getElem?_eq_none (by simp [rowN_len]; omega)]
theorem thr_le : thr N a ≤ per N a := by
  have len : ((rowN (2 * N) a).take (per N a)).length ≤ per N a := by rw [List.length_take]; omega
  exact Nat.le_trans List.countP_le_length len
/-- where a row above ends -/
theorem per_up : (op (2 * N) a (per N a) = 2 * N ∧ per (2 * N) a = per N a ∧ thr N a < per N a) ∨ (op (2 * N) a (per N a) = N ∧ per (2 * N) a = 2 * per N a ∧ thr N a = per N a ∧ ∀ j, 1 ≤ j → j ≤ per N a → op (2 * N) a (per N a + j) = N + op N a j) := by
  have pm := per_mono hN F F2 ha h
  obtain ⟨P, _, pl⟩ := perP F ha h
  obtain ⟨Q, _, ql⟩ := perP F2 ha (show a ≤ 2 * N by omega)
  have lo := low_or hN F F2 ha h P.pos pl
  rw [P.at_] at lo
  have up := (rowN_asc F2 ha (show a ≤ 2 * N by omega)).sublist (List.take_sublist (per N a) _)
  obtain ⟨c1, c2⟩ := cut_asc (N := N) up
  have ht : thr N a = ((rowN (2 * N) a).take (per N a)).countP fun x => decide (x ≤ N) := rfl
  rw [← ht] at c1 c2
  have tl := thr_le hN F F2 ha h
  have Pp := P.pos
  have at1 : ∀ i, i < per N a → ((rowN (2 * N) a).take (per N a))[i]? = some (op (2 * N) a (i + 1)) := fun i hi => by
    rw [List.getElem?_take, if_pos hi, rowN_at (by omega)]
  split at lo
  · right
    have aN : a < N := by
      rcases Nat.lt_or_ge a N with g | g
      · exact g
      · have e : a = N := by omega
        subst e
        rw [up_N hN F (b := per a a) (by omega)] at lo
        have := pr_pos (N := a) (x := per a a)
        omega
    have tp : thr N a = per N a := by
      rcases Nat.lt_or_ge (thr N a) (per N a) with g | g
      · have m := c2 (op (2 * N) a (per N a)) (by
          rw [List.mem_iff_getElem?]
          exact ⟨per N a - 1 - thr N a, by rw [List.getElem?_drop, show thr N a + (per N a - 1 - thr N a) = per N a - 1 by omega, at1 _ (by omega), show per N a - 1 + 1 = per N a by omega]⟩)
        omega
      · omega
    have later : ∀ j, 1 ≤ j → j ≤ per N a → op (2 * N) a (per N a + j) = N + op N a j := by
      intro j
      induction j with
      | zero => exact fun z => absurd z (by omega)
      | succ j ih =>
        intro _ hj
        rw [← Nat.add_assoc, op_succ (by omega) (by omega)]
        by_cases z : j = 0
        · subst z
          rw [Nat.add_zero, lo, up_N hN F (by omega), pr_id (by omega) (by omega), Nat.zero_add, op_one aN]
        · have lt := P.lt j (by omega) (by omega)
          have p0 := op_pos (N := N) ha h (show 1 ≤ j by omega)
          rw [ih (by omega) (by omega), up_lt hN F N (op N a j) (by omega) p0 lt (a + 1) (by omega), pr_id (by omega) (by omega), op_succ aN (by omega)]
    refine ⟨lo, ?_, tp, later⟩
    refine per_of ⟨by omega, ?_, fun j h1 h2 => ?_⟩ (by
      have := later (per N a) Pp (Nat.le_refl _)
      rw [P.at_] at this
      omega)
    · have := later (per N a) Pp (Nat.le_refl _)
      rw [P.at_] at this
      rw [show 2 * per N a = per N a + per N a by omega, this]
      omega
    · rcases Nat.lt_or_ge (per N a) j with g | g
      · have := later (j - per N a) (by omega) (by omega)
        rw [show per N a + (j - per N a) = j by omega] at this
        have := P.lt (j - per N a) (by omega) (by omega)
        omega
      · have l1 := low_or hN F F2 ha h h1 (show j ≤ N by omega)
        have m := c1 (op (2 * N) a j) (by
          rw [List.mem_iff_getElem?]
          exact ⟨j - 1, by rw [List.getElem?_take, if_pos (by omega), at1 _ (by omega), show j - 1 + 1 = j by omega]⟩)
        omega
  · left
    have e2 : op (2 * N) a (per N a) = 2 * N := by omega
    have e3 : per (2 * N) a = per N a := by
      rcases Nat.lt_or_ge (per N a) (per (2 * N) a) with g | g
      · have := Q.lt _ Pp g
        omega
      · omega
    refine ⟨e2, e3, ?_⟩
    rcases Nat.lt_or_ge (thr N a) (per N a) with g | g
    · exact g
    · have m := c1 (op (2 * N) a (per N a)) (by
        rw [List.mem_iff_getElem?]
        exact ⟨per N a - 1, by rw [List.getElem?_take, if_pos (by omega), at1 _ (by omega), show per N a - 1 + 1 = per N a by omega]⟩)
      omega
theorem rowUp_eq : rowUp N a = rowN (2 * N) a := by
  have fu := first_up hN F F2 ha h
  have pp := (perP F ha h).1.pos
  unfold rowUp
  rcases per_up hN F F2 ha h with ⟨_, e, t⟩ | ⟨_, e, t, later⟩
  · rw [if_neg (by omega), ← fu, List.take_of_length_le]
    rw [rowN_len]
    omega
  · rw [if_pos t]
    have tk : (rowN N a).take (per N a) = rowN N a := List.take_of_length_le (by rw [rowN_len]; exact Nat.le_refl _)
    rw [t, tk, List.drop_eq_nil_of_le (by rw [rowN_len]; exact Nat.le_refl _), List.map_nil, List.append_nil] at fu
    apply List.ext_getElem?
    intro i
    by_cases q : i < per N a
    · rw [List.getElem?_append_left (by rw [rowN_len]; exact q), ← fu, List.getElem?_take, if_pos q]
    · by_cases q2 : i < 2 * per N a
      · rw [List.getElem?_append_right (by rw [rowN_len]; omega), rowN_len, List.getElem?_map, rowN_at (by omega), rowN_at (by omega)]
        have z := later (i - per N a + 1) (by omega) (by omega)
        rw [show per N a + (i - per N a + 1) = i + 1 by omega] at z
        rw [z]
        simp [Nat.add_comm]
      · rw [List.getElem?_eq_none (by simp [rowN_len]; omega), List.getElem?_eq_none (by rw [rowN_len]; omega)]
/-- the rows of the upper half -/
theorem row_high (ha3 : a < N) : rowN (2 * N) (a + N) = (rowN N a).map (· + N) := by
  obtain ⟨P, _, pl⟩ := perP F ha h
  have u : ∀ b, 1 ≤ b → b ≤ N → op (2 * N) (a + N) b = N + op N a b := fun b h1 h2 => by
    rw [Nat.add_comm a N, up_lt hN F N a (by omega) ha ha3 b h1, pr_id h1 h2]
  have e : per (2 * N) (a + N) = per N a := by
    refine per_of ⟨P.pos, ?_, fun j h1 h2 => ?_⟩ (by omega)
    · rw [u _ P.pos pl, P.at_]
      omega
    · rw [u _ h1 (by omega)]
      have := P.lt j h1 h2
      omega
  unfold rowN
  rw [e, List.map_map]
  apply List.map_congr_left
  intro i hi
  have := List.mem_range.mp hi
  show op (2 * N) (a + N) (i + 1) = op N a (i + 1) + N
  rw [u _ (by omega) (by omega)]
  omega
end
theorem per_top {N : Nat} (hN : 1 ≤ N) : per N N = N := per_of ⟨hN, op_N, fun j h1 h2 => by rw [op_N]; exact h2⟩ (Nat.le_refl _)
theorem row_top {N : Nat} (hN : 1 ≤ N) : rowN N N = upN N := by
  unfold rowN upN
  rw [per_top hN]
  apply List.map_congr_left
  intro i _
  exact op_N
/-! ### copies -/
theorem op_in {N a b : Nat} (F : Fine N) (ha : 1 ≤ a) (h : a ≤ N) (hb : 1 ≤ b) (hb2 : b ≤ N) : op N a b ∈ rowN N a := by
  rw [mem_rowN]
  refine ⟨(b - 1) % per N a, Nat.mod_lt _ (per_pos F ha h), ?_⟩
  rw [op_mod F ha h (by omega), show b - 1 + 1 = b by omega]
theorem cl_row {N b : Nat} (hN : 1 ≤ N) (F : Fine N) (hb : 1 ≤ b) (hb2 : b ≤ N) (x : Nat) : Cl N [b] x ↔ x ∈ rowN N (pv N b) := by
  have p1 := pv_pos hN (x := b)
  have p2 := pv_le hN (x := b)
  have e1 : op N (pv N b) 1 = b := by rw [← nx_op hN p1 p2, nx_pv hN hb hb2]
  constructor
  · intro h
    induction h with
    | base h =>
      rw [List.mem_singleton.mp h]
      have := op_in F p1 p2 (b := 1) (by omega) hN
      rwa [e1] at this
    | mul _ _ h1 h2 =>
      obtain ⟨i, hi, rfl⟩ := mem_rowN.mp h1
      obtain ⟨j, hj, rfl⟩ := mem_rowN.mp h2
      have pl := per_le F p1 p2
      rw [← spread F p1 p2 (b := i + 1) (c := j + 1) (by omega) (by omega) (by omega) (by omega)]
      exact op_in F p1 p2 (op_pos (by omega) (by omega) (by omega)) (op_le (by omega) (by omega) (by omega))
  · intro h
    obtain ⟨j, hj, rfl⟩ := mem_rowN.mp h
    have pl := per_le F p1 p2
    induction j with
    | zero =>
      rw [Nat.zero_add, e1]
      exact .base (by simp)
    | succ j ih =>
      have i := ih (by omega) (mem_rowN.mpr ⟨j, by omega, rfl⟩)
      by_cases q : pv N b = N
      · rw [q] at i e1 ⊢
        rw [op_N] at i e1 ⊢
        subst e1
        have := Cl.mul i (.base (List.mem_cons_self (a := 1) (l := [])))
        rwa [← nx_op hN (by omega) (by omega), nx_lt hN (by omega)] at this
      · have e2 : pv N b + 1 = b := by
          have := nx_pv hN hb hb2
          rwa [nx_lt hN (by omega)] at this
        rw [op_succ (by omega) (by omega), e2]
        exact .mul i (.base (List.mem_cons_self ..))
theorem row_next {N b : Nat} (hN : 1 ≤ N) (F : Fine N) (hb : 1 ≤ b) (hb2 : b ≤ N) {j : Nat} (hj : j + 1 < per N (pv N b)) : op N (op N (pv N b) (j + 1)) b = op N (pv N b) (j + 2) := by
  have p1 := pv_pos hN (x := b)
  have p2 := pv_le hN (x := b)
  have pl := per_le F p1 p2
  by_cases q : pv N b = N
  · rw [q]
    have e1 : op N (pv N b) 1 = b := by rw [← nx_op hN p1 p2, nx_pv hN hb hb2]
    rw [q, op_N] at e1
    rw [← e1, op_N, op_N, ← nx_op hN (by omega) (by omega), nx_lt hN (by omega)]
  · have e2 : pv N b + 1 = b := by
      have := nx_pv hN hb hb2
      rwa [nx_lt hN (by omega)] at this
    rw [op_succ (b := j + 1) (by omega) (by omega), e2]
theorem dvd_pow2 : ∀ (n p : Nat), p ∣ 2 ^ n → ∃ d, d ≤ n ∧ p = 2 ^ d := by
  intro n
  induction n with
  | zero => exact fun p h => ⟨0, Nat.le_refl _, by rw [Nat.pow_zero] at h ⊢; exact Nat.dvd_one.mp h⟩
  | succ n ih =>
    intro p h
    obtain ⟨q, hq⟩ : ∃ q, p = 2 * q ∨ p = 2 * q + 1 := ⟨p / 2, by omega⟩
    rcases hq with rfl | rfl
    · obtain ⟨m, hm⟩ := h
      rw [Nat.pow_succ, Nat.mul_assoc, Nat.mul_comm 2] at hm
      obtain ⟨d, hd, e⟩ := ih q ⟨m, Nat.eq_of_mul_eq_mul_right (by omega) hm⟩
      exact ⟨d + 1, by omega, by rw [Nat.pow_succ, ← e, Nat.mul_comm]⟩
    · rw [Nat.pow_succ] at h
      obtain ⟨d, hd, e⟩ := ih _ (Nat.Coprime.dvd_of_dvd_mul_right (by
        show Nat.gcd (2 * q + 1) 2 = 1
        rw [Nat.gcd_comm, Nat.gcd_rec]
        simp) h)
      exact ⟨d, by omega, e⟩
theorem log_pow (d : Nat) : Nat.log2 (2 ^ d) = d := by
  induction d with
  | zero => rfl
  | succ d ih =>
    rw [Nat.log2_def, if_pos (by rw [Nat.pow_succ]; have := Nat.two_pow_pos d; omega), Nat.pow_succ, Nat.mul_div_cancel _ (by omega), ih]
end Ev
namespace Ev
open PySem Pv L2 Lv
theorem c_sure_low {k : Nat} {rs : List R} : Ph Ir.prog (k + 1) "sure_low" rs = runF (Ph Ir.prog k) Ir.f_sure_low rs := rfl
theorem c_sure_some {k : Nat} {rs : List R} : Ph Ir.prog (k + 1) "sure_some" rs = runF (Ph Ir.prog k) Ir.f_sure_some rs := rfl
theorem c_copy_in {k : Nat} {rs : List R} : Ph Ir.prog (k + 1) "copy_in" rs = runF (Ph Ir.prog k) Ir.f_copy_in rs := rfl
theorem c_copy_row {k : Nat} {rs : List R} : Ph Ir.prog (k + 1) "copy_row" rs = runF (Ph Ir.prog k) Ir.f_copy_row rs := rfl
theorem c_copy_level {k : Nat} {rs : List R} : Ph Ir.prog (k + 1) "copy_level" rs = runF (Ph Ir.prog k) Ir.f_copy_level rs := rfl
theorem c_made_by {k : Nat} {rs : List R} : Ph Ir.prog (k + 1) "made_by" rs = runF (Ph Ir.prog k) Ir.f_made_by rs := rfl
theorem c__law_set {k : Nat} {rs : List R} : Ph Ir.prog (k + 1) "_law_set" rs = runF (Ph Ir.prog k) Ir.f__law_set rs := rfl
/-! ### sets of numbers in order -/
theorem setU_asc : ∀ {l : List Int}, l.Pairwise (· < ·) → setU l = l
  | [], _ => rfl
  | x :: l, h => by
    obtain ⟨a1, a2⟩ := List.pairwise_cons.mp h
    show insU x (setU l) = _
    rw [setU_asc a2]
    cases l with
    | nil => rfl
    | cons y l =>
      show (if x < y then _ else _) = _
      rw [if_pos (a1 y (List.mem_cons_self ..))]
theorem ints_nL : ∀ l : List Nat, intsOf (nL l) = some (l.map fun x : Nat => (x : Int))
  | [] => rfl
  | x :: l => by
    show (intsOf (nL l)).bind _ = _
    rw [ints_nL l]
    rfl
theorem set_asc {l : List Nat} (h : l.Pairwise (· < ·)) : (setU (l.map fun x : Nat => (x : Int))).map PyData.int = nL l := by
  rw [setU_asc]
  · exact nL_ints l
  · rw [List.pairwise_map]
    exact h.imp fun z => by omega
theorem sh_nLT (l : List Nat) : SeqAt.shaped (.tuple (nL l)) = true := sh_nL l
theorem eq_nilT (l : List Nat) : eqD (.tuple (nL l)) (.tuple []) = some (decide (l = [])) := by
  have e : eqD (.tuple (nL l)) (.tuple (nL [])) = if (SeqAt.shaped (.tuple (nL l)) && SeqAt.shaped (.tuple (nL []))) = true then some (PyData.eqv (.tuple (nL l)) (.tuple (nL []))) else none := rfl
  show eqD (.tuple (nL l)) (.tuple (nL [])) = _
  rw [e, sh_nLT, sh_nLT, if_pos (show (true && true) = true from rfl)]
  show some (PyData.eqvAll (nL l) (nL [])) = _
  rw [eqv_nL]
section
variable {k n N a b : Nat} {r q : R} {l : List Nat}
theorem e__law_set (h : l.Pairwise (· < ·)) (hz : l.length ≤ 4000) (hq : q = .v (.tuple (nL l)) ∨ q = .l (nL l)) : Ph Ir.prog (k + 1) "_law_set" [q] = some (.v (.tuple (nL l)), [q]) := by
  rw [c__law_set]
  have e1 := ints_nL l
  have e2 := set_asc h
  obtain ⟨Φ, hΦ⟩ := hide (Ph Ir.prog (k + 0))
  simp only [← hΦ] at *
  try clear hΦ
  have hz2 : (l.map fun x : Nat => (x : Int)).length ≤ 4000 := by rw [List.length_map]; exact hz
  generalize (l.map fun x : Nat => (x : Int)) = L at *
  obtain ⟨X, hhX⟩ := hide (nL l)
  simp only [← hhX] at *
  try clear hhX
  rcases hq with rfl | rfl
  · apply Ir.ru__law_set
    apply ans_ret
    · (simp [e1, hz2, e2, seqD, -ev_comp] <;> first | rfl | exact ⟨rfl, rfl⟩)
    · exact ⟨rfl, rfl⟩
  · apply Ir.ru__law_set
    apply ans_ret
    · (simp [e1, hz2, e2, seqD, -ev_comp] <;> first | rfl | exact ⟨rfl, rfl⟩)
    · exact ⟨rfl, rfl⟩
theorem e_sure_low (hn : n ≤ 8) : Ph Ir.prog (k + 4) "sure_low" [iv n] = some (iv n, [iv n]) := by
  rw [c_sure_low]
  have b1 : (n : Int) ≤ 8 := by omega
  have e1 : Ph Ir.prog (k + 3) _ _ = _ := e_sure_number (k := k) (z := (n : Int)) (a := 0) (b := 8) (by omega) b1
  obtain ⟨Φ, hΦ⟩ := hide (Ph Ir.prog (k + 3))
  simp only [← hΦ] at *
  try clear hΦ
  apply Ir.ru_sure_low
  apply ans_ret
  · (simp [e1, -ev_comp] <;> first | rfl | exact ⟨rfl, rfl⟩)
  · exact ⟨rfl, rfl⟩
theorem e_sure_some (hn : n ≤ 12) (hl : ∀ x ∈ l, 1 ≤ x ∧ x ≤ 2 ^ n) (hz : l.length ≤ 16777216) (h0 : l ≠ []) : Ph Ir.prog (k + 4) "sure_some" [iv n, .v (.tuple (nL l))] = some (.v (.tuple (nL l)), [iv n, .v (.tuple (nL l))]) := by
  rw [c_sure_some]
  have e1 : Ph Ir.prog (k + 3) _ _ = _ := e_sure_all_in (k := k) hn l hl hz
  have e2 := eq_nilT l
  rw [decide_eq_false h0] at e2
  obtain ⟨Φ, hΦ⟩ := hide (Ph Ir.prog (k + 3))
  simp only [← hΦ] at *
  try clear hΦ
  obtain ⟨X, hhX⟩ := hide (nL l)
  simp only [← hhX] at *
  try clear hhX
  apply Ir.ru_sure_some
  apply ans_next
  · (simp [e1, -ev_comp] <;> first | rfl | exact ⟨rfl, rfl⟩)
  apply ans_next
  · (simp [e2, -ev_comp] <;> first | rfl | exact ⟨rfl, rfl⟩)
  apply ans_ret
  · (simp [-ev_comp] <;> first | rfl | exact ⟨rfl, rfl⟩)
  · exact ⟨rfl, rfl⟩
theorem e_copy_in (hN : 1 ≤ N) (F : Fine N) (hN2 : N ≤ 4096) (hr : RowsR N r) (hb : 1 ≤ b) (hb2 : b ≤ N) : ∃ r', Ph Ir.prog (k + 3) "copy_in" [r, iv b] = some (.l (nL (rowN N (pv N b))), [r', iv b]) := by
  rw [c_copy_in]
  have p1 := pv_pos hN (x := b)
  have p2 := pv_le hN (x := b)
  obtain ⟨C, q', c1, c2, e1⟩ := e_made_in (k := k) (l := [b]) F hN2 hr (fun x hx => by rw [List.mem_singleton.mp hx]; exact ⟨hb, hb2⟩) (by simp) (q := .l (nL [b])) (.inr rfl)
  have eC : C = rowN N (pv N b) := asc_same c1 (rowN_asc F p1 p2) fun x => by rw [c2, cl_row hN F hb hb2]
  subst eC
  clear c1 c2
  have pl := per_le F p1 p2
  have pp := per_pos F p1 p2
  have hl : (nL (rowN N (pv N b))).length = per N (pv N b) := by rw [nL_len, rowN_len]
  have pN : ∀ j, j < per N (pv N b) → 1 ≤ op N (pv N b) (j + 1) ∧ op N (pv N b) (j + 1) ≤ N := fun j hj => ⟨op_pos p1 p2 (by omega), op_le p2 (by omega) (by omega)⟩
  have e2 : ∀ j, j + 1 < per N (pv N b) → Ph Ir.prog (k + 2) "product_in" [r, iv (op N (pv N b) (j + 1)), iv b] = some (iv (op N (pv N b) (j + 2)), [r, iv (op N (pv N b) (j + 1)), iv b]) := fun j hj => by
    obtain ⟨w1, w2⟩ := pN j (by omega)
    have := e_prod (k := k + 1) F hr w1 w2 hb hb2
    rwa [row_next hN F hb hb2 hj] at this
  have one : op N (pv N b) 1 = b := by rw [← nx_op hN p1 p2, nx_pv hN hb hb2]
  have tk : ∀ j, j < per N (pv N b) → (rowN N (pv N b)).take (j + 1) = (rowN N (pv N b)).take j ++ [op N (pv N b) (j + 1)] := fun j hj => by
    rw [List.take_succ, rowN_at hj]
    rfl
  have full : (rowN N (pv N b)).take (per N (pv N b)) = rowN N (pv N b) := List.take_of_length_le (by rw [rowN_len]; exact Nat.le_refl _)
  have hr2 : r.own = true ∨ ∃ d, r = .v d := by rcases hr with rfl | rfl <;> first | exact .inl rfl | exact .inr ⟨_, rfl⟩
  clear hr
  obtain ⟨Φ, hΦ⟩ := hide (Ph Ir.prog (k + 2))
  simp only [← hΦ] at *
  try clear hΦ
  obtain ⟨p, hhp⟩ := hide (per N (pv N b))
  simp only [← hhp] at *
  try clear hhp
  obtain ⟨L, hhL⟩ := hide (rowN N (pv N b))
  simp only [← hhL] at *
  try clear hhL
  obtain ⟨f, hhf⟩ := hide (op N (pv N b))
  simp only [← hhf] at *
  try clear hhf
  have hd : ∀ j, j < p → atI (nL (L.take (j + 1))) (-1) = some (.int (f (j + 1) : Nat)) := fun j hj => by
    rw [at_last, tk j hj, ← nL_app]
    simp [nL]
  have hL := nL_len L
  rw [hl] at hL
  have ln : ∀ j, j < p → (nL (L.take (j + 1))).length = j + 1 := fun j hj => by
    rw [nL_len, List.length_take]
    omega
  have ap : ∀ j, j + 1 < p → nL (L.take (j + 1)) ++ [PyData.int (f (j + 2) : Nat)] = nL (L.take (j + 2)) := fun j hj => by
    rw [tk (j + 1) (by omega), ← nL_app]
    rfl
  have first : nL (L.take 1) = [PyData.int (b : Nat)] := by
    rw [tk 0 (by omega), List.take_zero, one]
    rfl
  obtain ⟨ρ', ew, hρ⟩ := while_turns (c := evT Φ (.tcmp .Lt (.bi .len (.cons (.var 3) .nil)) (.var 2)))
    (f := ex Φ (.seq (.app 3 (.call "product_in" (.cons (.var 0) (.cons (.idx (.var 3) (.neg (.num 1))) (.cons (.var 1) .nil))))) .skip))
    (fun j ρ => j + 1 ≤ p ∧ ρ = [some r, some (iv b), some (iv p), some (.l (nL (L.take (j + 1))))])
    (fun ρ => ρ = [some r, some (iv b), some (iv p), some (.l (nL L))]) (p - 1) (fun j ρ hj ⟨h1, h2⟩ => by
      subst h2
      refine ⟨[some r, some (iv b), some (iv p), some (.l (nL (L.take (j + 1))))], [some r, some (iv b), some (iv p), some (.l (nL (L.take (j + 2))))], ?_, ?_, by omega, rfl⟩
      · have ln := ln j (by omega)
        obtain ⟨X, hhX⟩ := hide (nL (L.take (j + 1)))
        simp only [← hhX] at *
        try clear hhX
        have b1 : (j : Int) + 1 < p := by omega
        (simp [ln, b1, -ev_comp] <;> first | rfl | exact ⟨rfl, rfl⟩)
      · have hd := hd j (by omega)
        have ln := ln j (by omega)
        have ap := ap j (by omega)
        have e2 := e2 j (by omega)
        have k1 : okN (j + 1 + 1) = true := okN_t (by omega)
        obtain ⟨X, hhX⟩ := hide (nL (L.take (j + 1)))
        simp only [← hhX] at *
        try clear hhX
        obtain ⟨Y, hhY⟩ := hide (nL (L.take (j + 2)))
        simp only [← hhY] at *
        try clear hhY
        obtain ⟨y, hhy⟩ := hide (f (j + 1))
        simp only [← hhy] at *
        try clear hhy
        obtain ⟨z, hhz⟩ := hide (f (j + 2))
        simp only [← hhz] at *
        try clear hhz
        rcases hr2 with hr2 | ⟨d, rfl⟩
        · (simp [hr2, hd, e2, ln, ap, k1, -ev_comp] <;> first | rfl | exact ⟨rfl, rfl⟩)
        · (simp [hd, e2, ln, ap, k1, -ev_comp] <;> first | rfl | exact ⟨rfl, rfl⟩)) (fun ρ ⟨h1, h2⟩ => by
      subst h2
      refine ⟨_, ?_, rfl⟩
      rw [show p - 1 + 1 = p by omega, full]
      obtain ⟨X, hhX⟩ := hide (nL L)
      simp only [← hhX] at *
      try clear hhX
      (simp [hl, -ev_comp] <;> first | rfl | exact ⟨rfl, rfl⟩)) WF 0 [some r, some (iv b), some (iv p), some (.l (nL (L.take 1)))] (by omega) (by unfold WF; omega) ⟨by omega, rfl⟩
  subst hρ
  refine ⟨r, ?_⟩
  apply Ir.ru_copy_in
  apply ans_next (ρ1 := [some r, some (iv b), some (iv p), some (.l (nL (L.take 1)))])
  · rw [first]
    have e1 : Φ "made_in" [r, .l [.int (b : Nat)]] = some (.l (nL L), [r, q']) := e1
    obtain ⟨X, hhX⟩ := hide (nL L)
    simp only [← hhX] at *
    try clear hhX
    rcases hr2 with hr2 | ⟨d, rfl⟩
    · (simp [hr2, hl, e1, -ev_comp] <;> first | rfl | exact ⟨rfl, rfl⟩)
    · (simp [hl, e1, -ev_comp] <;> first | rfl | exact ⟨rfl, rfl⟩)
  apply ans_next
  · exact whl_n ew
  obtain ⟨X, hhX⟩ := hide (nL L)
  simp only [← hhX] at *
  try clear hhX
  apply ans_ret
  · (simp [-ev_comp] <;> first | rfl | exact ⟨rfl, rfl⟩)
  · exact ⟨rfl, rfl⟩
end
end Ev
namespace Ev
open PySem Pv L2 Lv
section
variable {k n a b : Nat} {r q : R} {l : List Nat}
/-- the copy of a number: the row before it -/
def cpy (n b : Nat) : List Nat := rowN (2 ^ n) (pv (2 ^ n) b)
theorem cpy_len (hb : 1 ≤ b) (hb2 : b ≤ 2 ^ n) : ∃ d, d ≤ n ∧ (cpy n b).length = 2 ^ d := by
  have hN := Nat.two_pow_pos n
  obtain ⟨_, dv, _⟩ := perP (fine_pow n) (pv_pos hN (x := b)) (pv_le hN (x := b))
  obtain ⟨d, h1, h2⟩ := dvd_pow2 n _ dv
  exact ⟨d, h1, by unfold cpy; rw [rowN_len, h2]⟩
theorem cpy_asc (hb : 1 ≤ b) (hb2 : b ≤ 2 ^ n) : (cpy n b).Pairwise (· < ·) := rowN_asc (fine_pow n) (pv_pos (Nat.two_pow_pos n)) (pv_le (Nat.two_pow_pos n))
theorem cpy_le (hn : n ≤ 12) (hb : 1 ≤ b) (hb2 : b ≤ 2 ^ n) : (cpy n b).length ≤ 4096 := by
  have hN := Nat.two_pow_pos n
  have := pow_le12 hn
  have := per_le (fine_pow n) (pv_pos hN (x := b)) (pv_le hN (x := b))
  unfold cpy
  rw [rowN_len]
  omega
theorem e_copy_row (hn : n ≤ 8) (hb : 1 ≤ b) (hb2 : b ≤ 2 ^ n) : Ph Ir.prog (k + 5) "copy_row" [iv n, iv b] = some (.v (.tuple (nL (cpy n b))), [iv n, iv b]) := by
  rw [c_copy_row]
  have hN := pow_le12 (n := n) (by omega)
  have hP := Nat.two_pow_pos n
  have e1 : Ph Ir.prog (k + 4) _ _ = _ := e_sure_low (k := k) hn
  have e2 : Ph Ir.prog (k + 4) _ _ = _ := e_sure_in (k := k) (n := n) (by omega) hb hb2
  have e3 : Ph Ir.prog (k + 4) _ _ = _ := e_rows_in (k := k + 3) (n := n) (by omega)
  obtain ⟨r', e4⟩ := e_copy_in (k := k + 1) (N := 2 ^ n) (by omega) (fine_pow n) hN (.inr rfl) hb hb2
  have e4 : Ph Ir.prog (k + 4) "copy_in" _ = _ := e4
  unfold cpy
  obtain ⟨Φ, hΦ⟩ := hide (Ph Ir.prog (k + 4))
  simp only [← hΦ] at *
  try clear hΦ
  obtain ⟨X, hhX⟩ := hide (rowsD (2 ^ n))
  simp only [← hhX] at *
  try clear hhX
  obtain ⟨L, hhL⟩ := hide (rowN (2 ^ n) (pv (2 ^ n) b))
  simp only [← hhL] at *
  try clear hhL
  apply Ir.ru_copy_row
  apply ans_next
  · (simp [e1, -ev_comp] <;> first | rfl | exact ⟨rfl, rfl⟩)
  apply ans_ret
  · (simp [e1, e2, e3, e4, seqD, -ev_comp] <;> first | rfl | exact ⟨rfl, rfl⟩)
  · exact ⟨rfl, rfl⟩
theorem e_copy_level (hn : n ≤ 8) (hb : 1 ≤ b) (hb2 : b ≤ 2 ^ n) : ∃ d, d ≤ n ∧ (cpy n b).length = 2 ^ d ∧ Ph Ir.prog (k + 6) "copy_level" [iv n, iv b] = some (iv d, [iv n, iv b]) := by
  rw [c_copy_level]
  obtain ⟨d, h1, h2⟩ := cpy_len hb hb2
  refine ⟨d, h1, h2, ?_⟩
  have e1 : Ph Ir.prog (k + 5) _ _ = _ := e_copy_row (k := k) hn hb hb2
  have e2 : ((Builtin.Int.intBits ((cpy n b).length : Nat) : Nat) : Int) - 1 = (d : Nat) := by
    have hp := Nat.two_pow_pos d
    unfold Builtin.Int.intBits
    rw [if_neg (by rw [beq_iff_eq]; omega)]
    have : ((((cpy n b).length : Nat) : Int)).natAbs = 2 ^ d := by rw [h2]; omega
    rw [this, log_pow]
    omega
  have hl := nL_len (cpy n b)
  obtain ⟨Φ, hΦ⟩ := hide (Ph Ir.prog (k + 5))
  simp only [← hΦ] at *
  try clear hΦ
  obtain ⟨m, hm⟩ := hide ((cpy n b).length)
  rw [← hm] at hl e2
  obtain ⟨L, hhL⟩ := hide (nL (cpy n b))
  simp only [← hhL] at *
  try clear hhL
  apply Ir.ru_copy_level
  apply ans_ret
  · (simp [e1, hl, e2, -ev_comp] <;> first | rfl | exact ⟨rfl, rfl⟩)
  · exact ⟨rfl, rfl⟩
theorem e_made_by (hn : n ≤ 8) (hb : 1 ≤ b) (hb2 : b ≤ 2 ^ n) : Ph Ir.prog (k + 5) "made_by" [iv n, .v (.tuple [.int (b : Nat)])] = some (.v (.tuple (nL (cpy n b))), [iv n, .v (.tuple [.int (b : Nat)])]) := by
  rw [c_made_by]
  have hN := pow_le12 (n := n) (by omega)
  have hP := Nat.two_pow_pos n
  have F := fine_pow n
  have e1 : Ph Ir.prog (k + 4) _ _ = _ := e_sure_low (k := k) hn
  have e2 : Ph Ir.prog (k + 4) "sure_some" [iv n, .v (.tuple [.int (b : Nat)])] = _ := e_sure_some (k := k) (n := n) (l := [b]) (by omega) (fun x hx => by rw [List.mem_singleton.mp hx]; exact ⟨hb, hb2⟩) (by simp) (by simp)
  have e3 : Ph Ir.prog (k + 4) _ _ = _ := e_rows_in (k := k + 3) (n := n) (by omega)
  obtain ⟨C, q', c1, c2, e4⟩ := e_made_in (k := k + 2) (N := 2 ^ n) (l := [b]) F hN (.inr rfl) (fun x hx => by rw [List.mem_singleton.mp hx]; exact ⟨hb, hb2⟩) (by simp) (q := .v (.tuple (nL [b]))) (.inl rfl)
  have eC : C = cpy n b := asc_same c1 (cpy_asc hb hb2) fun x => by rw [c2, cl_row (by omega) F hb hb2]; rfl
  subst eC
  clear c1 c2
  have e4 : Ph Ir.prog (k + 4) "made_in" _ = _ := e4
  obtain ⟨Φ, hΦ⟩ := hide (Ph Ir.prog (k + 4))
  simp only [← hΦ] at *
  try clear hΦ
  have e5 : nL [b] = [.int (b : Nat)] := rfl
  rw [e5] at e2 e4
  obtain ⟨L, hhL⟩ := hide (nL (cpy n b))
  simp only [← hhL] at *
  try clear hhL
  obtain ⟨X, hhX⟩ := hide (rowsD (2 ^ n))
  simp only [← hhX] at *
  try clear hhX
  apply Ir.ru_made_by
  apply ans_next
  · (simp [e1, -ev_comp] <;> first | rfl | exact ⟨rfl, rfl⟩)
  apply ans_ret
  · (simp [e1, e2, e3, e4, seqD, -ev_comp] <;> first | rfl | exact ⟨rfl, rfl⟩)
  · exact ⟨rfl, rfl⟩
end
section
variable {k n a b c : Nat}
/-- where a number stands in a list -/
def idxD (l : List Nat) (g : Nat) : D := if g ∈ l then .int ((((ixOf (.int (g : Nat)) (nL l)).getD 0 + 1 : Nat)) : Int) else .none
theorem ix_mt (l : List Nat) (g : Nat) (h : g ∈ l)  : mtD .index (.list (nL l)) [.int (g : Nat)] = some (iv ((ixOf (.int (g : Nat)) (nL l)).getD 0)) := by
  obtain ⟨m, m1, m2⟩ := ix_nL _ _ h
  show (if (flatD (.int g) && (nL l).all flatD) = true then (ixOf _ _).bind _ else none) = _
  rw [if_pos (by rw [flat_nL]; rfl), m1]
  rfl
theorem e_dividedN (hn : n ≤ 12) (ha : 1 ≤ a) (ha2 : a ≤ 2 ^ n) (hb : 1 ≤ b) (hb2 : b ≤ 2 ^ n) : Ph Ir.prog (k + 5) "divided" [iv n, iv a, iv b] = some (.v (idxD (rowN (2 ^ n) a) b), [iv n, iv a, iv b]) := by
  rw [c_divided]
  have e1 : Ph Ir.prog (k + 4) _ _ = _ := e_sure_level (k := k) hn
  have e2 : Ph Ir.prog (k + 4) _ _ = _ := e_sure_in (k := k) hn ha ha2
  have e3 : Ph Ir.prog (k + 4) _ _ = _ := e_sure_in (k := k) hn hb hb2
  have e4 : Ph Ir.prog (k + 4) _ _ = _ := e_rows_in (k := k + 3) hn
  have h1 := rows_at ha ha2
  have h2 := in_nL (rowN (2 ^ n) a) b
  have h3 := ix_mt (rowN (2 ^ n) a) b
  unfold idxD
  obtain ⟨Φ, hΦ⟩ := hide (Ph Ir.prog (k + 4))
  simp only [← hΦ] at *
  try clear hΦ
  obtain ⟨X, hhX⟩ := hide (rowsD (2 ^ n))
  simp only [← hhX] at *
  try clear hhX
  obtain ⟨L, hhL⟩ := hide (rowN (2 ^ n) a)
  simp only [← hhL] at *
  try clear hhL
  apply Ir.ru_divided
  by_cases h : b ∈ L
  · have h3 := h3 h
    rw [if_pos h]
    obtain ⟨m, hm⟩ := hide ((ixOf (.int (b : Nat)) (nL L)).getD 0)
    rw [← hm] at h3 ⊢
    obtain ⟨T, hhT⟩ := hide (nL L)
    simp only [← hhT] at *
    try clear hhT
    apply ans_next
    · (simp [e1, -ev_comp] <;> first | rfl | exact ⟨rfl, rfl⟩)
    apply ans_next
    · (simp [e2, -ev_comp] <;> first | rfl | exact ⟨rfl, rfl⟩)
    apply ans_next
    · (simp [e3, -ev_comp] <;> first | rfl | exact ⟨rfl, rfl⟩)
    apply ans_next
    · (simp [e4, h1, -ev_comp] <;> first | rfl | exact ⟨rfl, rfl⟩)
    apply ans_ret
    · (simp [h2, h3, h, isLst, -ev_comp] <;> first | rfl | exact ⟨rfl, rfl⟩)
    · exact ⟨rfl, rfl⟩
  · rw [if_neg h]
    obtain ⟨T, hhT⟩ := hide (nL L)
    simp only [← hhT] at *
    try clear hhT
    apply ans_next
    · (simp [e1, -ev_comp] <;> first | rfl | exact ⟨rfl, rfl⟩)
    apply ans_next
    · (simp [e2, -ev_comp] <;> first | rfl | exact ⟨rfl, rfl⟩)
    apply ans_next
    · (simp [e3, -ev_comp] <;> first | rfl | exact ⟨rfl, rfl⟩)
    apply ans_next
    · (simp [e4, h1, -ev_comp] <;> first | rfl | exact ⟨rfl, rfl⟩)
    apply ans_ret
    · (simp [h2, h, isLst, -ev_comp] <;> first | rfl | exact ⟨rfl, rfl⟩)
    · exact ⟨rfl, rfl⟩
end
end Ev
namespace Ev
open PySem Pv L2 Lv
theorem c_makers {k : Nat} {rs : List R} : Ph Ir.prog (k + 1) "makers" rs = runF (Ph Ir.prog k) Ir.f_makers rs := rfl
theorem c_how_many_make {k : Nat} {rs : List R} : Ph Ir.prog (k + 1) "how_many_make" rs = runF (Ph Ir.prog k) Ir.f_how_many_make rs := rfl
theorem c__law_of {k : Nat} {rs : List R} : Ph Ir.prog (k + 1) "_law_of" rs = runF (Ph Ir.prog k) Ir.f__law_of rs := rfl
theorem sum_n {Φ : Phi} {c : E} {ρ ρ1 : Pv.Env} {xs : List D} {ns : List Int} (hv : ∀ i, c ≠ .var i) (h : evE Φ c ρ = some (.l xs, ρ1)) (hb : intsOf xs = some ns) : evE Φ (.bi .sum (.cons c .nil)) ρ = some (.v (.int ns.sum), ρ1) := by
  rw [ev_bsum, ov_cons, op_val hv, h]
  show (((some ([Op.d (.list xs)], ρ1)).bind fun p => (derAll p.2 p.1).bind fun ds => (biD .sum ds).bind fun r => some (r, p.2)) : Option (R × Pv.Env)) = _
  show ((intsOf xs).bind fun ns => some (R.v (.int ns.sum))).bind _ = _
  rw [hb]
  rfl
theorem sum_cast (l : List Nat) : (l.map fun x : Nat => (x : Int)).sum = ((l.sum : Nat) : Int) := by
  induction l with
  | nil => rfl
  | cons x l ih => rw [List.map_cons, List.sum_cons, List.sum_cons, ih]; omega
section
variable {k n a b m : Nat} {r q : R} {l : List Nat}
theorem e_made1 (hn : n ≤ 12) (hb : 1 ≤ b) (hb2 : b ≤ 2 ^ n) : ∃ q', Ph Ir.prog (k + 2) "made_in" [.l (rowsD (2 ^ n)), .l [.int (b : Nat)]] = some (.l (nL (cpy n b)), [.l (rowsD (2 ^ n)), q']) := by
  have hP := Nat.two_pow_pos n
  have F := fine_pow n
  obtain ⟨C, q', c1, c2, e4⟩ := e_made_in (k := k) (N := 2 ^ n) (l := [b]) F (pow_le12 hn) (.inr rfl) (fun x hx => by rw [List.mem_singleton.mp hx]; exact ⟨hb, hb2⟩) (by simp) (q := .l (nL [b])) (.inr rfl)
  have eC : C = cpy n b := asc_same c1 (cpy_asc hb hb2) fun x => by rw [c2, cl_row (by omega) F hb hb2]; rfl
  subst eC
  exact ⟨q', e4⟩
theorem e_makers (hn : n ≤ 8) : Ph Ir.prog (k + 5) "makers" [iv n] = some (.v (.tuple (nL ((upN (2 ^ n)).filter fun a => decide ((cpy n a).length = 2 ^ n)))), [iv n]) := by
  rw [c_makers]
  have hN := pow_le12 (n := n) (by omega)
  have hp := pow_cast n
  have b2 : (n : Int) ≤ 1000000 := by omega
  have e1 : Ph Ir.prog (k + 4) _ _ = _ := e_sure_low (k := k) hn
  have e2 : Ph Ir.prog (k + 4) _ _ = _ := e_rows_in (k := k + 3) (n := n) (by omega)
  have e3 : ∀ x, 1 ≤ x → x ≤ 2 ^ n → ∃ q', Ph Ir.prog (k + 4) "made_in" [.l (rowsD (2 ^ n)), .l [.int (x : Nat)]] = some (.l (nL (cpy n x)), [.l (rowsD (2 ^ n)), q']) := fun x h1 h2 => e_made1 (k := k + 2) (by omega) h1 h2
  have hl : ∀ x, (nL (cpy n x)).length = (cpy n x).length := fun x => nL_len _
  obtain ⟨Φ, hΦ⟩ := hide (Ph Ir.prog (k + 4))
  simp only [← hΦ] at *
  try clear hΦ
  obtain ⟨X, hhX⟩ := hide (rowsD (2 ^ n))
  simp only [← hhX] at *
  try clear hhX
  obtain ⟨N, hhN⟩ := hide ((2 ^ n : Nat))
  simp only [← hhN] at *
  try clear hhN
  apply Ir.ru_makers
  apply ans_next
  · (simp [e1, -ev_comp] <;> first | rfl | exact ⟨rfl, rfl⟩)
  apply ans_next
  · (simp [e2, b2, hp, -ev_comp] <;> first | rfl | exact ⟨rfl, rfl⟩)
  apply ans_ret
  · apply tup_n (by intro _; nofun)
    apply comp_nm (upN N) (fun x => .int (x : Nat)) (fun x => decide ((cpy n x).length = N)) (fun x => .int (x : Nat))
    · apply it_up (N := N)
      · intro _; nofun
      · (simp [-ev_comp] <;> first | rfl | exact ⟨rfl, rfl⟩)
      · omega
    · rw [upN_len]; omega
    · intro x hx
      obtain ⟨h1, h2⟩ := mem_upN.mp hx
      obtain ⟨q', e3⟩ := e3 x h1 h2
      have hl := hl x
      obtain ⟨C, hC⟩ := hide (cpy n x)
      rw [← hC] at e3 hl ⊢
      obtain ⟨T, hT⟩ := hide (nL C)
      rw [← hT] at e3 hl
      simp [e3, hl, eq_cast]
    · intro x _ _
      simp [evD]
  · exact ⟨rfl, rfl⟩
theorem e_how_many_make (hn : n ≤ 8) (hm : 1 ≤ m) : Ph Ir.prog (k + 5) "how_many_make" [iv n, iv m] = some (iv ((upN (2 ^ n)).countP fun a => decide ((cpy n a).length = m)), [iv n, iv m]) := by
  rw [c_how_many_make]
  have hN := pow_le12 (n := n) (by omega)
  have hp := pow_cast n
  have b2 : (n : Int) ≤ 1000000 := by omega
  have e1 : Ph Ir.prog (k + 4) _ _ = _ := e_sure_low (k := k) hn
  have e0 : Ph Ir.prog (k + 4) "sure_from" [iv m, .v (.int 1)] = some (iv m, [iv m, .v (.int 1)]) := e_sure_from (k := k + 1) (z := 1) hm
  have e2 : Ph Ir.prog (k + 4) _ _ = _ := e_rows_in (k := k + 3) (n := n) (by omega)
  have e3 : ∀ x, 1 ≤ x → x ≤ 2 ^ n → ∃ q', Ph Ir.prog (k + 4) "made_in" [.l (rowsD (2 ^ n)), .l [.int (x : Nat)]] = some (.l (nL (cpy n x)), [.l (rowsD (2 ^ n)), q']) := fun x h1 h2 => e_made1 (k := k + 2) (by omega) h1 h2
  have hl : ∀ x, (nL (cpy n x)).length = (cpy n x).length := fun x => nL_len _
  obtain ⟨Φ, hΦ⟩ := hide (Ph Ir.prog (k + 4))
  simp only [← hΦ] at *
  try clear hΦ
  obtain ⟨X, hhX⟩ := hide (rowsD (2 ^ n))
  simp only [← hhX] at *
  try clear hhX
  obtain ⟨N, hhN⟩ := hide ((2 ^ n : Nat))
  simp only [← hhN] at *
  try clear hhN
  apply Ir.ru_how_many_make
  apply ans_next
  · (simp [e1, -ev_comp] <;> first | rfl | exact ⟨rfl, rfl⟩)
  apply ans_next
  · (simp [e0, -ev_comp] <;> first | rfl | exact ⟨rfl, rfl⟩)
  apply ans_next
  · (simp [e2, b2, hp, -ev_comp] <;> first | rfl | exact ⟨rfl, rfl⟩)
  apply ans_ret
  · apply len_n (by intro _; nofun)
    apply comp_nm (upN N) (fun x => .int (x : Nat)) (fun x => decide ((cpy n x).length = m)) (fun _ => .int 1)
    · apply it_up (N := N)
      · intro _; nofun
      · (simp [-ev_comp] <;> first | rfl | exact ⟨rfl, rfl⟩)
      · omega
    · rw [upN_len]; omega
    · intro x hx
      obtain ⟨h1, h2⟩ := mem_upN.mp hx
      obtain ⟨q', e3⟩ := e3 x h1 h2
      have hl := hl x
      obtain ⟨C, hC⟩ := hide (cpy n x)
      rw [← hC] at e3 hl ⊢
      obtain ⟨T, hT⟩ := hide (nL C)
      rw [← hT] at e3 hl
      simp [e3, hl, eq_cast]
    · intro x _ _
      simp [evD]
  · rw [len_fm]
    exact ⟨rfl, rfl⟩
theorem prod_loop {N : Nat} (s : Pv.Env → Option (Fl × Pv.Env)) (e : Nat → Option R → Pv.Env) (he : ∀ (x y : Nat) (o : Option R), 1 ≤ x → x ≤ N → 1 ≤ y → y ≤ N → (bindT (.nm 4) (.int (y : Nat)) (e x o)).bind (fun ρ2 => s ρ2) = some (.next, e (op N x y) (some (iv y)))) :
    ∀ (l : List Nat) (x : Nat) (o : Option R), 1 ≤ x → x ≤ N → (∀ y ∈ l, 1 ≤ y ∧ y ≤ N) → ∃ o', forL (fun d ρ => (bindT (.nm 4) d ρ).bind fun ρ2 => s ρ2) (nL l) (e x o) = some (.next, e (l.foldl (op N) x) o')
  | [], x, o, _, _, _ => ⟨o, rfl⟩
  | y :: l, x, o, h1, h2, h => by
    obtain ⟨y1, y2⟩ := h y (List.mem_cons_self ..)
    obtain ⟨o', e'⟩ := prod_loop s e he l (op N x y) (some (iv y)) (op_pos h1 h2 y1) (op_le h2 y1 y2) fun z hz => h z (List.mem_cons_of_mem _ hz)
    refine ⟨o', ?_⟩
    show ((bindT (.nm 4) (.int (y : Nat)) (e x o)).bind _).bind _ = _
    rw [he x y o h1 h2 y1 y2]
    exact e'
end
end Ev
namespace Ev
open PySem Pv L2 Lv
/-! ### rows and whole rows -/
def colN (N a : Nat) : List Nat := (upN N).map (op N a)
theorem colN_len {N a : Nat} : (colN N a).length = N := by rw [colN, List.length_map, upN_len]
theorem col_drop {N a : Nat} : (trow N a).drop 1 = nL (colN N a) := drop1
theorem eq_i (x y : Nat) : PyData.eqv (.int (x : Nat)) (.int (y : Nat)) = decide (x = y) := by rw [eqv_int]; exact eq_cast x y
theorem ix_at : ∀ (l : List Nat) (g i : Nat), l[i]? = some g → (∀ j, j < i → l[j]? ≠ some g) → ixOf (.int (g : Nat)) (nL l) = some i
  | [], g, i, h, _ => by simp at h
  | x :: l, g, 0, h, _ => by
    have : x = g := by simpa using h
    subst this
    show (if PyData.eqv (.int (x : Nat)) (.int (x : Nat)) = true then _ else _) = _
    rw [eq_i, if_pos (by simp)]
  | x :: l, g, i + 1, h, h2 => by
    have n : x ≠ g := fun e => h2 0 (by omega) (by simp [e])
    show (if PyData.eqv (.int (x : Nat)) (.int (g : Nat)) = true then _ else _) = _
    rw [eq_i, if_neg (by simpa using n)]
    have := ix_at l g i (by simpa using h) fun j hj => by simpa using h2 (j + 1) (by omega)
    show ((ixOf (.int (g : Nat)) (nL l)).map (· + 1)) = _
    rw [this]
    rfl
theorem ix_app (l m : List Nat) (g : Nat) (h : g ∈ l) : ixOf (.int (g : Nat)) (nL (l ++ m)) = ixOf (.int (g : Nat)) (nL l) := by
  induction l with
  | nil => cases h
  | cons x l ih =>
    show (if PyData.eqv (.int (x : Nat)) (.int (g : Nat)) = true then _ else _) = (if PyData.eqv (.int (x : Nat)) (.int (g : Nat)) = true then _ else _)
    rw [eq_i]
    by_cases e : x = g
    · rw [if_pos (by simpa using e), if_pos (by simpa using e)]
    · rw [if_neg (by simpa using e), if_neg (by simpa using e)]
      have h' : g ∈ l := (List.mem_cons.mp h).resolve_left fun z => e z.symm
      show ((ixOf (.int (g : Nat)) (nL (l ++ m))).map (· + 1)) = ((ixOf (.int (g : Nat)) (nL l)).map (· + 1))
      rw [ih h']
theorem nodup_count {g : Nat} : ∀ l : List Nat, l.Nodup → l.count g = if g ∈ l then 1 else 0
  | [], _ => rfl
  | x :: l, h => by
    obtain ⟨h1, h2⟩ := List.nodup_cons.mp h
    have ih := nodup_count (g := g) l h2
    rw [List.count_cons, ih]
    by_cases e : x = g
    · subst e
      simp [h1]
    · have e' : ¬ g = x := fun z => e z.symm
      simp [e, e']
section
variable {N a : Nat} (F : Fine N) (ha : 1 ≤ a) (h : a ≤ N)
include F ha h
theorem col_take : colN N a = rowN N a ++ (colN N a).drop (per N a) := by
  have pl := per_le F ha h
  have e : rowN N a = (colN N a).take (per N a) := by
    apply List.ext_getElem?
    intro i
    rw [List.getElem?_take]
    by_cases q : i < per N a
    · rw [if_pos q, rowN_at q]
      unfold colN upN
      rw [List.map_map, List.getElem?_map, List.getElem?_range (by omega)]
      rfl
    · rw [if_neg q, List.getElem?_eq_none (by rw [rowN_len]; omega)]
  rw [e, List.take_append_drop]
theorem col_mem {g : Nat} : g ∈ colN N a ↔ g ∈ rowN N a := by
  constructor
  · intro hg
    obtain ⟨b, hb, rfl⟩ := List.mem_map.mp hg
    obtain ⟨b1, b2⟩ := mem_upN.mp hb
    exact op_in F ha h b1 b2
  · intro hg
    rw [col_take F ha h]
    exact List.mem_append_left _ hg
theorem col_idx {g : Nat} : idxD (colN N a) g = idxD (rowN N a) g := by
  unfold idxD
  by_cases q : g ∈ rowN N a
  · rw [if_pos q, if_pos ((col_mem F ha h).mpr q)]
    have : ixOf (.int (g : Nat)) (nL (colN N a)) = ixOf (.int (g : Nat)) (nL (rowN N a)) := by
      rw [col_take F ha h]
      exact ix_app _ _ _ q
    rw [this]
  · rw [if_neg q, if_neg fun z => q ((col_mem F ha h).mp z)]
theorem col_last : ixOf (.int (N : Nat)) (nL (colN N a)) = some (per N a - 1) := by
  obtain ⟨P, _, pl⟩ := perP F ha h
  have pp := P.pos
  have at1 : ∀ i, i < N → (colN N a)[i]? = some (op N a (i + 1)) := fun i hi => by
    unfold colN upN
    rw [List.map_map, List.getElem?_map, List.getElem?_range hi]
    rfl
  apply ix_at
  · rw [at1 _ (by omega), show per N a - 1 + 1 = per N a by omega, P.at_]
  · intro j hj
    rw [at1 _ (by omega)]
    have := P.lt (j + 1) (by omega) (by omega)
    intro e
    have e := Option.some.inj e
    omega
theorem row_nodup : (rowN N a).Nodup := (rowN_asc F ha h).imp fun z => by omega
theorem row_count {g : Nat} : (rowN N a).count g = if g ∈ rowN N a then 1 else 0 := by
  exact nodup_count _ (row_nodup F ha h)
theorem col_count {g : Nat} : (colN N a).count g = if g ∈ rowN N a then N / per N a else 0 := by
  obtain ⟨P, dv, pl⟩ := perP F ha h
  have pp := P.pos
  have rc := row_count F ha h (g := g)
  by_cases q : a = N
  · have e : per N a = N := by rw [q]; exact per_top (by omega)
    have : colN N a = rowN N a := by
      rw [q, row_top (by omega)]
      unfold colN
      conv => rhs; rw [← List.map_id (upN N)]
      apply List.map_congr_left
      intro x _
      exact op_N
    rw [this, rc, e, Nat.div_self (by omega)]
  · have st : ∀ m, ((List.range (m * per N a)).map fun i => op N a (i + 1)).count g = m * (rowN N a).count g := by
      intro m
      induction m with
      | zero => simp
      | succ m ih =>
        rw [Nat.succ_mul, List.range_add, List.map_append, List.count_append, ih, Nat.succ_mul, List.map_map]
        congr 1
        have : ((List.range (per N a)).map ((fun i => op N a (i + 1)) ∘ fun x => m * per N a + x)) = rowN N a := by
          unfold rowN
          apply List.map_congr_left
          intro i _
          show op N a (m * per N a + i + 1) = _
          rw [Nat.add_assoc, op_back F ha h (by omega) m (i + 1) (by omega)]
        rw [this]
    have z := st (N / per N a)
    rw [Nat.div_mul_cancel dv] at z
    have : colN N a = (List.range N).map fun i => op N a (i + 1) := by
      unfold colN upN
      rw [List.map_map]
      rfl
    rw [this, z, rc]
    split
    · rw [Nat.mul_one]
    · rw [Nat.mul_zero]
end
theorem sum_if {α : Type} (l : List α) (p : α → Bool) (f : α → Nat) : (l.map fun x => if p x = true then f x else 0).sum = ((l.filter p).map f).sum := by
  induction l with
  | nil => rfl
  | cons x l ih =>
    rw [List.map_cons, List.sum_cons, ih, List.filter_cons]
    split
    · rw [List.map_cons, List.sum_cons]
    · rw [Nat.zero_add]
theorem one_pow {d n : Nat} (hd : d ≤ n) : ((List.range (n + 1)).map fun k => if 2 ^ d = 2 ^ k then 1 else 0).sum = 1 := by
  have inj : ∀ {i j : Nat}, 2 ^ i = 2 ^ j → i = j := fun h => by
    have := congrArg Nat.log2 h
    rwa [log_pow, log_pow] at this
  have z : ∀ m, ((List.range m).map fun k => if 2 ^ d = 2 ^ k then 1 else 0).sum = if d < m then 1 else 0 := by
    intro m
    induction m with
    | zero => rfl
    | succ m ih =>
      rw [List.range_succ, List.map_append, List.sum_append, ih]
      simp only [List.map_cons, List.map_nil, List.sum_cons, List.sum_nil]
      by_cases e : d = m
      · subst e
        simp
      · rw [if_neg fun h => e (inj h)]
        by_cases q : d < m
        · rw [if_pos q, if_pos (by omega)]
          rfl
        · rw [if_neg q, if_neg (by omega)]
          rfl
  rw [z, if_pos (by omega)]
theorem sum_add2 {α : Type} (l : List α) (f g : α → Nat) : (l.map fun x => f x + g x).sum = (l.map f).sum + (l.map g).sum := by
  induction l with
  | nil => rfl
  | cons x l ih => rw [List.map_cons, List.sum_cons, List.map_cons, List.sum_cons, List.map_cons, List.sum_cons, ih]; omega
theorem count_all {n : Nat} (f : Nat → Nat) : ∀ L : List Nat, (∀ x ∈ L, ∃ d, d ≤ n ∧ f x = 2 ^ d) → ((List.range (n + 1)).map fun k => L.countP fun x => decide (f x = 2 ^ k)).sum = L.length
  | [], _ => by
    have : ∀ l : List Nat, (l.map fun _ => 0).sum = 0 := fun l => by induction l with | nil => rfl | cons x l ih => rw [List.map_cons, List.sum_cons, ih]
    exact this _
  | x :: L, h => by
    obtain ⟨d, hd, e⟩ := h x (List.mem_cons_self ..)
    have ih := count_all f L fun y hy => h y (List.mem_cons_of_mem _ hy)
    have : (fun k => (x :: L).countP fun x => decide (f x = 2 ^ k)) = fun k => (L.countP fun x => decide (f x = 2 ^ k)) + if 2 ^ d = 2 ^ k then 1 else 0 := by
      funext k
      rw [List.countP_cons, e]
      by_cases q : 2 ^ d = 2 ^ k
      · rw [if_pos q, if_pos (decide_eq_true q)]
      · rw [if_neg q, if_neg (by simpa using q)]
    rw [this, sum_add2, ih, one_pow hd, List.length_cons]
theorem per_pow {n a : Nat} (ha : 1 ≤ a) (h : a ≤ 2 ^ n) : ∃ d, d ≤ n ∧ per (2 ^ n) a = 2 ^ d := dvd_pow2 n _ (perP (fine_pow n) ha h).2.1
theorem pow_ne3 : ∀ d, 2 ^ d ≠ 3
  | 0 => by decide
  | 1 => by decide
  | d + 2 => by rw [Nat.pow_succ, Nat.pow_succ]; omega
theorem fold_ones {N : Nat} (hN : 1 ≤ N) (m : Nat) : ∀ x, 1 ≤ x → x ≤ N → (List.replicate m 1).foldl (op N) x = pr N (x + m) := by
  induction m with
  | zero => exact fun x h1 h2 => (pr_id h1 h2).symm
  | succ m ih =>
    intro x h1 h2
    rw [List.replicate_succ, List.foldl_cons, ← nx_op hN h1 h2, ih _ (nx_pos hN) (nx_le hN)]
    by_cases q : x = N
    · subst q
      rw [nx_N hN, show x + (m + 1) = x + (1 + m) by omega]
      unfold pr
      congr 1
      rw [show x + (1 + m) - 1 = x + m by omega, show 1 + m - 1 = m by omega, Nat.add_mod_left]
    · rw [nx_lt hN (by omega), show x + 1 + m = x + (m + 1) by omega]
/-! ### the composition's row -/
section
variable {N a b : Nat} (hN : 1 ≤ N) (F : Fine N) (ha : 1 ≤ a) (h : a ≤ N) (hb : 1 ≤ b) (hb2 : b ≤ N)
include hN F ha h hb hb2
theorem co_row {x : Nat} (hx : x ∈ rowN N (co N a b)) : x ∈ rowN N a := by
  obtain ⟨j, hj, rfl⟩ := mem_rowN.mp hx
  have c1 := co_pos hN (a := a) (b := b)
  have c2 := co_le hN (a := a) (b := b)
  have pl := per_le F c1 c2
  rw [co_op hN F ha h hb hb2 (j + 1) (by omega) (by omega)]
  exact op_in F ha h (op_pos hb hb2 (by omega)) (op_le hb2 (by omega) (by omega))
theorem co_per : per N (co N a b) ≤ per N a ∧ per N (co N a b) ≤ per N b := by
  have c1 := co_pos hN (a := a) (b := b)
  have c2 := co_le hN (a := a) (b := b)
  constructor
  · have := nodup_sub (row_nodup F c1 c2) fun x hx => co_row hN F ha h hb hb2 hx
    rwa [rowN_len, rowN_len] at this
  · obtain ⟨P, _, pl⟩ := perP F hb hb2
    obtain ⟨Q, _, ql⟩ := perP F c1 c2
    rcases Nat.lt_or_ge (per N b) (per N (co N a b)) with g | g
    · have := Q.lt _ P.pos g
      rw [co_op hN F ha h hb hb2 _ P.pos pl, P.at_, F.top ha h] at this
      omega
    · exact g
end
/-! ### a table, counted out -/
def nxtC (N a : Nat) (L : List (List Nat)) (x : Nat) : Nat := (L.getD (N - x) []).getD (a % (L.getD (N - x) []).length) 0
def mkrow (N a : Nat) (L : List (List Nat)) : Nat → Nat → List Nat
  | 0, _ => []
  | f + 1, x => if x = N then [x] else x :: mkrow N a L f (nxtC N a L x)
def mktab (N : Nat) : Nat → List (List Nat)
  | 0 => [(List.range N).map (· + 1)]
  | c + 1 => (fun L => L ++ [mkrow N (N - (c + 1)) L N (N - c)]) (mktab N c)
theorem mkrow_ok {N a : Nat} (F : Fine N) (ha : 1 ≤ a) (h : a < N) (L : List (List Nat)) (hL : ∀ x, a < x → x ≤ N → L.getD (N - x) [] = rowN N x) : ∀ f i, i < per N a → per N a ≤ f + i → mkrow N a L f (op N a (i + 1)) = (rowN N a).drop i := by
  obtain ⟨P, _, pl⟩ := perP F ha (Nat.le_of_lt h)
  intro f
  induction f with
  | zero => exact fun i h1 h2 => absurd h2 (by omega)
  | succ f ih =>
    intro i h1 h2
    have hd : (rowN N a).drop i = op N a (i + 1) :: (rowN N a).drop (i + 1) := by
      rw [List.drop_eq_getElem_cons (by rw [rowN_len]; exact h1)]
      congr 1
      simp [rowN]
    rw [hd]
    show (if op N a (i + 1) = N then _ else _) = _
    by_cases q : i + 1 = per N a
    · rw [q, if_pos P.at_, List.drop_eq_nil_of_le (by rw [rowN_len]; omega), P.at_]
    · have lt := P.lt (i + 1) (by omega) (by omega)
      have gt := op_gt (N := N) (a := a) h (b := i + 1) (by omega)
      rw [if_neg (by omega)]
      have e : nxtC N a L (op N a (i + 1)) = op N a (i + 2) := by
        unfold nxtC
        rw [hL _ gt (by omega), rowN_len]
        have pp := per_pos F (a := op N a (i + 1)) (by omega) (by omega)
        rw [List.getD_eq_getElem?_getD, rowN_at (Nat.mod_lt _ pp), op_mod F (by omega) (by omega) h, ← op_succ h (by omega)]
        rfl
      rw [e, ih (i + 1) (by omega) (by omega)]
theorem mktab_ok {N : Nat} (F : Fine N) (hN : 1 ≤ N) : ∀ c, c < N → mktab N c = (List.range (c + 1)).map fun j => rowN N (N - j)
  | 0, _ => by
    show [upN N] = [rowN N (N - 0)]
    rw [Nat.sub_zero, row_top hN]
  | c + 1, h => by
    have ih := mktab_ok F hN c (by omega)
    show mktab N c ++ [mkrow N (N - (c + 1)) (mktab N c) N (N - c)] = _
    rw [List.range_succ, List.map_append, ih]
    congr 1
    show [_] = [_]
    have z := mkrow_ok F (a := N - (c + 1)) (by omega) (by omega) ((List.range (c + 1)).map fun j => rowN N (N - j)) (fun x h1 h2 => by
      rw [List.getD_eq_getElem?_getD, List.getElem?_map, List.getElem?_range (by omega)]
      show rowN N (N - (N - x)) = _
      rw [show N - (N - x) = x by omega]) N 0 (per_pos F (by omega) (by omega)) (by have := per_le F (a := N - (c + 1)) (by omega) (by omega); omega)
    rw [Nat.zero_add, op_one (by omega), show N - (c + 1) + 1 = N - c by omega] at z
    rw [z]
    rfl
theorem per_tab {n : Nat} (a : Nat) (ha : 1 ≤ a) (h : a ≤ 2 ^ n) : per (2 ^ n) a = ((mktab (2 ^ n) (2 ^ n - 1)).getD (2 ^ n - a) []).length := by
  have hP := Nat.two_pow_pos n
  rw [mktab_ok (fine_pow n) (by omega) _ (by omega), List.getD_eq_getElem?_getD, List.getElem?_map, List.getElem?_range (by omega)]
  show _ = (rowN (2 ^ n) (2 ^ n - (2 ^ n - a))).length
  rw [rowN_len, show 2 ^ n - (2 ^ n - a) = a by omega]
def ok12 (n : Nat) : Bool := (fun T => Nat.ble ((T.getD (2 ^ n - 1) []).length) ((T.getD (2 ^ n - 2) []).length)) (mktab (2 ^ n) (2 ^ n - 1))
theorem per12 {n : Nat} (h1 : 2 ≤ n) (h2 : n ≤ 8) : per (2 ^ n) 1 ≤ per (2 ^ n) 2 := by
  have e : ok12 n = true := by
    have : n = 2 ∨ n = 3 ∨ n = 4 ∨ n = 5 ∨ n = 6 ∨ n = 7 ∨ n = 8 := by omega
    rcases this with rfl | rfl | rfl | rfl | rfl | rfl | rfl <;> decide +kernel
  have hp : 2 ^ 2 ≤ 2 ^ n := Nat.pow_le_pow_right (by omega) h1
  rw [per_tab 1 (by omega) (by omega), per_tab 2 (by omega) (by omega)]
  exact Nat.le_of_ble_eq_true e
end Ev
namespace Ev
open PySem Pv L2 Lv
@[simp] theorem bd_repT {x : List D} {z : Int} : binD .Mult (.tuple x) (.int z) = if 1 ≤ z ∧ z ≤ 1000 ∧ 1 ≤ x.length ∧ x.length ≤ 1000 then some (.v (.tuple (List.replicate z.toNat x).flatten)) else none := rfl
theorem steps_from {a : Nat} : ∀ n, a ≤ 2 ^ n → ∃ s, s ≤ n ∧ a ≤ 2 ^ s ∧ ∀ l, l < s → 2 ^ l < a
  | 0, h => ⟨0, Nat.le_refl _, h, fun l hl => absurd hl (Nat.not_lt_zero _)⟩
  | n + 1, h => by
    by_cases q : a ≤ 2 ^ n
    · obtain ⟨s, h1, h2, h3⟩ := steps_from n q
      exact ⟨s, by omega, h2, h3⟩
    · refine ⟨n + 1, Nat.le_refl _, h, fun l hl => ?_⟩
      have := Nat.pow_le_pow_right (n := 2) (by omega) (show l ≤ n by omega)
      omega
theorem steps_form {a s : Nat} (h2 : a ≤ 2 ^ s) (h3 : ∀ l, l < s → 2 ^ l < a) (m : Nat) (hm : s ≤ m + 1) : stepsL a m = (List.range (m + 1 - s)).map (s + ·) := by
  unfold stepsL
  have e : List.range (m + 1) = List.range s ++ (List.range (m + 1 - s)).map (s + ·) := by
    rw [← List.range_add]
    congr 1
    omega
  rw [e, List.filter_append, List.filter_eq_nil_iff.mpr fun l hl => ?_, List.filter_eq_self.mpr fun l hl => ?_, List.nil_append]
  · obtain ⟨i, _, rfl⟩ := List.mem_map.mp hl
    have := Nat.pow_le_pow_right (n := 2) (by omega) (show s ≤ s + i by omega)
    exact decide_eq_true (by omega)
  · have := h3 l (List.mem_range.mp hl)
    simp
    omega
theorem head_range {p : Nat → Bool} {i j : Nat} (hij : i ≤ j) (h : ∃ x, x < i ∧ p x = true) : ∃ x, x < i ∧ p x = true ∧ ((List.range i).filter p).head? = some x ∧ ((List.range j).filter p).head? = some x := by
  obtain ⟨x, hx, px⟩ := h
  have e : List.range j = List.range i ++ (List.range (j - i)).map (i + ·) := by
    rw [← List.range_add]
    congr 1
    omega
  cases q : (List.range i).filter p with
  | nil => exact absurd (List.mem_filter.mpr ⟨List.mem_range.mpr hx, px⟩) (by rw [q]; simp)
  | cons y l =>
    have hy : y ∈ (List.range i).filter p := by rw [q]; exact List.mem_cons_self ..
    obtain ⟨y1, y2⟩ := List.mem_filter.mp hy
    exact ⟨y, List.mem_range.mp y1, y2, rfl, by rw [e, List.filter_append, q]; rfl⟩
section
variable {k c : Nat} {r : R} {l : List Nat}
theorem e__law_of (t : Tn c r) (hc : c < 1000000) (h0 : 1 ≤ l.length) (hz : l.length ≤ 1000000) : ∃ (v : Nat) (x : Nat) (r' : R), Tn (c + 1) r' ∧ l[v]? = some x ∧ Ph Ir.prog (k + 2) "_law_of" [r, .l (nL l)] = some (iv x, [r', .l (nL l)]) := by
  rw [c__law_of]
  obtain ⟨v, r', t', hv, e⟩ := t.take hc l.length h0 hz k
  have o1 := t.own
  have o2 := t'.own
  obtain ⟨x, hx⟩ : ∃ x, l[v]? = some x := ⟨l[v], List.getElem?_eq_getElem hv⟩
  refine ⟨v, x, r', t', hx, ?_⟩
  have h1 : atI (nL l) (v : Int) = some (.int (x : Nat)) := by rw [at_nat rfl, nL, List.getElem?_map, hx]; rfl
  have hl := nL_len l
  obtain ⟨Φ, hΦ⟩ := hide (Ph Ir.prog (k + 1))
  simp only [← hΦ] at *
  try clear hΦ
  obtain ⟨m, hm⟩ := hide l.length
  rw [← hm] at e hl
  obtain ⟨T, hhT⟩ := hide (nL l)
  simp only [← hhT] at *
  try clear hhT
  apply Ir.ru__law_of
  apply ans_ret
  · (simp [o1, o2, e, hl, h1, -ev_comp] <;> first | rfl | exact ⟨rfl, rfl⟩)
  · exact ⟨rfl, rfl⟩
end
end Ev
namespace Ev
open PySem Pv L2 Lv
/-! ### a level down -/
theorem pv_low {m n x : Nat} (h : m ≤ n) (hx : 1 ≤ x) (hx2 : x ≤ 2 ^ n) : pr (2 ^ m) (pv (2 ^ n) x) = pv (2 ^ m) (pr (2 ^ m) x) := by
  have hN := Nat.two_pow_pos n
  have hM := Nat.two_pow_pos m
  have z := nx_low h (pv_pos hN (x := x)) (pv_le hN (x := x))
  rw [nx_pv hN hx hx2] at z
  rw [z, pv_nx hM pr_pos (pr_le hM)]
theorem low_row {N c : Nat} (hN : 1 ≤ N) (F : Fine N) (F2 : Fine (2 * N)) (hc : 1 ≤ c) (hc2 : c ≤ 2 * N) :
    ∃ t, (t = 1 ∨ t = 2) ∧ per (2 * N) c = t * per N (pr N c) ∧ (rowN (2 * N) c).map (pr N) = (List.replicate t (rowN N (pr N c))).flatten := by
  by_cases h : c ≤ N
  · rw [pr_id hc h]
    have pp := per_pos F hc h
    have pl := per_le F hc h
    rcases per_up hN F F2 hc h with ⟨_, e, _⟩ | ⟨_, e, _, later⟩
    · refine ⟨1, .inl rfl, by omega, ?_⟩
      rw [show (List.replicate 1 (rowN N c)).flatten = rowN N c by simp]
      unfold rowN
      rw [e, List.map_map]
      apply List.map_congr_left
      intro i hi
      have := List.mem_range.mp hi
      exact pr_of_op hN F F2 hc h (by omega) (by omega)
    · refine ⟨2, .inr rfl, by omega, ?_⟩
      rw [show (List.replicate 2 (rowN N c)).flatten = rowN N c ++ rowN N c by simp [List.replicate]]
      unfold rowN
      rw [e, show 2 * per N c = per N c + per N c by omega, List.range_add, List.map_append, List.map_append]
      congr 1
      · rw [List.map_map]
        apply List.map_congr_left
        intro i hi
        have := List.mem_range.mp hi
        exact pr_of_op hN F F2 hc h (by omega) (by omega)
      · rw [List.map_map, List.map_map]
        apply List.map_congr_left
        intro i hi
        have hi := List.mem_range.mp hi
        show pr N (op (2 * N) c (per N c + i + 1)) = op N c (i + 1)
        rw [Nat.add_assoc, later (i + 1) (by omega) (by omega), pr_up (op_pos hc h (by omega)) (op_le h (by omega) (by omega))]
  · by_cases h2 : c = 2 * N
    · subst h2
      refine ⟨2, .inr rfl, ?_, ?_⟩
      · rw [show 2 * N = N + N by omega, pr_up hN (Nat.le_refl _), ← show 2 * N = N + N by omega, per_top hN, per_top (by omega)]
      · rw [row_top (N := 2 * N) (by omega), show pr N (2 * N) = N by rw [show 2 * N = N + N by omega, pr_up hN (Nat.le_refl _)], row_top hN]
        rw [show (List.replicate 2 (upN N)).flatten = upN N ++ upN N by simp [List.replicate]]
        unfold upN
        rw [show 2 * N = N + N by omega, List.range_add, List.map_append, List.map_append]
        congr 1
        · rw [List.map_map]
          apply List.map_congr_left
          intro i hi
          have hi := List.mem_range.mp hi
          show pr N (i + 1) = i + 1
          exact pr_id (by omega) (by omega)
        · rw [List.map_map, List.map_map]
          apply List.map_congr_left
          intro i hi
          have hi := List.mem_range.mp hi
          show pr N (N + i + 1) = i + 1
          rw [Nat.add_assoc, pr_up (by omega) (by omega)]
    · obtain ⟨d, rfl⟩ : ∃ d, c = d + N := ⟨c - N, by omega⟩
      have z := row_high hN F F2 (a := d) (by omega) (by omega) (by omega)
      have q : pr N (d + N) = d := by rw [Nat.add_comm, pr_up (by omega) (by omega)]
      refine ⟨1, .inl rfl, ?_, ?_⟩
      · have := congrArg List.length z
        rw [rowN_len, List.length_map, rowN_len] at this
        rw [q, this, Nat.one_mul]
      · rw [q, z, List.map_map, show (List.replicate 1 (rowN N d)).flatten = rowN N d by simp]
        conv => rhs; rw [← List.map_id (rowN N d)]
        apply List.map_congr_left
        intro x hx
        obtain ⟨j, hj, rfl⟩ := mem_rowN.mp hx
        have pl := per_le F (a := d) (by omega) (by omega)
        show pr N (op N d (j + 1) + N) = op N d (j + 1)
        rw [Nat.add_comm, pr_up (op_pos (by omega) (by omega) (by omega)) (op_le (by omega) (by omega) (by omega))]
/-! ### sets of numbers -/
theorem insU_mem (x : Int) : ∀ (l : List Int) (y : Int), y ∈ insU x l ↔ y = x ∨ y ∈ l
  | [], y => by show y ∈ [x] ↔ _; simp
  | z :: l, y => by
    show y ∈ (if x < z then x :: z :: l else if x = z then z :: l else z :: insU x l) ↔ _
    split
    · simp
    · split
      · rename_i e
        subst e
        simp
      · rw [List.mem_cons, insU_mem x l y, List.mem_cons]
        constructor
        · rintro (h | h | h)
          · exact .inr (.inl h)
          · exact .inl h
          · exact .inr (.inr h)
        · rintro (h | h | h)
          · exact .inr (.inl h)
          · exact .inl h
          · exact .inr (.inr h)
theorem insU_asc (x : Int) : ∀ l : List Int, l.Pairwise (· < ·) → (insU x l).Pairwise (· < ·)
  | [], _ => by show [x].Pairwise _; simp
  | z :: l, h => by
    obtain ⟨a1, a2⟩ := List.pairwise_cons.mp h
    show (if x < z then x :: z :: l else if x = z then z :: l else z :: insU x l).Pairwise _
    split
    · rename_i q
      refine List.pairwise_cons.mpr ⟨fun y hy => ?_, h⟩
      rcases List.mem_cons.mp hy with rfl | hy
      · exact q
      · have := a1 y hy
        omega
    · split
      · exact h
      · refine List.pairwise_cons.mpr ⟨fun y hy => ?_, insU_asc x l a2⟩
        rcases (insU_mem x l y).mp hy with rfl | hy
        · omega
        · exact a1 y hy
theorem setU_mem : ∀ (l : List Int) (y : Int), y ∈ setU l ↔ y ∈ l
  | [], y => Iff.rfl
  | x :: l, y => by
    show y ∈ insU x (setU l) ↔ _
    rw [insU_mem, setU_mem l, List.mem_cons]
theorem setU_up : ∀ l : List Int, (setU l).Pairwise (· < ·)
  | [] => List.Pairwise.nil
  | x :: l => insU_asc x _ (setU_up l)
theorem asc_sameI : ∀ {l m : List Int}, l.Pairwise (· < ·) → m.Pairwise (· < ·) → (∀ x, x ∈ l ↔ x ∈ m) → l = m
  | [], [], _, _, _ => rfl
  | [], y :: m, _, _, h => absurd ((h y).mpr (List.mem_cons_self ..)) (by simp)
  | x :: l, [], _, _, h => absurd ((h x).mp (List.mem_cons_self ..)) (by simp)
  | x :: l, y :: m, h1, h2, h => by
    obtain ⟨a1, a2⟩ := List.pairwise_cons.mp h1
    obtain ⟨b1, b2⟩ := List.pairwise_cons.mp h2
    have e : x = y := by
      have hx := (h x).mp (List.mem_cons_self ..)
      have hy := (h y).mpr (List.mem_cons_self ..)
      rcases List.mem_cons.mp hx with e | hx
      · exact e
      · rcases List.mem_cons.mp hy with e | hy
        · exact e.symm
        · have := a1 y hy
          have := b1 x hx
          omega
    subst e
    rw [asc_sameI a2 b2 fun z => ?_]
    constructor
    · intro hz
      rcases List.mem_cons.mp ((h z).mp (List.mem_cons_of_mem _ hz)) with e | hz'
      · have := a1 z hz
        omega
      · exact hz'
    · intro hz
      rcases List.mem_cons.mp ((h z).mpr (List.mem_cons_of_mem _ hz)) with e | hz'
      · have := b1 z hz
        omega
      · exact hz'
theorem set_is {l m : List Nat} (hm : m.Pairwise (· < ·)) (h : ∀ x, x ∈ l ↔ x ∈ m) : (setU (l.map fun x : Nat => (x : Int))).map PyData.int = nL m := by
  have : setU (l.map fun x : Nat => (x : Int)) = m.map fun x : Nat => (x : Int) := asc_sameI (setU_up _) (by rw [List.pairwise_map]; exact hm.imp fun z => by omega) fun x => by
    rw [setU_mem, List.mem_map, List.mem_map]
    exact ⟨fun ⟨y, hy, e⟩ => ⟨y, (h y).mp hy, e⟩, fun ⟨y, hy, e⟩ => ⟨y, (h y).mpr hy, e⟩⟩
  rw [this, nL_ints]
section
variable {k : Nat} {q : R} {l m : List Nat}
theorem e__law_setN (hm : m.Pairwise (· < ·)) (h : ∀ x, x ∈ l ↔ x ∈ m) (hz : l.length ≤ 4000) (hq : q = .v (.tuple (nL l)) ∨ q = .l (nL l)) : Ph Ir.prog (k + 1) "_law_set" [q] = some (.v (.tuple (nL m)), [q]) := by
  rw [c__law_set]
  have e1 := ints_nL l
  have e2 := set_is hm h
  obtain ⟨Φ, hΦ⟩ := hide (Ph Ir.prog (k + 0))
  simp only [← hΦ] at *
  try clear hΦ
  have hz2 : (l.map fun x : Nat => (x : Int)).length ≤ 4000 := by rw [List.length_map]; exact hz
  generalize (l.map fun x : Nat => (x : Int)) = L at *
  obtain ⟨X, hhX⟩ := hide (nL l)
  simp only [← hhX] at *
  try clear hhX
  obtain ⟨Y, hhY⟩ := hide (nL m)
  simp only [← hhY] at *
  try clear hhY
  rcases hq with rfl | rfl
  · apply Ir.ru__law_set
    apply ans_ret
    · (simp [e1, hz2, e2, seqD, -ev_comp] <;> first | rfl | exact ⟨rfl, rfl⟩)
    · exact ⟨rfl, rfl⟩
  · apply Ir.ru__law_set
    apply ans_ret
    · (simp [e1, hz2, e2, seqD, -ev_comp] <;> first | rfl | exact ⟨rfl, rfl⟩)
    · exact ⟨rfl, rfl⟩
end
/-! ### a copy is a smaller table -/
section
variable {n d c : Nat} (hd : d ≤ n) (hc : 1 ≤ c) (hc2 : c ≤ 2 ^ n) (hp : per (2 ^ n) c = 2 ^ d)
include hd hc hc2 hp
theorem op_pr2 {x : Nat} (hx : 1 ≤ x) (hx2 : x ≤ 2 ^ n) : op (2 ^ n) c (pr (2 ^ d) x) = op (2 ^ n) c x := by
  have := op_mod (fine_pow n) hc hc2 (b := x - 1) (by omega)
  rw [hp] at this
  unfold pr
  rw [this, show x - 1 + 1 = x by omega]
/-- the map from the smaller table -/
theorem copy_hom {i j : Nat} (hi : 1 ≤ i) (hi2 : i ≤ 2 ^ d) (hj : 1 ≤ j) (hj2 : j ≤ 2 ^ d) : op (2 ^ n) c (op (2 ^ d) i j) = op (2 ^ n) (op (2 ^ n) c i) (op (2 ^ n) c j) := by
  have le : 2 ^ d ≤ 2 ^ n := Nat.pow_le_pow_right (by omega) hd
  have z := op_low hd (a := i) (b := j) hi (by omega) hj
  rw [pr_id hi hi2, pr_id hj hj2] at z
  rw [← z, op_pr2 hd hc hc2 hp (op_pos hi (by omega) hj) (op_le (by omega) hj (by omega))]
  exact spread (fine_pow n) hc hc2 hi (by omega) hj (by omega)
theorem copy_cl {y : Nat} (hy : 1 ≤ y) (hy2 : y ≤ 2 ^ d) (z : Nat) : Cl (2 ^ n) [op (2 ^ n) c y] z ↔ ∃ x, Cl (2 ^ d) [y] x ∧ z = op (2 ^ n) c x := by
  have rg : ∀ x, Cl (2 ^ d) [y] x → 1 ≤ x ∧ x ≤ 2 ^ d := fun x h => h.rng fun w hw => by rw [List.mem_singleton.mp hw]; exact ⟨hy, hy2⟩
  constructor
  · intro h
    induction h with
    | base h => exact ⟨y, .base (List.mem_cons_self ..), List.mem_singleton.mp h⟩
    | mul _ _ h1 h2 =>
      obtain ⟨i, ci, rfl⟩ := h1
      obtain ⟨j, cj, rfl⟩ := h2
      obtain ⟨i1, i2⟩ := rg i ci
      obtain ⟨j1, j2⟩ := rg j cj
      exact ⟨op (2 ^ d) i j, .mul ci cj, (copy_hom hd hc hc2 hp i1 i2 j1 j2).symm⟩
  · rintro ⟨x, h, rfl⟩
    induction h with
    | base h => rw [List.mem_singleton.mp h]; exact .base (List.mem_cons_self ..)
    | mul ci cj h1 h2 =>
      obtain ⟨i1, i2⟩ := rg _ ci
      obtain ⟨j1, j2⟩ := rg _ cj
      rw [copy_hom hd hc hc2 hp i1 i2 j1 j2]
      exact .mul h1 h2
/-- the copy of a number of a copy -/
theorem copy_copy {y : Nat} (hy : 1 ≤ y) (hy2 : y ≤ 2 ^ d) : cpy n (op (2 ^ n) c y) = (cpy d y).map (op (2 ^ n) c) := by
  have le : 2 ^ d ≤ 2 ^ n := Nat.pow_le_pow_right (by omega) hd
  have y1 := op_pos hc hc2 hy
  have y2 : op (2 ^ n) c y ≤ 2 ^ n := op_le hc2 hy (by omega)
  refine asc_same (cpy_asc y1 y2) ?_ fun z => ?_
  · rw [List.pairwise_map]
    refine List.Pairwise.imp_of_mem (fun {u v} hu hv huv => ?_) (cpy_asc hy hy2)
    have rg : ∀ x, x ∈ cpy d y → 1 ≤ x ∧ x ≤ 2 ^ d := fun x h => by
      have := (cl_row (Nat.two_pow_pos d) (fine_pow d) hy hy2 x).mpr h
      exact this.rng fun w hw => by rw [List.mem_singleton.mp hw]; exact ⟨hy, hy2⟩
    have := rg u hu
    have := rg v hv
    exact row_up (fine_pow n) hc hc2 (by omega) (by rw [hp]; omega) huv
  · rw [show cpy n (op (2 ^ n) c y) = rowN (2 ^ n) (pv (2 ^ n) (op (2 ^ n) c y)) from rfl, ← cl_row (Nat.two_pow_pos n) (fine_pow n) y1 y2, copy_cl hd hc hc2 hp hy hy2, List.mem_map]
    constructor
    · rintro ⟨x, h, rfl⟩
      exact ⟨x, (cl_row (Nat.two_pow_pos d) (fine_pow d) hy hy2 x).mp h, rfl⟩
    · rintro ⟨x, h, rfl⟩
      exact ⟨x, (cl_row (Nat.two_pow_pos d) (fine_pow d) hy hy2 x).mpr h, rfl⟩
end
/-- only 1 makes all -/
theorem per_full {N c : Nat} (F : Fine N) (hc : 1 ≤ c) (h : c ≤ N) (e : per N c = N) : c = N := by
  rcases Nat.lt_or_ge c N with lt | ge
  · obtain ⟨P, _, _⟩ := perP F hc h
    have st : ∀ j, 1 ≤ j → j ≤ per N c → c + j ≤ op N c j := by
      intro j
      induction j with
      | zero => exact fun z => absurd z (by omega)
      | succ j ih =>
        intro _ hj
        by_cases q : j = 0
        · subst q
          rw [Nat.zero_add, op_one lt]
          exact Nat.le_refl _
        · have := ih (by omega) (by omega)
          have := row_up F hc h (i := j) (j := j + 1) (by omega) hj (by omega)
          omega
    have := st (per N c) P.pos (Nat.le_refl _)
    rw [P.at_] at this
    omega
  · omega
theorem cpy_full {n x : Nat} (hx : 1 ≤ x) (hx2 : x ≤ 2 ^ n) : (cpy n x).length = 2 ^ n ↔ x = 1 := by
  have hN := Nat.two_pow_pos n
  constructor
  · intro h
    unfold cpy at h
    rw [rowN_len] at h
    have := per_full (fine_pow n) (pv_pos hN (x := x)) (pv_le hN (x := x)) h
    have e := nx_pv hN hx hx2
    rw [this, nx_N hN] at e
    exact e.symm
  · rintro rfl
    unfold cpy
    rw [pv_1 hN, rowN_len, per_top hN]
theorem row_pen' {N : Nat} (h : 2 ≤ N) : per N (N - 1) = 1 ∧ rowN N (N - 1) = [N] := by
  have o : op N (N - 1) 1 = N := by rw [op_one (by omega)]; omega
  have e : per N (N - 1) = 1 := per_of ⟨by omega, o, fun j h1 h2 => absurd h2 (by omega)⟩ (by omega)
  refine ⟨e, ?_⟩
  unfold rowN
  rw [e]
  show [op N (N - 1) (0 + 1)] = _
  rw [Nat.zero_add, o]
theorem cpy_last {n : Nat} : (cpy n (2 ^ n)).length = 1 := by
  have hN := Nat.two_pow_pos n
  by_cases q : 2 ^ n = 1
  · unfold cpy
    rw [q, pv_1 (by omega), rowN_len, per_top (by omega)]
  · have e : pv (2 ^ n) (2 ^ n) = 2 ^ n - 1 := by
      have := pv_s (N := 2 ^ n) hN (x := 2 ^ n - 1) (by omega) (by omega)
      rwa [show 2 ^ n - 1 + 1 = 2 ^ n by omega] at this
    unfold cpy
    rw [e, rowN_len, (row_pen' (by omega)).1]
end Ev
namespace Ev
open PySem Pv L2 Lv
theorem c_is_just {k : Nat} {rs : List R} : Ph Ir.prog (k + 1) "is_just" rs = runF (Ph Ir.prog k) Ir.f_is_just rs := rfl
theorem c_is_long2 {k : Nat} {rs : List R} : Ph Ir.prog (k + 1) "is_long" rs = runF (Ph Ir.prog k) Ir.f_is_long rs := rfl
theorem c_is_copy_row {k : Nat} {rs : List R} : Ph Ir.prog (k + 1) "is_copy_row" rs = runF (Ph Ir.prog k) Ir.f_is_copy_row rs := rfl
theorem c_do_make {k : Nat} {rs : List R} : Ph Ir.prog (k + 1) "do_make" rs = runF (Ph Ir.prog k) Ir.f_do_make rs := rfl
theorem c_worths {k : Nat} {rs : List R} : Ph Ir.prog (k + 1) "worths" rs = runF (Ph Ir.prog k) Ir.f_worths rs := rfl
theorem zip_nL (l : List Nat) : zipD (nL l) (nL l) = l.map fun x : Nat => PyData.tuple [.int (x : Nat), .int (x : Nat)] := by
  induction l with
  | nil => rfl
  | cons x l ih => 
    show PyData.tuple [.int (x : Nat), .int (x : Nat)] :: zipD (nL l) (nL l) = _
    rw [ih]
    rfl
theorem trues_n (l : List Nat) : boolsOf (l.map fun _ => PyData.bool true) = some (l.map fun _ => true) := by
  induction l with
  | nil => rfl
  | cons x l ih =>
    show (boolsOf (l.map fun _ => PyData.bool true)).bind _ = _
    rw [ih]
    rfl
section
variable {k n a b m : Nat} {r q : R} {l : List Nat}
theorem e_just_i {x : Nat} : Ph Ir.prog (k + 2) "is_just" [iv x, iv x] = some (.v (.bool true), [iv x, iv x]) := by
  rw [c_is_just]
  have e1 : Ph Ir.prog (k + 1) _ _ = _ := e_is_number (k := k) (z := (x : Int))
  obtain ⟨Φ, hΦ⟩ := hide (Ph Ir.prog (k + 1))
  simp only [← hΦ] at *
  try clear hΦ
  apply Ir.ru_is_just
  apply ans_next
  · (simp [isiD, -ev_comp] <;> first | rfl | exact ⟨rfl, rfl⟩)
  apply ans_next
  · (simp [isNonD, -ev_comp] <;> first | rfl | exact ⟨rfl, rfl⟩)
  apply ans_next
  · (simp [isiD, -ev_comp] <;> first | rfl | exact ⟨rfl, rfl⟩)
  apply ans_ret
  · (simp [e1, -ev_comp] <;> first | rfl | exact ⟨rfl, rfl⟩)
  · exact ⟨rfl, rfl⟩
theorem e_just_t (hz : l.length ≤ 10000) : Ph Ir.prog (k + 3) "is_just" [.v (.tuple (nL l)), .v (.tuple (nL l))] = some (.v (.bool true), [.v (.tuple (nL l)), .v (.tuple (nL l))]) := by
  rw [c_is_just]
  have e1 : ∀ x : Nat, Ph Ir.prog (k + 2) "is_just" [iv x, iv x] = some (.v (.bool true), [iv x, iv x]) := fun x => e_just_i
  have hl := nL_len l
  have e2 : Ph Ir.prog (k + 2) "is_long" [.v (.tuple (nL l)), .v (.int ((nL l).length : Nat))] = some (.v (.bool true), [.v (.tuple (nL l)), .v (.int ((nL l).length : Nat))]) := by
    rw [c_is_long2]
    obtain ⟨X, hhX⟩ := hide (nL l)
    simp only [← hhX] at *
    try clear hhX
    apply Ir.ru_is_long
    apply ans_ret
    · (simp [isiD, -ev_comp] <;> first | rfl | exact ⟨rfl, rfl⟩)
    · exact ⟨rfl, rfl⟩
  have zz := zip_nL l
  obtain ⟨Φ, hΦ⟩ := hide (Ph Ir.prog (k + 2))
  simp only [← hΦ] at *
  try clear hΦ
  obtain ⟨X, hhX⟩ := hide (nL l)
  simp only [← hhX] at *
  try clear hhX
  have hc : evE Φ (.bi .all (.cons (.comp (.call "is_just" (.cons (.var 2) (.cons (.var 3) .nil))) (.tp (.cons (.nm 2) (.cons (.nm 3) .nil))) (.zip (.var 0) (.var 1)) .tyes [2, 3]) .nil)) [some (.v (.tuple X)), some (.v (.tuple X)), none, none] = some (.v (.bool true), [some (.v (.tuple X)), some (.v (.tuple X)), none, none]) := by
    have z := all_n (c := .comp (.call "is_just" (.cons (.var 2) (.cons (.var 3) .nil))) (.tp (.cons (.nm 2) (.cons (.nm 3) .nil))) (.zip (.var 0) (.var 1)) .tyes [2, 3]) (Φ := Φ) (ρ := [some (.v (.tuple X)), some (.v (.tuple X)), none, none]) (ρ1 := [some (.v (.tuple X)), some (.v (.tuple X)), none, none]) (xs := l.map fun _ => .bool true) (bs := l.map fun _ => true) (by intro _; nofun) (by
      apply comp_pa (v := 2) (w := 3) (by decide) l (fun x => .int (x : Nat)) (fun x => .int (x : Nat)) (fun _ => .bool true)
      · (simp [zz, -ev_comp] <;> first | rfl | exact ⟨rfl, rfl⟩)
      · omega
      · intro x _
        have e1 := e1 x
        simp [evD, e1]) (trues_n l)
    rw [z]
    have : ((l.map fun _ => true).all id) = true := by simp
    rw [this]
  apply Ir.ru_is_just
  have nn : X.length = X.length := rfl
  apply ans_if (b := true)
  · (simp [isiD, -ev_comp] <;> first | rfl | exact ⟨rfl, rfl⟩)
  apply ans_seq
  apply ans_ret
  · (simp [e2, hc, -ev_comp, -ev_ball] <;> first | rfl | exact ⟨rfl, rfl⟩)
  · exact ⟨rfl, rfl⟩
theorem e_is_copy_row (hn : n ≤ 8) (hb : 1 ≤ b) (hb2 : b ≤ 2 ^ n) : Ph Ir.prog (k + 6) "is_copy_row" [iv n, iv b, .v (.tuple (nL (cpy n b)))] = some (.v (.bool true), [iv n, iv b, .v (.tuple (nL (cpy n b)))]) := by
  rw [c_is_copy_row]
  have e1 : Ph Ir.prog (k + 5) _ _ = _ := e_copy_row (k := k) hn hb hb2
  have e2 : Ph Ir.prog (k + 5) _ _ = _ := e_just_t (k := k + 2) (l := cpy n b) (by have := cpy_le (n := n) (by omega) hb hb2; omega)
  obtain ⟨Φ, hΦ⟩ := hide (Ph Ir.prog (k + 5))
  simp only [← hΦ] at *
  try clear hΦ
  obtain ⟨X, hhX⟩ := hide (nL (cpy n b))
  simp only [← hhX] at *
  try clear hhX
  apply Ir.ru_is_copy_row
  apply ans_ret
  · (simp [e1, e2, -ev_comp] <;> first | rfl | exact ⟨rfl, rfl⟩)
  · exact ⟨rfl, rfl⟩
theorem e_do_make (hn : n ≤ 8) (hb : 1 ≤ b) (hb2 : b ≤ 2 ^ n) : Ph Ir.prog (k + 5) "do_make" [iv n, .v (.tuple [.int (b : Nat)])] = some (.v (.bool (decide ((cpy n b).length = 2 ^ n))), [iv n, .v (.tuple [.int (b : Nat)])]) := by
  rw [c_do_make]
  have hN := pow_le12 (n := n) (by omega)
  have hP := Nat.two_pow_pos n
  have hp := pow_cast n
  have b2 : (n : Int) ≤ 1000000 := by omega
  have F := fine_pow n
  have e1 : Ph Ir.prog (k + 4) _ _ = _ := e_sure_low (k := k) hn
  have e2 : Ph Ir.prog (k + 4) "sure_some" [iv n, .v (.tuple [.int (b : Nat)])] = _ := e_sure_some (k := k) (n := n) (l := [b]) (by omega) (fun x hx => by rw [List.mem_singleton.mp hx]; exact ⟨hb, hb2⟩) (by simp) (by simp)
  have e3 : Ph Ir.prog (k + 4) _ _ = _ := e_rows_in (k := k + 3) (n := n) (by omega)
  obtain ⟨C, q', c1, c2, e4⟩ := e_made_in (k := k + 2) (N := 2 ^ n) (l := [b]) F hN (.inr rfl) (fun x hx => by rw [List.mem_singleton.mp hx]; exact ⟨hb, hb2⟩) (by simp) (q := .v (.tuple (nL [b]))) (.inl rfl)
  have eC : C = cpy n b := asc_same c1 (cpy_asc hb hb2) fun x => by rw [c2, cl_row (by omega) F hb hb2]; rfl
  subst eC
  clear c1 c2
  have e4 : Ph Ir.prog (k + 4) "made_in" _ = _ := e4
  have hl := nL_len (cpy n b)
  obtain ⟨Φ, hΦ⟩ := hide (Ph Ir.prog (k + 4))
  simp only [← hΦ] at *
  try clear hΦ
  have e5 : nL [b] = [.int (b : Nat)] := rfl
  rw [e5] at e2 e4
  obtain ⟨u, hu⟩ := hide (cpy n b).length
  rw [← hu] at hl ⊢
  obtain ⟨L, hhL⟩ := hide (nL (cpy n b))
  simp only [← hhL] at *
  try clear hhL
  obtain ⟨X, hhX⟩ := hide (rowsD (2 ^ n))
  simp only [← hhX] at *
  try clear hhX
  obtain ⟨N, hhN⟩ := hide ((2 ^ n : Nat))
  simp only [← hhN] at *
  try clear hhN
  apply Ir.ru_do_make
  apply ans_next
  · (simp [e1, -ev_comp] <;> first | rfl | exact ⟨rfl, rfl⟩)
  apply ans_ret
  · (simp [e1, e2, e3, e4, seqD, hl, hp, b2, eq_cast, -ev_comp] <;> first | rfl | exact ⟨rfl, rfl⟩)
  · exact ⟨rfl, rfl⟩
theorem e_worths (t : Bt) (h : t.dep < 20) (hm : m ≤ 12) : Ph Ir.prog (k + 23) "worths" [.v t.d, iv m] = some (.v (.tuple (nL ((List.range (m + 1)).map fun l => t.w (2 ^ l)))), [.v t.d, iv m]) := by
  rw [c_worths]
  have e1 : Ph Ir.prog (k + 22) _ _ = _ := e_sure_bush (k := k) t h
  have e2 : Ph Ir.prog (k + 22) _ _ = _ := e_sure_level (k := k + 18) hm
  have e3 : ∀ l, l ≤ m → Ph Ir.prog (k + 22) "rows_in" [iv l] = some (.l (rowsD (2 ^ l)), [iv l]) := fun l hl => e_rows_in (k := k + 21) (by omega)
  have e4 : ∀ l, l ≤ m → Ph Ir.prog (k + 22) "worth_by" [.l (rowsD (2 ^ l)), .v t.d] = some (iv (t.w (2 ^ l)), [.l (rowsD (2 ^ l)), .v t.d]) := fun l hl => e_worth_by (k := k + 1) (Nat.two_pow_pos l) (fine_pow l) (.inr rfl) 20 t h (by omega)
  obtain ⟨Φ, hΦ⟩ := hide (Ph Ir.prog (k + 22))
  simp only [← hΦ] at *
  try clear hΦ
  obtain ⟨w, hw⟩ := hide fun l => t.w (2 ^ l)
  have hw' : ∀ l, t.w (2 ^ l) = w l := fun l => by rw [hw]
  simp only [hw'] at *
  obtain ⟨T, hT⟩ := hide t.d
  simp only [← hT] at *
  apply Ir.ru_worths
  apply ans_next
  · (simp [e1, -ev_comp] <;> first | rfl | exact ⟨rfl, rfl⟩)
  apply ans_ret
  · apply tup_n (by intro _; nofun)
    apply comp_na (List.range (m + 1)) (fun x => .int (x : Nat)) (fun x => .int (w x : Nat))
    · apply it_to (N := m + 1)
      · intro _; nofun
      · (simp [e2, -ev_comp] <;> first | rfl | exact ⟨rfl, rfl⟩)
      · omega
    · simp; omega
    · intro x hx
      have hx := List.mem_range.mp hx
      have e3 := e3 x (by omega)
      have e4 := e4 x (by omega)
      obtain ⟨X, hX⟩ := hide (rowsD (2 ^ x))
      rw [← hX] at e3 e4
      obtain ⟨y, hy⟩ := hide (w x)
      rw [← hy] at e4 ⊢
      simp [evD, e3, e4]
  · rw [nL_map]
    exact ⟨rfl, rfl⟩
end
end Ev
namespace Ev
open PySem Pv L2 Lv
theorem pr_int {N a : Nat} (ha : 1 ≤ a) : ((a : Int) - 1) % (N : Int) + 1 = (pr N a : Nat) := by
  unfold pr
  rw [show (a : Int) - 1 = ((a - 1 : Nat) : Int) by omega]
  simp
theorem pow_inj2 {i j : Nat} (h : 2 ^ i = 2 ^ j) : i = j := by
  have := congrArg Nat.log2 h
  rwa [log_pow, log_pow] at this
section
variable {n a : Nat} (ha : 1 ≤ a) (ha2 : a ≤ 2 ^ (n + 1))
include ha ha2
/-- a copy, a level down -/
theorem cpy_low : ∃ t, (t = 1 ∨ t = 2) ∧ (cpy (n + 1) a).length = t * (cpy n (pr (2 ^ n) a)).length ∧ (cpy (n + 1) a).map (pr (2 ^ n)) = (List.replicate t (cpy n (pr (2 ^ n) a))).flatten := by
  have hN := Nat.two_pow_pos n
  have hM := Nat.two_pow_pos (n + 1)
  have F2 : Fine (2 * 2 ^ n) := by rw [← two_pow]; exact fine_pow (n + 1)
  have p2 : pv (2 ^ (n + 1)) a ≤ 2 * 2 ^ n := by
    have := pv_le hM (x := a)
    have e := two_pow n
    omega
  obtain ⟨t, h1, h2, h3⟩ := low_row (N := 2 ^ n) (by omega) (fine_pow n) F2 (c := pv (2 ^ (n + 1)) a) (pv_pos hM) p2
  rw [← two_pow, pv_low (by omega) ha ha2] at h2 h3
  refine ⟨t, h1, ?_, h3⟩
  unfold cpy
  rw [rowN_len, rowN_len, h2]
theorem cpy_low_mem (x : Nat) : x ∈ (cpy (n + 1) a).map (pr (2 ^ n)) ↔ x ∈ cpy n (pr (2 ^ n) a) := by
  obtain ⟨t, h1, _, h3⟩ := cpy_low ha ha2
  rw [h3]
  rcases h1 with rfl | rfl <;> simp [List.replicate]
theorem cpy_low_take : ((cpy (n + 1) a).map (pr (2 ^ n))).take (cpy n (pr (2 ^ n) a)).length = cpy n (pr (2 ^ n) a) := by
  obtain ⟨t, h1, _, h3⟩ := cpy_low ha ha2
  rw [h3]
  rcases h1 with rfl | rfl
  · simp
  · rw [show (List.replicate 2 (cpy n (pr (2 ^ n) a))).flatten = cpy n (pr (2 ^ n) a) ++ cpy n (pr (2 ^ n) a) by simp [List.replicate], List.take_left']
    rfl
/-- its level goes up by at most 1 -/
theorem cpy_levels {u v : Nat} (hu : (cpy (n + 1) a).length = 2 ^ u) (hv : (cpy n (pr (2 ^ n) a)).length = 2 ^ v) : u = v ∨ u = v + 1 := by
  obtain ⟨t, h1, h2, _⟩ := cpy_low ha ha2
  rw [hu, hv] at h2
  rcases h1 with rfl | rfl
  · rw [Nat.one_mul] at h2
    exact .inl (pow_inj2 h2)
  · exact .inr (pow_inj2 (by rw [h2, Nat.pow_succ, Nat.mul_comm]))
end
/-- worths, a level down -/
theorem w_low {m n : Nat} (h : m ≤ n) (t : Bt) : pr (2 ^ m) (t.w (2 ^ n)) = t.w (2 ^ m) := by
  have hM := Nat.two_pow_pos m
  induction t with
  | o =>
    show pr (2 ^ m) 1 = 1
    exact pr_id (by omega) (by omega)
  | n l r ih1 ih2 =>
    show pr (2 ^ m) (op (2 ^ n) (l.w (2 ^ n)) (r.w (2 ^ n))) = op (2 ^ m) (l.w (2 ^ m)) (r.w (2 ^ m))
    obtain ⟨a1, a2⟩ := l.w_rng (N := 2 ^ n) (Nat.two_pow_pos n)
    obtain ⟨b1, b2⟩ := r.w_rng (N := 2 ^ n) (Nat.two_pow_pos n)
    rw [op_low h a1 a2 b1, ih1, ih2]
/-- doing one thing many times, a level down -/
theorem fl_low {m n a : Nat} (h : m ≤ n) (ha : 1 ≤ a) (ha2 : a ≤ 2 ^ n) (j : Nat) : pr (2 ^ m) (fl (2 ^ n) (List.replicate j a)) = fl (2 ^ m) (List.replicate j (pr (2 ^ m) a)) := by
  have hN := Nat.two_pow_pos n
  have hM := Nat.two_pow_pos m
  induction j with
  | zero =>
    show pr (2 ^ m) (2 ^ n) = 2 ^ m
    have : 2 ^ n = 2 ^ m * 2 ^ (n - m) := by rw [← Nat.pow_add]; congr 1; omega
    unfold pr
    have p := Nat.two_pow_pos (n - m)
    obtain ⟨e, he⟩ : ∃ e, 2 ^ (n - m) = e + 1 := ⟨2 ^ (n - m) - 1, by omega⟩
    rw [this, he, Nat.mul_succ, show 2 ^ m * e + 2 ^ m - 1 = 2 ^ m - 1 + 2 ^ m * e by omega, Nat.add_mul_mod_self_left, Nat.mod_eq_of_lt (by omega)]
    omega
  | succ j ih =>
    rw [fl_rep, fl_rep, ← ih]
    have r := fl_rng (N := 2 ^ n) hN (List.replicate j a) (2 ^ n) hN (Nat.le_refl _)
    exact co_low h r.1 r.2 ha ha2
theorem fix_low {n a x : Nat} (ha : 1 ≤ a) (ha2 : a ≤ 2 ^ (n + 1)) (hx : x ∈ fixN (2 ^ (n + 1)) a) : pr (2 ^ n) x ∈ fixN (2 ^ n) (pr (2 ^ n) a) := by
  have hN := Nat.two_pow_pos n
  obtain ⟨m1, m2⟩ := List.mem_filter.mp hx
  obtain ⟨x1, x2⟩ := mem_upN.mp m1
  have e : op (2 ^ (n + 1)) a x = x := of_decide_eq_true m2
  refine List.mem_filter.mpr ⟨mem_upN.mpr ⟨pr_pos, pr_le hN⟩, decide_eq_true ?_⟩
  rw [← op_low (Nat.le_succ n) ha ha2 x1, e]
end Ev
namespace Ev
open PySem Pv L2 Lv
theorem in2' (w p q : Nat) : inD (.int (w : Nat)) (.tuple [.int (p : Nat), .int ((q : Nat) : Int)]) = some (decide (p = w) || decide (q = w)) := by
  have := in_nLT [p, q] w
  have e : nL [p, q] = [.int (p : Nat), .int (q : Nat)] := rfl
  rw [e] at this
  rw [this]
  congr 1
  rw [Bool.eq_iff_iff, decide_eq_true_iff, Bool.or_eq_true, decide_eq_true_iff, decide_eq_true_iff]
  simp [eq_comm]
theorem eq_nTT (l m : List Nat) : eqD (.tuple (nL l)) (.tuple (nL m)) = some (decide (l = m)) := by
  have e : eqD (.tuple (nL l)) (.tuple (nL m)) = if (SeqAt.shaped (.tuple (nL l)) && SeqAt.shaped (.tuple (nL m))) = true then some (PyData.eqv (.tuple (nL l)) (.tuple (nL m))) else none := rfl
  rw [e, sh_nLT, sh_nLT, if_pos (show (true && true) = true from rfl)]
  show some (PyData.eqvAll (nL l) (nL m)) = _
  rw [eqv_nL]
theorem mt_countN (l : List Nat) (g : Nat) : mtD .count (.list (nL l)) [.int (g : Nat)] = some (iv (l.count g)) := by
  show (intsOf (nL l)).bind (fun ns => some (R.v (.int (ns.count (g : Int) : Nat)))) = _
  rw [ints_nL]
  have : (l.map fun x : Nat => (x : Int)).count (g : Int) = l.count g := by
    induction l with
    | nil => rfl
    | cons x l ih =>
      rw [List.map_cons, List.count_cons, List.count_cons, ih]
      congr 1
      by_cases q : x = g
      · subst q; simp
      · have : ¬ (x : Int) = g := by omega
        simp [q, this]
  show some (R.v (.int ((l.map fun x : Nat => (x : Int)).count (g : Int) : Nat))) = _
  rw [this]
theorem tbl_atN {N : Nat} {f : Nat → Nat → Nat} {i : Nat} (h : i < N) : atI (tbl N f) (i : Int) = some (.tuple (nL ((upN N).map (f (i + 1))))) := by
  rw [at_nat rfl]
  unfold tbl upN
  rw [List.getElem?_map, List.getElem?_map, List.getElem?_range h]
  rfl
theorem up_atN {N : Nat} {f : Nat → Nat} {i : Nat} (h : i < N) : atI (nL ((upN N).map f)) (i : Int) = some (.int (f (i + 1) : Nat)) := by
  rw [at_nat rfl]
  unfold nL upN
  rw [List.getElem?_map, List.getElem?_map, List.getElem?_map, List.getElem?_range h]
  rfl
theorem up_last {N : Nat} (hN : 1 ≤ N) (f : Nat → Nat) : atI (nL ((upN N).map f)) (-1) = some (.int (f N : Nat)) := by
  have e : upN N = upN (N - 1) ++ [N] := by
    unfold upN
    conv => lhs; rw [show N = N - 1 + 1 by omega, List.range_succ, List.map_append]
    show _ ++ [N - 1 + 1] = _
    rw [show N - 1 + 1 = N by omega]
  rw [e, List.map_append, at_last, ← nL_app]
  show (_ ++ [PyData.int (f N : Nat)]).getLast? = _
  rw [List.getLast?_concat]
theorem cut_two {α : Type} (xs : List α) (x y : α) : cutA (xs ++ [x, y]) (some (-2)) none = [x, y] := by
  unfold cutA HT.sIx
  dsimp only
  rw [if_pos (by omega)]
  simp
  rw [show (-2 + ((xs.length : Int) + 2)).toNat = xs.length by omega, List.drop_left, List.take_of_length_le (by simp)]
/-- a loop that keeps a word about the slots -/
theorem for_inv {Φ : Phi} {v : Nat} {it : E} {b : S} {ρ ρ1 : Pv.Env} (P : Pv.Env → Prop) (l : List Nat) (h : evI Φ it ρ = some (nL l, ρ1)) (hp : P ρ1) (hs : ∀ x ∈ l, ∀ ρ, P ρ → ∃ ρ', ex Φ b (setS ρ v (some (iv x))) = some (.next, ρ') ∧ P ρ') :
    ∃ ρ', ex Φ (.for_ (.nm v) it b) ρ = some (.next, ρ') ∧ P ρ' := by
  have lp : ∀ (l : List Nat), (∀ x ∈ l, ∀ ρ, P ρ → ∃ ρ', ex Φ b (setS ρ v (some (iv x))) = some (.next, ρ') ∧ P ρ') → ∀ ρ, P ρ → ∃ ρ', forL (fun d ρ => (bindT (.nm v) d ρ).bind fun ρ2 => ex Φ b ρ2) (nL l) ρ = some (.next, ρ') ∧ P ρ' := by
    intro l
    induction l with
    | nil => exact fun _ ρ p => ⟨ρ, rfl, p⟩
    | cons x l ih =>
      intro h ρ p
      obtain ⟨ρ1, e1, p1⟩ := h x (List.mem_cons_self ..) ρ p
      obtain ⟨ρ2, e2, p2⟩ := ih (fun y hy => h y (List.mem_cons_of_mem _ hy)) ρ1 p1
      refine ⟨ρ2, ?_, p2⟩
      show (ex Φ b (setS ρ v (some (iv x)))).bind _ = _
      rw [e1]
      exact e2
  obtain ⟨ρ', e, p⟩ := lp l hs ρ1 hp
  exact ⟨ρ', for_n h e, p⟩
/-- a number and what it is a level down -/
theorem pr_mod {N z : Nat} (hz : 1 ≤ z) : ((z : Int) - (pr N z : Nat)) % (N : Int) = 0 := by
  unfold pr
  have h := Nat.div_add_mod (z - 1) N
  obtain ⟨q, hq⟩ : ∃ q, q = (z - 1) / N := ⟨_, rfl⟩
  obtain ⟨m, hm⟩ : ∃ m, m = (z - 1) % N := ⟨_, rfl⟩
  rw [← hq, ← hm] at h
  rw [← hm]
  have e : (z : Int) - ((m + 1 : Nat) : Int) = (N : Int) * (q : Int) := by
    have : ((N * q : Nat) : Int) = (N : Int) * (q : Int) := by simp
    rw [← this]
    omega
  rw [e, Int.mul_emod_right]
end Ev
namespace Ev
open PySem Pv L2 Lv
theorem c__law_more_right {k : Nat} {rs : List R} : Ph Ir.prog (k + 1) "_law_more_right" rs = runF (Ph Ir.prog k) Ir.f__law_more_right rs := rfl
theorem ans_mid {P : R → Pv.Env → Prop} {Φ : Phi} {s t : S} {ρ : Pv.Env} {P' : Pv.Env → Prop} (h : ∃ ρ1, ex Φ s ρ = some (.next, ρ1) ∧ P' ρ1) (h2 : ∀ ρ1, P' ρ1 → Ans P (ex Φ t ρ1)) : Ans P (ex Φ (.seq s t) ρ) := by
  obtain ⟨ρ1, h, q⟩ := h
  exact ans_next h (h2 ρ1 q)
theorem if_t {Φ : Phi} {e : E} {s t : S} {ρ ρ1 : Pv.Env} {x : Option (Fl × Pv.Env)} (h : evT Φ e ρ = some (true, ρ1)) (h2 : ex Φ s ρ1 = x) : ex Φ (.if_ e s t) ρ = x := by
  simp [h, h2]
theorem mid2 {Φ : Phi} {s : S} {ρ : Pv.Env} {o1 o2 : Option R} (f : Option R → Option R → Pv.Env) (h : ex Φ s ρ = some (.next, f o1 o2)) : ∃ ρ1, ex Φ s ρ = some (.next, ρ1) ∧ ∃ o1 o2, ρ1 = f o1 o2 := ⟨_, h, _, _, rfl⟩
theorem ok1000 {m : Nat} (h : m ≤ 1000) : okN m = true := okN_t (by omega)
section
variable {k : Nat}
theorem e_more94 (n a b t c : Nat) (r : R) (hn : n ≤ 6) (t0 : Tn c r) (hc : c ≤ 10) (ha : 1 ≤ a) (ha2 : a ≤ 2 ^ (n + 1)) (hb : 1 ≤ b) (hb2 : b ≤ 2 ^ (n + 1)) (ht : t = 1 ∨ t = 2) (tp : per (2 ^ (n + 1)) a = t * per (2 ^ n) (pr (2 ^ n) a)) :
      ∃ rr outs, Ph Ir.prog (k + 24) "_law_more_right" [r, iv (2 ^ n), iv n, iv (pr (2 ^ n) a), iv (op (2 ^ n) (pr (2 ^ n) a) (pr (2 ^ n) b)), iv a, iv (op (2 ^ (n + 1)) a b), .l [.tuple (nL (rowN (2 ^ (n + 1)) a)), .tuple (nL (rowN (2 ^ n) (pr (2 ^ n) a)))], iv t] = some (rr, outs) ∧ rr = .v (.bool true) ∧ outs.length = 9 := by
  rw [c__law_more_right]
  have F := fine_pow n
  have G := fine_pow (n + 1)
  have hP := Nat.two_pow_pos n
  have hN : 1 ≤ 2 ^ n := by omega
  have hN2 : 2 ^ n ≤ 64 := Nat.pow_le_pow_right (n := 2) (by omega) hn
  have h2N := two_pow n
  have F2 : Fine (2 * 2 ^ n) := by rw [← h2N]; exact G
  have la1 := pr_pos (N := 2 ^ n) (x := a)
  have la2 := pr_le hN (x := a)
  have lb1 := pr_pos (N := 2 ^ n) (x := b)
  have lb2 := pr_le hN (x := b)
  have q1 := op_pos ha ha2 hb
  have q2 : op (2 ^ (n + 1)) a b ≤ 2 ^ (n + 1) := op_le ha2 hb hb2
  have o0 := t0.own
  -- part one
  have e18 : ∀ x, 1 ≤ x → x ≤ 2 ^ n → ∃ d, d ≤ n ∧ (cpy n x).length = 2 ^ d ∧ Ph Ir.prog (k + 23) "copy_level" [iv n, iv x] = some (iv d, [iv n, iv x]) := fun x h1 h2 => e_copy_level (k := k + 17) (n := n) (b := x) (by omega) h1 h2
  have Ll : ((upN (2 ^ n)).map fun x => (cpy n x).length).length = 2 ^ n := by rw [List.length_map, upN_len]
  obtain ⟨v0, sz, r1, t1, hx, d1⟩ := e__law_of (k := k + 21) (l := (upN (2 ^ n)).map fun x => (cpy n x).length) t0 (by omega) (by omega) (by omega)
  have d1 : Ph Ir.prog (k + 23) "_law_of" [r, .l (nL ((upN (2 ^ n)).map fun x => (cpy n x).length))] = _ := d1
  have sz1 : 1 ≤ sz := by
    obtain ⟨x, hx1, hx2⟩ := List.mem_map.mp (List.mem_of_getElem? hx)
    obtain ⟨x1, x2⟩ := mem_upN.mp hx1
    obtain ⟨d, _, d2, _⟩ := e18 x x1 x2
    have := Nat.two_pow_pos d
    omega
  have o1 := t1.own
  have mk : (upN (2 ^ n)).filter (fun a => decide ((cpy n a).length = 2 ^ n)) = [1] := filter_one (by omega) hN (fun x h1 h2 => decide_eq_decide.mpr (cpy_full h1 h2))
  have e1 : Ph Ir.prog (k + 23) "makers" [iv n] = some (.v (.tuple [.int 1]), [iv n]) := by
    have z := e_makers (k := k + 18) (n := n) (by omega)
    rw [mk] at z
    exact z
  have e2 : Ph Ir.prog (k + 23) "do_make" [iv n, .v (.tuple [.int 1])] = some (.v (.bool true), [iv n, .v (.tuple [.int 1])]) := by
    have z := e_do_make (k := k + 18) (n := n) (b := 1) (by omega) (by omega) hN
    rw [decide_eq_true ((cpy_full (by omega) hN).mpr rfl)] at z
    exact z
  have e3 : Ph Ir.prog (k + 23) _ _ = _ := e_how_many_make (k := k + 18) (n := n) (m := sz) (by omega) sz1
  have e4 : Ph Ir.prog (k + 23) _ _ = _ := e_how_many_make (k := k + 18) (n := n) (m := 2 ^ n) (by omega) hN
  rw [List.countP_eq_length_filter, mk] at e4
  have e4 : Ph Ir.prog (k + 23) "how_many_make" [iv n, iv (2 ^ n)] = some (.v (.int 1), [iv n, iv (2 ^ n)]) := e4
  have e5 : Ph Ir.prog (k + 23) "do_make" [iv n, .v (.tuple [.int ((2 ^ n : Nat) : Int)])] = some (.v (.bool (decide (n = 0))), [iv n, .v (.tuple [.int ((2 ^ n : Nat) : Int)])]) := by
    have z := e_do_make (k := k + 18) (n := n) (b := 2 ^ n) (by omega) hN (Nat.le_refl _)
    rw [cpy_last, show decide (1 = 2 ^ n) = decide (n = 0) from decide_eq_decide.mpr ⟨fun h => (pow_inj2 (i := 0) (j := n) h).symm, fun h => by rw [h]⟩] at z
    exact z
  have l6 : atI (nL ((upN (2 ^ n)).map fun x => (cpy n x).length)) (-1) = some (.int 1) := by
    rw [up_last hN, cpy_last]
    rfl
  have cnt := mt_countN ((upN (2 ^ n)).map fun x => (cpy n x).length) sz
  rw [List.count_eq_countP, List.countP_map] at cnt
  have cnt : mtD .count (.list (nL ((upN (2 ^ n)).map fun x => (cpy n x).length))) [.int (sz : Nat)] = some (iv ((upN (2 ^ n)).countP fun a => decide ((cpy n a).length = sz))) := by
    rw [cnt]
    congr 4
  have s1 : Ph Ir.prog (k + 23) "_law_same" [.l [.tuple [.int 1], .bool true, .int ((upN (2 ^ n)).countP (fun a => decide ((cpy n a).length = sz)) : Nat), .int 1, .bool (decide (n = 0)), .int 1], .l [.tuple [.int 1], .bool true, .int ((upN (2 ^ n)).countP (fun a => decide ((cpy n a).length = sz)) : Nat), .int 1, .bool (decide (n = 0)), .int 1]] = _ :=
    same_ll (k := k + 16) rfl (sd_l (by simp) (all_cons (sd_t (by simp) (all_cons sd_i all_nil)) (all_cons sd_b (all_cons sd_i (all_cons sd_i (all_cons sd_b (all_cons sd_i all_nil)))))))
  -- part two
  have pp := per_pos F la1 la2
  have pl := per_le F la1 la2
  have pq := per_le G ha ha2
  have l1 : (nL (rowN (2 ^ (n + 1)) a)).length = per (2 ^ (n + 1)) a := by rw [nL_len, rowN_len]
  have l2 : (nL (rowN (2 ^ n) (pr (2 ^ n) a))).length = per (2 ^ n) (pr (2 ^ n) a) := by rw [nL_len, rowN_len]
  have f1 : pr (2 ^ n) a = a → Ph Ir.prog (k + 23) "threshold" [iv n, iv a] = some (iv (thr (2 ^ n) a), [iv n, iv a]) := fun q => e_threshold (k := k + 18) (n := n) (by omega) ha (by omega)
  have f2 : pr (2 ^ n) a = a → Ph Ir.prog (k + 23) "row_above" [iv n, iv a] = some (.v (.tuple (nL (rowN (2 ^ (n + 1)) a))), [iv n, iv a]) := fun q => by
    have z := e_row_above (k := k + 17) (n := n) (a := a) (by omega) ha (by omega)
    rw [rowUp_eq hN F F2 ha (by omega), ← h2N] at z
    exact z
  have f3 : pr (2 ^ n) a = a → Ph Ir.prog (k + 23) "period_above" [iv n, iv a] = some (iv (per (2 ^ (n + 1)) a), [iv n, iv a]) := fun q => by
    have z := e_period_above (k := k + 16) (n := n) (a := a) (by omega) ha (by omega)
    rw [rowUp_eq hN F F2 ha (by omega), ← h2N, rowN_len] at z
    exact z
  have f4 : pr (2 ^ n) a = a → Ph Ir.prog (k + 23) "does_double" [iv n, iv a] = some (.v (.bool (decide (t = 2))), [iv n, iv a]) := fun q => by
    have z := e_does_double (k := k + 18) (n := n) (a := a) (by omega) ha (by omega)
    rw [show decide (per (2 ^ n) a < per (2 ^ (n + 1)) a) = decide (t = 2) from decide_eq_decide.mpr (by rw [tp, q]; rw [q] at pp; rcases ht with rfl | rfl <;> omega)] at z
    exact z
  have f5 : pr (2 ^ n) a = a → (thr (2 ^ n) a = per (2 ^ n) (pr (2 ^ n) a) ↔ t = 2) := fun q => by
    rw [q]
    have z := per_up hN F F2 ha (by omega : a ≤ 2 ^ n)
    rw [← h2N, tp, q] at z
    rw [q] at pp
    rcases ht with rfl | rfl <;> omega
  have f6 : pr (2 ^ n) a = a → (((rowN (2 ^ (n + 1)) a).take (per (2 ^ n) (pr (2 ^ n) a))).filter fun x => decide (x ≤ 2 ^ n)).length = thr (2 ^ n) a := fun q => by
    unfold thr
    rw [q]
    rw [List.countP_eq_length_filter, h2N]
  have tl : ((rowN (2 ^ (n + 1)) a).take (per (2 ^ n) (pr (2 ^ n) a))).length ≤ 1000 := by rw [List.length_take, rowN_len]; omega
  have s2 : Ph Ir.prog (k + 23) "_law_same" [.l [.int (thr (2 ^ n) a : Nat), .tuple (nL (rowN (2 ^ (n + 1)) a)), .int (per (2 ^ (n + 1)) a : Nat), .bool (decide (t = 2)), .bool (decide (t = 2))], .l [.int (thr (2 ^ n) a : Nat), .tuple (nL (rowN (2 ^ (n + 1)) a)), .int (per (2 ^ (n + 1)) a : Nat), .bool (decide (t = 2)), .bool (decide (t = 2))]] = _ :=
    same_ll (k := k + 16) rfl (sd_l (by simp) (all_cons sd_i (all_cons (sd_nT _ _ (by rw [rowN_len]; omega)) (all_cons sd_i (all_cons sd_b (all_cons sd_b all_nil))))))
  -- part three
  obtain ⟨many, r2, t2, lm, d2⟩ := t1.take (by omega) 12 (by omega) (by omega) (k + 22)
  have d2 : Ph Ir.prog (k + 23) "_law_take" [r1, .v (.int 12)] = some (iv many, [r2, .v (.int 12)]) := d2
  have o2 := t2.own
  have g1 : Ph Ir.prog (k + 23) "both_times" [.v (.int ((n : Int) + 1)), iv a, iv many] = some (iv (fl (2 ^ (n + 1)) (List.replicate many a)), [.v (.int ((n : Int) + 1)), iv a, iv many]) := e_both_times (k := k + 18) (n := n + 1) (m := many) (by omega) ha ha2 (by omega)
  have fr := fl_rng (N := 2 ^ (n + 1)) (by omega) (List.replicate many a) (2 ^ (n + 1)) (by omega) (Nat.le_refl _)
  have fr1 : 1 ≤ fl (2 ^ (n + 1)) (List.replicate many a) := fr.1
  have fr2 : fl (2 ^ (n + 1)) (List.replicate many a) ≤ 2 ^ (n + 1) := fr.2
  have g2 : Ph Ir.prog (k + 23) _ _ = _ := e_lowered (k := k + 18) (m := n) (a := fl (2 ^ (n + 1)) (List.replicate many a)) (by omega) fr1 (by omega)
  rw [fl_low (Nat.le_succ n) ha ha2] at g2
  have g3 : Ph Ir.prog (k + 23) _ _ = _ := e_both_times (k := k + 18) (n := n) (a := pr (2 ^ n) a) (m := many) (by omega) la1 la2 (by omega)
  have g4 : Ph Ir.prog (k + 23) "fixed_by" [.v (.int ((n : Int) + 1)), iv a] = some (.v (.tuple (nL (fixN (2 ^ (n + 1)) a))), [.v (.int ((n : Int) + 1)), iv a]) := e_fixed_by (k := k + 18) (n := n + 1) (by omega) ha ha2
  have g5 : Ph Ir.prog (k + 23) _ _ = _ := e_fixed_by (k := k + 18) (n := n) (a := pr (2 ^ n) a) (by omega) la1 la2
  have fxr : ∀ x ∈ fixN (2 ^ (n + 1)) a, Ph Ir.prog (k + 23) "lowered" [iv n, iv x] = some (iv (pr (2 ^ n) x), [iv n, iv x]) ∧ inD (.int (pr (2 ^ n) x : Nat)) (.tuple (nL (fixN (2 ^ n) (pr (2 ^ n) a)))) = some true := fun x hx => by
    obtain ⟨x1, x2⟩ := mem_upN.mp (List.mem_filter.mp hx).1
    refine ⟨e_lowered (k := k + 18) (m := n) (a := x) (by omega) x1 (by omega), ?_⟩
    rw [in_nLT, decide_eq_true (fix_low ha ha2 hx)]
  have fxl : (fixN (2 ^ (n + 1)) a).length ≤ 1000 := Nat.le_trans (List.length_filter_le _ _) (by rw [upN_len]; omega)
  have s3 : Ph Ir.prog (k + 23) "_law_same" [.l [.int (fl (2 ^ n) (List.replicate many (pr (2 ^ n) a)) : Nat), .list []], .l [.int (fl (2 ^ n) (List.replicate many (pr (2 ^ n) a)) : Nat), .list []]] = _ :=
    same_ll (k := k + 16) rfl (sd_l (by simp) (all_cons sd_i (all_cons (sd_l (by simp) all_nil) all_nil)))
  -- part four
  obtain ⟨v4, r3, t3, lv4, d3⟩ := t2.take (by omega) 7 (by omega) (by omega) (k + 22)
  have d3 : Ph Ir.prog (k + 23) "_law_take" [r2, .v (.int 7)] = some (iv v4, [r3, .v (.int 7)]) := d3
  have o3 := t3.own
  obtain ⟨m, hm0, hm1, hm2⟩ : ∃ m : Nat, (1 : Int) + v4 = m ∧ 1 ≤ m ∧ m ≤ 7 := ⟨v4 + 1, by omega, by omega, by omega⟩
  obtain ⟨bt, r4, t4, lbt, d4⟩ := e__law_net (k := k + 21) (m := m) t3 (by omega) hm1 (by omega)
  have d4 : Ph Ir.prog (k + 23) "_law_net" [r3, iv m] = some (.v bt.d, [r4, iv m]) := d4
  have o4 := t4.own
  have bd : bt.dep < 20 := by have := bt.dep_lt; omega
  obtain ⟨g, hg1, hg2, hgo, h1⟩ : ∃ g : Nat, 1 ≤ g ∧ g ≤ per (2 ^ (n + 1)) a ∧ op (2 ^ (n + 1)) a g = op (2 ^ (n + 1)) a b ∧ Ph Ir.prog (k + 23) "divided" [.v (.int ((n : Int) + 1)), iv a, iv (op (2 ^ (n + 1)) a b)] = some (iv g, [.v (.int ((n : Int) + 1)), iv a, iv (op (2 ^ (n + 1)) a b)]) := by
    obtain ⟨m', h1, h2, h3⟩ := e_divided (k := k + 18) (n := n + 1) (a := a) (b := op (2 ^ (n + 1)) a b) (by omega) ha ha2 q1 q2 (op_in G ha ha2 hb hb2)
    exact ⟨m' + 1, by omega, by omega, h2, h3⟩
  have h2 : Ph Ir.prog (k + 23) "worth" [.v (.int ((n : Int) + 1)), .v bt.d] = some (iv (bt.w (2 ^ (n + 1))), [.v (.int ((n : Int) + 1)), .v bt.d]) := e_worth (k := k) (n := n + 1) (by omega) bt bd
  obtain ⟨w1, w2⟩ := bt.w_rng (N := 2 ^ (n + 1)) (Nat.two_pow_pos _)
  have h3 : Ph Ir.prog (k + 23) _ _ = _ := e_lowered (k := k + 18) (m := n) (a := bt.w (2 ^ (n + 1))) (by omega) w1 (by omega)
  rw [w_low (Nat.le_succ n)] at h3
  have h4 : Ph Ir.prog (k + 23) "worths" [.v bt.d, .v (.int ((n : Int) + 1))] = some (.v (.tuple (nL ((List.range (n + 1 + 1)).map fun l => bt.w (2 ^ l)))), [.v bt.d, .v (.int ((n : Int) + 1))]) := e_worths (k := k) (m := n + 1) bt bd (by omega)
  have ct : cutA (nL ((List.range (n + 1 + 1)).map fun l => bt.w (2 ^ l))) (some (-2)) none = [.int (bt.w (2 ^ n) : Nat), .int (bt.w (2 ^ (n + 1)) : Nat)] := by
    rw [List.range_succ, List.range_succ, List.append_assoc, List.map_append, ← nL_app]
    exact cut_two _ _ _
  have h5 : Ph Ir.prog (k + 23) _ _ = _ := e_lowered (k := k + 18) (m := n) (a := g) (by omega) hg1 (by omega)
  have h6 : Ph Ir.prog (k + 23) "times" [iv n, iv (pr (2 ^ n) a), iv (pr (2 ^ n) g)] = some (iv (op (2 ^ n) (pr (2 ^ n) a) (pr (2 ^ n) b)), [iv n, iv (pr (2 ^ n) a), iv (pr (2 ^ n) g)]) := by
    have z := e_times (k := k + 18) (n := n) (a := pr (2 ^ n) a) (b := pr (2 ^ n) g) (by omega) la1 la2 pr_pos (pr_le hN)
    rw [← op_low (Nat.le_succ n) ha ha2 hg1, hgo, op_low (Nat.le_succ n) ha ha2 hb] at z
    exact z
  have h7 : Ph Ir.prog (k + 23) "period" [.v (.int ((n : Int) + 1)), iv a] = some (iv (per (2 ^ (n + 1)) a), [.v (.int ((n : Int) + 1)), iv a]) := e_period (k := k + 17) (n := n + 1) (by omega) ha ha2
  have h8 : Ph Ir.prog (k + 23) _ _ = _ := e_worth (k := k) (n := n) (by omega) bt bd
  have s4 : Ph Ir.prog (k + 23) "_law_same" [.l [.int (bt.w (2 ^ n) : Nat), .tuple [.int (bt.w (2 ^ n) : Nat), .int (bt.w (2 ^ (n + 1)) : Nat)], .int (op (2 ^ n) (pr (2 ^ n) a) (pr (2 ^ n) b) : Nat), .bool true], .l [.int (bt.w (2 ^ n) : Nat), .tuple [.int (bt.w (2 ^ n) : Nat), .int (bt.w (2 ^ (n + 1)) : Nat)], .int (op (2 ^ n) (pr (2 ^ n) a) (pr (2 ^ n) b) : Nat), .bool true]] = _ :=
    same_ll (k := k + 16) rfl (sd_l (by simp) (all_cons sd_i (all_cons (sd_t (by simp) (all_cons sd_i (all_cons sd_i all_nil))) (all_cons sd_i (all_cons sd_b all_nil)))))
  -- part five
  have i1 : n ≤ 3 → Ph Ir.prog (k + 23) "whole_table" [.v (.int ((n : Int) + 1))] = some (.v (.tuple (tbl (2 ^ (n + 1)) (op (2 ^ (n + 1))))), [.v (.int ((n : Int) + 1))]) := fun q => e_whole_table (k := k + 18) (n := n + 1) (by omega)
  have i2 : n ≤ 3 → Ph Ir.prog (k + 23) "whole_table" [iv n] = some (.v (.tuple (tbl (2 ^ n) (op (2 ^ n)))), [iv n]) := fun q => e_whole_table (k := k + 18) (n := n) (by omega)
  have i3 : n ≤ 3 → Ph Ir.prog (k + 23) "both_table" [.v (.int ((n : Int) + 1))] = some (.v (.tuple (tbl (2 ^ (n + 1)) (co (2 ^ (n + 1))))), [.v (.int ((n : Int) + 1))]) := fun q => e_both_table (k := k + 18) (n := n + 1) (by omega)
  have i4 : n ≤ 3 → Ph Ir.prog (k + 23) "both_table" [iv n] = some (.v (.tuple (tbl (2 ^ n) (co (2 ^ n)))), [iv n]) := fun q => e_both_table (k := k + 18) (n := n) (by omega)
  have i5 : Ph Ir.prog (k + 23) "periods" [.v (.int ((n : Int) + 1))] = some (.v (.tuple (nL ((upN (2 ^ (n + 1))).map (per (2 ^ (n + 1)))))), [.v (.int ((n : Int) + 1))]) := e_periodsN (k := k + 17) (n := n + 1) (by omega)
  have i6 : (nL ((upN (2 ^ (n + 1))).map (per (2 ^ (n + 1))))).length = 2 ^ (n + 1) := by rw [nL_len, List.length_map, upN_len]
  have s5 : Ph Ir.prog (k + 23) "_law_same" [.l [.list [], .int ((2 ^ (n + 1) : Nat) : Int)], .l [.list [], .int ((2 ^ (n + 1) : Nat) : Int)]] = _ :=
    same_ll (k := k + 16) rfl (sd_l (by simp) (all_cons (sd_l (by simp) all_nil) (all_cons sd_i all_nil)))
  have tw : ∀ x y : Nat, x < 2 ^ (n + 1) → y < 2 ^ (n + 1) →
      ∃ (w s cw cs : Nat) (Ra Rb Rc Rd : List D), atI (tbl (2 ^ (n + 1)) (op (2 ^ (n + 1)))) (x : Int) = some (.tuple Ra) ∧ atI Ra (y : Int) = some (.int (w : Nat)) ∧
        atI (tbl (2 ^ n) (op (2 ^ n))) ((x : Int) % ((2 ^ n : Nat) : Int)) = some (.tuple Rb) ∧ atI Rb ((y : Int) % ((2 ^ n : Nat) : Int)) = some (.int (s : Nat)) ∧
        atI (tbl (2 ^ (n + 1)) (co (2 ^ (n + 1)))) (x : Int) = some (.tuple Rc) ∧ atI Rc (y : Int) = some (.int (cw : Nat)) ∧
        atI (tbl (2 ^ n) (co (2 ^ n))) ((x : Int) % ((2 ^ n : Nat) : Int)) = some (.tuple Rd) ∧ atI Rd ((y : Int) % ((2 ^ n : Nat) : Int)) = some (.int (cs : Nat)) ∧
        ((w : Int) - (s : Int)) % ((2 ^ n : Nat) : Int) = 0 ∧ ((cw : Int) - (cs : Int)) % ((2 ^ n : Nat) : Int) = 0 := fun x y hx hy => by
    have mx : x % 2 ^ n < 2 ^ n := Nat.mod_lt _ (by omega)
    have my : y % 2 ^ n < 2 ^ n := Nat.mod_lt _ (by omega)
    refine ⟨op (2 ^ (n + 1)) (x + 1) (y + 1), op (2 ^ n) (x % 2 ^ n + 1) (y % 2 ^ n + 1), co (2 ^ (n + 1)) (x + 1) (y + 1), co (2 ^ n) (x % 2 ^ n + 1) (y % 2 ^ n + 1), _, _, _, _, tbl_atN hx, up_atN hy, ?_, up_atN (i := y % 2 ^ n) my, tbl_atN hx, up_atN hy, ?_, up_atN (i := y % 2 ^ n) my, ?_, ?_⟩
    · exact tbl_atN (i := x % 2 ^ n) mx
    · exact tbl_atN (i := x % 2 ^ n) mx
    · have z := op_low (Nat.le_succ n) (a := x + 1) (b := y + 1) (by omega) hx (by omega)
      have p1 : pr (2 ^ n) (x + 1) = x % 2 ^ n + 1 := rfl
      have p2 : pr (2 ^ n) (y + 1) = y % 2 ^ n + 1 := rfl
      rw [p1, p2] at z
      rw [← z]
      exact pr_mod (op_pos (by omega) hx (by omega))
    · have z := co_low (Nat.le_succ n) (a := x + 1) (b := y + 1) (by omega) hx (by omega) hy
      have p1 : pr (2 ^ n) (x + 1) = x % 2 ^ n + 1 := rfl
      have p2 : pr (2 ^ n) (y + 1) = y % 2 ^ n + 1 := rfl
      rw [p1, p2] at z
      rw [← z]
      exact pr_mod (co_pos (by omega))
  obtain ⟨Φ, hΦ⟩ := hide (Ph Ir.prog (k + 23))
  simp only [← hΦ] at *
  try clear hΦ
  obtain ⟨W1, hhW1⟩ := hide (tbl (2 ^ (n + 1)) (op (2 ^ (n + 1))))
  simp only [← hhW1] at *
  try clear hhW1
  obtain ⟨W2, hhW2⟩ := hide (tbl (2 ^ n) (op (2 ^ n)))
  simp only [← hhW2] at *
  try clear hhW2
  obtain ⟨W3, hhW3⟩ := hide (tbl (2 ^ (n + 1)) (co (2 ^ (n + 1))))
  simp only [← hhW3] at *
  try clear hhW3
  obtain ⟨W4, hhW4⟩ := hide (tbl (2 ^ n) (co (2 ^ n)))
  simp only [← hhW4] at *
  try clear hhW4
  obtain ⟨PL, hhPL⟩ := hide (nL ((upN (2 ^ (n + 1))).map (per (2 ^ (n + 1)))))
  simp only [← hhPL] at *
  try clear hhPL
  obtain ⟨WL, hhWL⟩ := hide (nL ((List.range (n + 1 + 1)).map fun l => bt.w (2 ^ l)))
  simp only [← hhWL] at *
  try clear hhWL
  obtain ⟨u1, hhu1⟩ := hide (bt.w (2 ^ n))
  simp only [← hhu1] at *
  try clear hhu1
  obtain ⟨u2, hhu2⟩ := hide (bt.w (2 ^ (n + 1)))
  simp only [← hhu2] at *
  try clear hhu2
  obtain ⟨BD, hhBD⟩ := hide (bt.d)
  simp only [← hhBD] at *
  try clear hhBD
  obtain ⟨PG, hhPG⟩ := hide (pr (2 ^ n) g)
  simp only [← hhPG] at *
  try clear hhPG
  obtain ⟨X1, hhX1⟩ := hide (fl (2 ^ (n + 1)) (List.replicate many a))
  simp only [← hhX1] at *
  try clear hhX1
  obtain ⟨X2, hhX2⟩ := hide (fl (2 ^ n) (List.replicate many (pr (2 ^ n) a)))
  simp only [← hhX2] at *
  try clear hhX2
  obtain ⟨FX, hhFX⟩ := hide (fixN (2 ^ (n + 1)) a)
  simp only [← hhFX] at *
  try clear hhFX
  obtain ⟨FY, hhFY⟩ := hide (nL (fixN (2 ^ n) (pr (2 ^ n) a)))
  simp only [← hhFY] at *
  try clear hhFY
  obtain ⟨TH, hhTH⟩ := hide (thr (2 ^ n) a)
  simp only [← hhTH] at *
  try clear hhTH
  obtain ⟨CN, hhCN⟩ := hide (((upN (2 ^ n)).countP fun a => decide ((cpy n a).length = sz)))
  simp only [← hhCN] at *
  try clear hhCN
  obtain ⟨P2, hhP2⟩ := hide (per (2 ^ (n + 1)) a)
  simp only [← hhP2] at *
  try clear hhP2
  obtain ⟨P1, hhP1⟩ := hide (per (2 ^ n) (pr (2 ^ n) a))
  simp only [← hhP1] at *
  try clear hhP1
  obtain ⟨RA, hhRA⟩ := hide (rowN (2 ^ (n + 1)) a)
  simp only [← hhRA] at *
  try clear hhRA
  obtain ⟨RB, hhRB⟩ := hide (nL (rowN (2 ^ n) (pr (2 ^ n) a)))
  simp only [← hhRB] at *
  try clear hhRB
  obtain ⟨PR, hhPR⟩ := hide (op (2 ^ (n + 1)) a b)
  simp only [← hhPR] at *
  try clear hhPR
  obtain ⟨LS, hhLS⟩ := hide (op (2 ^ n) (pr (2 ^ n) a) (pr (2 ^ n) b))
  simp only [← hhLS] at *
  try clear hhLS
  obtain ⟨la, hhla⟩ := hide (pr (2 ^ n) a)
  simp only [← hhla] at *
  try clear hhla
  obtain ⟨pf, hhpf⟩ := hide (pr (2 ^ n))
  simp only [← hhpf] at *
  try clear hhpf
  obtain ⟨N2, hhN2⟩ := hide ((2 ^ (n + 1) : Nat))
  simp only [← hhN2] at *
  try clear hhN2
  obtain ⟨N, hhN⟩ := hide ((2 ^ n : Nat))
  simp only [← hhN] at *
  try clear hhN
  have hS : evE Φ (.comp (.bin .LShift (.num 1) (.call "copy_level" (.cons (.var 2) (.cons (.var 23) .nil)))) (.nm 23) (.rng2 (.num 1) (.bin .Add (.var 1) (.num 1))) .tyes [23]) [some r, some (iv N), some (iv n), some (iv la), some (iv LS), some (iv a), some (iv PR), some (.l [.tuple (nL RA), .tuple RB]), some (iv t), none, none, none, none, none, none, none, none, none, none, none, none, none, none, none, none, none] =
      some (.l (nL ((upN N).map fun x => (cpy n x).length)), [some r, some (iv N), some (iv n), some (iv la), some (iv LS), some (iv a), some (iv PR), some (.l [.tuple (nL RA), .tuple RB]), some (iv t), none, none, none, none, none, none, none, none, none, none, none, none, none, none, none, none, none]) := by
    obtain ⟨TA, hTA⟩ := hide (nL RA)
    rw [← hTA, ← nL_map]
    apply comp_na (upN N) (fun x => .int (x : Nat)) (fun x => PyData.int ((cpy n x).length : Nat))
    · apply it_up (N := N)
      · intro _; nofun
      · simp
      · omega
    · rw [upN_len]; omega
    · intro x hx
      obtain ⟨x1, x2⟩ := mem_upN.mp hx
      obtain ⟨d, d1, d2, e18⟩ := e18 x x1 x2
      have dp := pow_cast d
      have d3 : (d : Int) ≤ 1000000 := by omega
      rw [d2]
      obtain ⟨y, hy⟩ := hide (2 ^ d : Nat)
      rw [← hy] at dp ⊢
      simp [evD, e18, d3, dp]
  obtain ⟨L, hhL⟩ := hide (nL ((upN N).map fun x => (cpy n x).length))
  simp only [← hhL] at *
  try clear hhL
  have hE : ∀ (o11 : Option R), evE Φ (.comp (.var 23) (.nm 23) (.it (.slc (.idx (.var 7) (.num 0)) .nob (.it (.bi .len (.cons (.idx (.var 7) (.num 1)) .nil))))) (.tcmp .LtE (.var 23) (.var 1)) [23]) [some r1, some (iv N), some (iv n), some (iv la), some (iv LS), some (iv a), some (iv PR), some (.l [.tuple (nL RA), .tuple RB]), some (iv t), some (.l L), some (iv sz), o11, none, none, none, none, none, none, none, none, none, none, none, none, none, none] =
      some (.l (nL ((RA.take P1).filter fun x => decide (x ≤ N))), [some r1, some (iv N), some (iv n), some (iv la), some (iv LS), some (iv a), some (iv PR), some (.l [.tuple (nL RA), .tuple RB]), some (iv t), some (.l L), some (iv sz), o11, none, none, none, none, none, none, none, none, none, none, none, none, none, none]) := fun o11 => by
    have i0 : ∀ x y : D, atI [x, y] 0 = some x := fun _ _ => rfl
    have i1 : ∀ x y : D, atI [x, y] 1 = some y := fun _ _ => rfl
    have cu := nL_cut RA P1
    apply comp_nm (RA.take P1) (fun x => .int (x : Nat)) (fun x => decide (x ≤ N)) (fun x => PyData.int (x : Nat))
    · have : (RA.take P1).map (fun x : Nat => PyData.int (x : Nat)) = nL (RA.take P1) := rfl
      rw [this]
      obtain ⟨T, hT⟩ := hide (nL (RA.take P1))
      rw [← hT] at cu ⊢
      obtain ⟨TA, hTA⟩ := hide (nL RA)
      rw [← hTA] at cu ⊢
      simp [i0, i1, l2, cu, seqD]
    · omega
    · intro x _
      obtain ⟨TA, hTA⟩ := hide (nL RA)
      rw [← hTA]
      simp
    · intro x _ _
      simp [evD]
  have hEl : (nL ((RA.take P1).filter fun x => decide (x ≤ N))).length = ((RA.take P1).filter fun x => decide (x ≤ N)).length := nL_len _
  obtain ⟨EL, hhEL⟩ := hide (nL ((RA.take P1).filter fun x => decide (x ≤ N)))
  simp only [← hhEL] at *
  try clear hhEL
  obtain ⟨el, hhel⟩ := hide (((RA.take P1).filter fun x => decide (x ≤ N)).length)
  simp only [← hhel] at *
  try clear hhel
  obtain ⟨TA, hhTA⟩ := hide (nL RA)
  simp only [← hhTA] at *
  try clear hhTA
  have hF : ∀ (o11 o17 : Option R), evE Φ (.comp (.var 23) (.nm 23) (.it (.call "fixed_by" (.cons (.bin .Add (.var 2) (.num 1)) (.cons (.var 5) .nil)))) (.tcmp .NotIn (.call "lowered" (.cons (.var 2) (.cons (.var 23) .nil))) (.call "fixed_by" (.cons (.var 2) (.cons (.var 3) .nil)))) [23]) [some r2, some (iv N), some (iv n), some (iv la), some (iv LS), some (iv a), some (iv PR), some (.l [.tuple TA, .tuple RB]), some (iv t), some (.l L), some (iv sz), o11, some (iv many), none, none, none, none, o17, none, none, none, none, none, none, none, none] =
      some (.l [], [some r2, some (iv N), some (iv n), some (iv la), some (iv LS), some (iv a), some (iv PR), some (.l [.tuple TA, .tuple RB]), some (iv t), some (.l L), some (iv sz), o11, some (iv many), none, none, none, none, o17, none, none, none, none, none, none, none, none]) := fun o11 o17 => by
    have z : ((FX.filter fun _ => false).map fun x : Nat => PyData.int (x : Nat)) = [] := by simp
    rw [← z]
    apply comp_nm FX (fun x => .int (x : Nat)) (fun _ => false) (fun x => PyData.int (x : Nat))
    · have : FX.map (fun x : Nat => PyData.int (x : Nat)) = nL FX := rfl
      rw [this]
      obtain ⟨T, hT⟩ := hide (nL FX)
      rw [← hT] at g4 ⊢
      simp [g4, seqD]
    · omega
    · intro x hx
      obtain ⟨z1, z2⟩ := fxr x hx
      obtain ⟨y, hy⟩ := hide (pf x)
      rw [← hy] at z1 z2
      simp [z1, g5, z2]
    · intro x _ _
      simp [evD]
  apply Ir.rx__law_more_right
  apply ans_next
  · (simp [hS, -ev_comp] <;> first | rfl | exact ⟨rfl, rfl⟩)
  apply ans_next
  · (simp [o0, d1, -ev_comp] <;> first | rfl | exact ⟨rfl, rfl⟩)
  apply ans_next
  · (simp [e1, e2, e3, e4, e5, l6, ok1000, seqD, -ev_comp] <;> first | rfl | exact ⟨rfl, rfl⟩)
  apply ans_next
  · (simp [cnt, s1, isLst, -ev_comp] <;> first | rfl | exact ⟨rfl, rfl⟩)
  apply ans_mid (P' := fun ρ => ∃ o11 o17, ρ = [some r1, some (iv N), some (iv n), some (iv la), some (iv LS), some (iv a), some (iv PR), some (.l [.tuple TA, .tuple RB]), some (iv t), some (.l L), some (iv sz), o11, none, none, none, none, none, o17, none, none, none, none, none, none, none, none])
  · by_cases q : la = a
    · subst q
      have f1 := f1 rfl
      have f2 := f2 rfl
      have f3 := f3 rfl
      have f4 := f4 rfl
      have f5 := f5 rfl
      have f6 := f6 rfl
      have i0 : ∀ x y : D, atI [x, y] 0 = some x := fun _ _ => rfl
      have i1 : ∀ x y : D, atI [x, y] 1 = some y := fun _ _ => rfl
      apply mid2 (fun o11 o17 => [some r1, some (iv N), some (iv n), some (iv la), some (iv LS), some (iv la), some (iv PR), some (.l [.tuple TA, .tuple RB]), some (iv t), some (.l L), some (iv sz), o11, none, none, none, none, none, o17, none, none, none, none, none, none, none, none])
      have c1 : decide ((TH : Int) = (P1 : Int)) = decide (t = 2) := decide_eq_decide.mpr ⟨fun h => f5.mp (by omega), fun h => by have := f5.mpr h; omega⟩
      have c2 : decide ((t : Int) = 2) = decide (t = 2) := decide_eq_decide.mpr ⟨fun h => by omega, fun h => by omega⟩
      apply if_t
      · (simp [-ev_comp] <;> first | rfl | exact ⟨rfl, rfl⟩)
      apply seq_n
      · (simp [hE, hEl, f6, -ev_comp] <;> first | rfl | exact ⟨rfl, rfl⟩)
      apply seq_n
      · (simp [f1, f2, f3, f4, i1, l2, c1, ok1000, -ev_comp] <;> first | rfl | exact ⟨rfl, rfl⟩)
      apply seq_n
      · (simp [i0, l1, s2, c2, ok1000, -ev_comp] <;> first | rfl | exact ⟨rfl, rfl⟩)
      rfl
    · apply mid2 (fun o11 o17 => [some r1, some (iv N), some (iv n), some (iv la), some (iv LS), some (iv a), some (iv PR), some (.l [.tuple TA, .tuple RB]), some (iv t), some (.l L), some (iv sz), o11, none, none, none, none, none, o17, none, none, none, none, none, none, none, none])
      have c1 : ¬ ((la : Int) = (a : Int)) := by omega
      (simp [c1, -ev_comp] <;> first | rfl | exact ⟨rfl, rfl⟩)
  rintro _ ⟨o11, o17, rfl⟩
  apply ans_next
  · (simp [o1, d2, -ev_comp] <;> first | rfl | exact ⟨rfl, rfl⟩)
  apply ans_next
  · (simp [g1, g2, hF, -ev_comp] <;> first | rfl | exact ⟨rfl, rfl⟩)
  apply ans_next
  · (simp [g3, s3, -ev_comp] <;> first | rfl | exact ⟨rfl, rfl⟩)
  apply ans_next
  · (simp [o2, o3, d3, hm0, d4, -ev_comp] <;> first | rfl | exact ⟨rfl, rfl⟩)
  apply ans_next
  · (simp [h1, -ev_comp] <;> first | rfl | exact ⟨rfl, rfl⟩)
  apply ans_next
  · (simp [h2, h3, h4, ct, h5, h6, -ev_comp] <;> first | rfl | exact ⟨rfl, rfl⟩)
  have hO : ∀ (o11 o17 : Option R), evE Φ (.or_ (.cmp .Eq (.bin .Mod (.call "period" (.cons (.bin .Add (.var 2) (.num 1)) (.cons (.var 5) .nil))) (.var 14)) (.num 0)) (.cmp .Lt (.var 14) (.call "period" (.cons (.bin .Add (.var 2) (.num 1)) (.cons (.var 5) .nil))))) [some r4, some (iv N), some (iv n), some (iv la), some (iv LS), some (iv a), some (iv PR), some (.l [.tuple TA, .tuple RB]), some (iv t), some (.l L), some (iv sz), o11, some (iv many), some (.v BD), some (iv g), none, none, o17, none, none, none, none, none, none, none, none] =
      some (.v (.bool true), [some r4, some (iv N), some (iv n), some (iv la), some (iv LS), some (iv a), some (iv PR), some (.l [.tuple TA, .tuple RB]), some (iv t), some (.l L), some (iv sz), o11, some (iv many), some (.v BD), some (iv g), none, none, o17, none, none, none, none, none, none, none, none]) := fun o11 o17 => by
    have gp : 0 < g := by omega
    have gb : (g : Int) < 1073741824 := by omega
    by_cases q : g < P2
    · have q' : (g : Int) < P2 := by omega
      by_cases q3 : (P2 : Int) % (g : Int) = 0
      · simp [h7, gp, gb, q3]
      · simp [h7, gp, gb, q3, q']
    · have e : g = P2 := by omega
      have q3 : (P2 : Int) % (g : Int) = 0 := by rw [e]; exact Int.emod_self
      simp [h7, gp, gb, q3]
  apply ans_next
  · (simp [hO, -ev_comp, -ev_or] <;> first | rfl | exact ⟨rfl, rfl⟩)
  apply ans_next
  · (simp [h8, h2, s4, -ev_comp] <;> first | rfl | exact ⟨rfl, rfl⟩)
  by_cases q : n ≤ 3
  · have i1 := i1 q
    have i2 := i2 q
    have i3 := i3 q
    have i4 := i4 q
    have q' : ¬ ((3 : Int) < n) := by omega
    apply ans_next
    · (simp [q', -ev_comp] <;> first | rfl | exact ⟨rfl, rfl⟩)
    apply ans_next
    · (simp [i1, i2, -ev_comp] <;> first | rfl | exact ⟨rfl, rfl⟩)
    apply ans_next
    · (simp [i3, i4, -ev_comp] <;> first | rfl | exact ⟨rfl, rfl⟩)
    apply ans_next
    · (simp [-ev_comp] <;> first | rfl | exact ⟨rfl, rfl⟩)
    apply ans_mid (P' := fun ρ => ∃ o16 o22 o24 o25, ρ = [some r4, some (iv N), some (iv n), some (iv la), some (iv LS), some (iv a), some (iv PR), some (.l [.tuple TA, .tuple RB]), some (iv t), some (.l L), some (iv sz), some (.v (.list [.int (u1 : Nat), .tuple [.int (u1 : Nat), .int (u2 : Nat)], .int (LS : Nat), .bool true])), some (iv many), some (.v BD), some (iv g), some (.l []), o16, o17, some (.v (.tuple W1)), some (.v (.tuple W2)), some (.v (.tuple W3)), some (.v (.tuple W4)), o22, none, o24, o25])
    · apply for_inv _ (List.range N2)
      · apply it_to (N := N2)
        · intro _; nofun
        · have : ((2 : Int) * (N : Int)) = (N2 : Int) := by omega
          (simp [this] <;> rfl)
        · omega
      · exact ⟨_, _, _, _, rfl⟩
      · rintro x hx _ ⟨o16, o22, o24, o25, rfl⟩
        have hx := List.mem_range.mp hx
        show ∃ ρ', ex Φ _ [some r4, some (iv N), some (iv n), some (iv la), some (iv LS), some (iv a), some (iv PR), some (.l [.tuple TA, .tuple RB]), some (iv t), some (.l L), some (iv sz), some (.v (.list [.int (u1 : Nat), .tuple [.int (u1 : Nat), .int (u2 : Nat)], .int (LS : Nat), .bool true])), some (iv many), some (.v BD), some (iv g), some (.l []), some (iv x), o17, some (.v (.tuple W1)), some (.v (.tuple W2)), some (.v (.tuple W3)), some (.v (.tuple W4)), o22, none, o24, o25] = _ ∧ _
        obtain ⟨ρ2, h, o22', o24', o25', hρ⟩ := for_inv (Φ := Φ) (v := 22) (it := .rng1 (.bin .Mult (.num 2) (.var 1))) (b := (.seq (.par 24 25 (.bin .Mod (.var 16) (.var 1)) (.bin .Mod (.var 22) (.var 1))) (.seq (.if_ (.tor (.tcmp .NotEq (.bin .Mod (.bin .Sub (.idx (.idx (.var 18) (.var 16)) (.var 22)) (.idx (.idx (.var 19) (.var 24)) (.var 25))) (.var 1)) (.num 0)) (.tcmp .NotEq (.bin .Mod (.bin .Sub (.idx (.idx (.var 20) (.var 16)) (.var 22)) (.idx (.idx (.var 21) (.var 24)) (.var 25))) (.var 1)) (.num 0))) (.seq (.app 15 (.tup (.cons (.var 16) (.cons (.var 22) .nil)))) .skip) .skip) .skip)))
          (fun ρ => ∃ o22 o24 o25, ρ = [some r4, some (iv N), some (iv n), some (iv la), some (iv LS), some (iv a), some (iv PR), some (.l [.tuple TA, .tuple RB]), some (iv t), some (.l L), some (iv sz), some (.v (.list [.int (u1 : Nat), .tuple [.int (u1 : Nat), .int (u2 : Nat)], .int (LS : Nat), .bool true])), some (iv many), some (.v BD), some (iv g), some (.l []), some (iv x), o17, some (.v (.tuple W1)), some (.v (.tuple W2)), some (.v (.tuple W3)), some (.v (.tuple W4)), o22, none, o24, o25]) (List.range N2)
          (ρ := [some r4, some (iv N), some (iv n), some (iv la), some (iv LS), some (iv a), some (iv PR), some (.l [.tuple TA, .tuple RB]), some (iv t), some (.l L), some (iv sz), some (.v (.list [.int (u1 : Nat), .tuple [.int (u1 : Nat), .int (u2 : Nat)], .int (LS : Nat), .bool true])), some (iv many), some (.v BD), some (iv g), some (.l []), some (iv x), o17, some (.v (.tuple W1)), some (.v (.tuple W2)), some (.v (.tuple W3)), some (.v (.tuple W4)), o22, none, o24, o25]) (by
            apply it_to (N := N2)
            · intro _; nofun
            · have : ((2 : Int) * (N : Int)) = (N2 : Int) := by omega
              simp [this]
            · omega) ⟨o22, o24, o25, rfl⟩ (by
          rintro y hy _ ⟨o22, o24, o25, rfl⟩
          have hy := List.mem_range.mp hy
          obtain ⟨w, s, cw, cs, Ra, Rb, Rc, Rd, y1, y2, y3, y4, y5, y6, y7, y8, y9, y10⟩ := tw x y hx hy
          have Np : 0 < N := by omega
          have Nb : (N : Int) < 1073741824 := by omega
          refine ⟨_, ?_, some (iv y), some (.v (.int ((x : Int) % (N : Int)))), some (.v (.int ((y : Int) % (N : Int)))), rfl⟩
          apply seq_n (ρ1 := [some r4, some (iv N), some (iv n), some (iv la), some (iv LS), some (iv a), some (iv PR), some (.l [.tuple TA, .tuple RB]), some (iv t), some (.l L), some (iv sz), some (.v (.list [.int (u1 : Nat), .tuple [.int (u1 : Nat), .int (u2 : Nat)], .int (LS : Nat), .bool true])), some (iv many), some (.v BD), some (iv g), some (.l []), some (iv x), o17, some (.v (.tuple W1)), some (.v (.tuple W2)), some (.v (.tuple W3)), some (.v (.tuple W4)), some (iv y), none, some (.v (.int ((x : Int) % (N : Int)))), some (.v (.int ((y : Int) % (N : Int))))])
          · simp [Np, Nb]
          obtain ⟨xm, hxm⟩ := hide ((x : Int) % (N : Int))
          obtain ⟨ym, hym⟩ := hide ((y : Int) % (N : Int))
          rw [← hxm] at y3 y7
          rw [← hym] at y4 y8
          simp only [← hxm, ← hym]
          apply seq_n (ρ1 := [some r4, some (iv N), some (iv n), some (iv la), some (iv LS), some (iv a), some (iv PR), some (.l [.tuple TA, .tuple RB]), some (iv t), some (.l L), some (iv sz), some (.v (.list [.int (u1 : Nat), .tuple [.int (u1 : Nat), .int (u2 : Nat)], .int (LS : Nat), .bool true])), some (iv many), some (.v BD), some (iv g), some (.l []), some (iv x), o17, some (.v (.tuple W1)), some (.v (.tuple W2)), some (.v (.tuple W3)), some (.v (.tuple W4)), some (iv y), none, some (.v (.int xm)), some (.v (.int ym))])
          · simp [y1, y2, y3, y4, y5, y6, y7, y8, y9, y10, Np, Nb]
          rfl)
        exact ⟨ρ2, by rw [seq_next h]; rfl, some (iv x), o22', o24', o25', hρ⟩
    rintro _ ⟨o16, o22, o24, o25, rfl⟩
    have c2 : ((2 : Int) * (N : Int)) = (N2 : Int) := by omega
    apply ans_ret
    · (simp [i5, i6, s5, c2, ok1000, -ev_comp] <;> first | rfl | exact ⟨rfl, rfl⟩)
    · exact ⟨_, rfl, rfl, rfl⟩
  · have q' : (3 : Int) < n := by omega
    apply ans_if (b := true)
    · (simp [q', -ev_comp] <;> first | rfl | exact ⟨rfl, rfl⟩)
    apply ans_seq
    apply ans_ret
    · (simp [-ev_comp] <;> first | rfl | exact ⟨rfl, rfl⟩)
    · exact ⟨_, rfl, rfl, rfl⟩
end
end Ev
namespace Ev
open PySem Pv L2 Lv
theorem in2 (w p q : Nat) : inD (.int (w : Nat)) (.tuple [.int (p : Nat), .int ((q : Nat) : Int)]) = some (decide (p = w) || decide (q = w)) := by
  have := in_nLT [p, q] w
  have e : nL [p, q] = [.int (p : Nat), .int (q : Nat)] := rfl
  rw [e] at this
  rw [this]
  congr 1
  rw [Bool.eq_iff_iff, decide_eq_true_iff, Bool.or_eq_true, decide_eq_true_iff, decide_eq_true_iff]
  simp [eq_comm]
theorem nL2 (x y : Nat) : nL [x, y] = [.int (x : Nat), .int (y : Nat)] := rfl
theorem rep_len2 (t : Nat) (X : List D) : (List.replicate t X).flatten.length = t * X.length := by
  induction t with
  | zero => simp
  | succ t ih => rw [List.replicate_succ, List.flatten_cons, List.length_append, ih, Nat.succ_mul]; omega
theorem rep_nL (t : Nat) (l : List Nat) : (List.replicate t (nL l)).flatten = nL (List.replicate t l).flatten := by
  induction t with
  | zero => rfl
  | succ t ih => rw [List.replicate_succ, List.flatten_cons, ih, nL_app, List.replicate_succ, List.flatten_cons]
theorem len9 : ∀ {l : List R}, l.length = 9 → ∃ a b c d e f g h i, l = [a, b, c, d, e, f, g, h, i]
  | [a, b, c, d, e, f, g, h, i], _ => ⟨a, b, c, d, e, f, g, h, i, rfl⟩
section
variable {k : Nat} {r : R}
theorem e_right94 (HM : ∀ (n a b t c : Nat) (r : R), n ≤ 6 → Tn c r → c ≤ 10 → 1 ≤ a → a ≤ 2 ^ (n + 1) → 1 ≤ b → b ≤ 2 ^ (n + 1) → (t = 1 ∨ t = 2) → per (2 ^ (n + 1)) a = t * per (2 ^ n) (pr (2 ^ n) a) →
      ∃ rr outs, Ph Ir.prog (k + 24) "_law_more_right" [r, iv (2 ^ n), iv n, iv (pr (2 ^ n) a), iv (op (2 ^ n) (pr (2 ^ n) a) (pr (2 ^ n) b)), iv a, iv (op (2 ^ (n + 1)) a b), .l [.tuple (nL (rowN (2 ^ (n + 1)) a)), .tuple (nL (rowN (2 ^ n) (pr (2 ^ n) a)))], iv t] = some (rr, outs) ∧ rr = .v (.bool true) ∧ outs.length = 9)
    (t0 : Tn 0 r) : ∃ rr outs, Ph Ir.prog (k + 25) "_law_right" [r] = some (rr, outs) ∧ rr = .v (.bool true) ∧ outs.length = 1 := by
  rw [c__law_right]
  have o0 := t0.own
  obtain ⟨n, r1, t1, ln, d0⟩ := t0.take (by omega) 7 (by omega) (by omega) (k + 23)
  have d0 : Ph Ir.prog (k + 24) "_law_take" [r, .v (.int 7)] = some (iv n, [r1, .v (.int 7)]) := d0
  have o1 := t1.own
  have hn : n ≤ 6 := by omega
  have F := fine_pow n
  have G := fine_pow (n + 1)
  have hP := Nat.two_pow_pos n
  have hN : 1 ≤ 2 ^ n := by omega
  have hN2 : 2 ^ n ≤ 64 := Nat.pow_le_pow_right (n := 2) (by omega) hn
  have hp := pow_cast n
  have b2 : (n : Int) ≤ 1000000 := by omega
  have h2N := two_pow n
  have F2 : Fine (2 * 2 ^ n) := by rw [← h2N]; exact G
  obtain ⟨v2, r2, t2, lv2, d1⟩ := t1.take (by omega) (2 * 2 ^ n) (by omega) (by omega) (k + 23)
  have d1 : Ph Ir.prog (k + 24) "_law_take" [r1, .v (.int (2 * ((2 ^ n : Nat) : Int)))] = some (iv v2, [r2, .v (.int (2 * ((2 ^ n : Nat) : Int)))]) := by
    rw [show (2 * ((2 ^ n : Nat) : Int)) = ((2 * 2 ^ n : Nat) : Int) by omega]
    exact d1
  obtain ⟨a, ha0, ha, ha2⟩ : ∃ g : Nat, (1 : Int) + v2 = g ∧ 1 ≤ g ∧ g ≤ 2 ^ (n + 1) := ⟨v2 + 1, by omega, by omega, by omega⟩
  have o2 := t2.own
  obtain ⟨v3, r3, t3, lv3, d2⟩ := t2.take (by omega) (2 * 2 ^ n) (by omega) (by omega) (k + 23)
  have d2 : Ph Ir.prog (k + 24) "_law_take" [r2, .v (.int (2 * ((2 ^ n : Nat) : Int)))] = some (iv v3, [r3, .v (.int (2 * ((2 ^ n : Nat) : Int)))]) := by
    rw [show (2 * ((2 ^ n : Nat) : Int)) = ((2 * 2 ^ n : Nat) : Int) by omega]
    exact d2
  obtain ⟨b, hb0, hb, hb2⟩ : ∃ g : Nat, (1 : Int) + v3 = g ∧ 1 ≤ g ∧ g ≤ 2 ^ (n + 1) := ⟨v3 + 1, by omega, by omega, by omega⟩
  have o3 := t3.own
  have la1 := pr_pos (N := 2 ^ n) (x := a)
  have la2 := pr_le hN (x := a)
  have lb1 := pr_pos (N := 2 ^ n) (x := b)
  have lb2 := pr_le hN (x := b)
  have q1 := op_pos ha ha2 hb
  have q2 : op (2 ^ (n + 1)) a b ≤ 2 ^ (n + 1) := op_le ha2 hb hb2
  have q3 := co_pos (N := 2 ^ (n + 1)) (by omega) (a := a) (b := b)
  have q4 := co_le (N := 2 ^ (n + 1)) (by omega) (a := a) (b := b)
  -- part one
  have lw : ∀ x : Nat, 1 ≤ x → x ≤ 2 ^ (n + 1) → Ph Ir.prog (k + 24) "lowered" [iv n, iv x] = some (iv (pr (2 ^ n) x), [iv n, iv x]) := fun x h1 h2 => e_lowered (k := k + 19) (m := n) (a := x) (by omega) h1 (by omega)
  have e1 := lw a ha ha2
  have e2 := lw b hb hb2
  have e3 : Ph Ir.prog (k + 24) "times" [.v (.int ((n : Int) + 1)), iv a, iv b] = some (iv (op (2 ^ (n + 1)) a b), [.v (.int ((n : Int) + 1)), iv a, iv b]) := e_times (k := k + 19) (n := n + 1) (by omega) ha ha2 hb hb2
  have e4 : Ph Ir.prog (k + 24) "both" [.v (.int ((n : Int) + 1)), iv a, iv b] = some (iv (co (2 ^ (n + 1)) a b), [.v (.int ((n : Int) + 1)), iv a, iv b]) := e_both (k := k + 19) (n := n + 1) (by omega) ha ha2 hb hb2
  have e5 : Ph Ir.prog (k + 24) "table_row" [.v (.int ((n : Int) + 1)), iv a] = some (.v (.tuple (rowD (2 ^ (n + 1)) a)), [.v (.int ((n : Int) + 1)), iv a]) := e_table_row (k := k + 19) (n := n + 1) (by omega) ha ha2
  rw [rowD_eq] at e5
  have e6 : Ph Ir.prog (k + 24) _ _ = _ := e_table_row (k := k + 19) (n := n) (a := pr (2 ^ n) a) (by omega) la1 la2
  rw [rowD_eq] at e6
  have e7 := lw _ q1 q2
  rw [op_low (Nat.le_succ n) ha ha2 hb] at e7
  have e8 := lw _ q3 q4
  rw [co_low (Nat.le_succ n) ha ha2 hb hb2] at e8
  have e9 : Ph Ir.prog (k + 24) "lowered_product" [iv n, iv a, iv b] = some (.v (.tuple [.int (op (2 ^ n) (pr (2 ^ n) a) (pr (2 ^ n) b) : Nat), .int (op (2 ^ n) (pr (2 ^ n) a) (pr (2 ^ n) b) : Nat)]), [iv n, iv a, iv b]) := by
    have z := e_lowered_product (k := k + 19) (n := n) (a := a) (b := b) (by omega) ha ha2 hb hb2
    rw [nL2, op_low (Nat.le_succ n) ha ha2 hb] at z
    exact z
  have e10 : Ph Ir.prog (k + 24) _ _ = _ := e_times (k := k + 19) (n := n) (a := pr (2 ^ n) a) (b := pr (2 ^ n) b) (by omega) la1 la2 lb1 lb2
  have e11 : Ph Ir.prog (k + 24) _ _ = _ := e_both (k := k + 19) (n := n) (a := pr (2 ^ n) a) (b := pr (2 ^ n) b) (by omega) la1 la2 lb1 lb2
  obtain ⟨t, ht, tp, tr⟩ := low_row hN F F2 ha (by omega : a ≤ 2 * 2 ^ n)
  rw [← h2N] at tp tr
  have rl : (rowN (2 ^ (n + 1)) a).length ≤ 128 := by
    rw [rowN_len]
    have := per_le G ha ha2
    omega
  have rr : ∀ x ∈ rowN (2 ^ (n + 1)) a, 1 ≤ x ∧ x ≤ 2 ^ (n + 1) := fun x hx => by
    obtain ⟨j, hj, e⟩ := mem_rowN.mp hx
    have := per_le G ha ha2
    rw [← e]
    exact ⟨op_pos ha ha2 (by omega), op_le ha2 (by omega) (by omega)⟩
  have pp := per_pos F la1 la2
  have pq : 1 ≤ t ∧ t ≤ 2 := by rcases ht with rfl | rfl <;> omega
  have dv : ((per (2 ^ (n + 1)) a : Nat) : Int) / ((per (2 ^ n) (pr (2 ^ n) a) : Nat) : Int) = (t : Int) := by
    rw [tp, ← Int.natCast_ediv, Nat.mul_div_cancel _ (by omega)]
  have l1 : (nL (rowN (2 ^ (n + 1)) a)).length = per (2 ^ (n + 1)) a := by rw [nL_len, rowN_len]
  have l2 : (nL (rowN (2 ^ n) (pr (2 ^ n) a))).length = per (2 ^ n) (pr (2 ^ n) a) := by rw [nL_len, rowN_len]
  have pb : per (2 ^ n) (pr (2 ^ n) a) ≤ 64 := by have := per_le F la1 la2; omega
  have in12 : inD (.int (t : Nat)) (.tuple [.int 1, .int 2]) = some true := by
    have := in2 t 1 2
    have e : (decide (1 = t) || decide (2 = t)) = true := by rcases ht with rfl | rfl <;> rfl
    rw [e] at this
    exact this
  have prI := pr_int (N := 2 ^ n) ha
  have s1 : Ph Ir.prog (k + 24) "_law_same" [.l [.int (pr (2 ^ n) a : Nat), .int (op (2 ^ n) (pr (2 ^ n) a) (pr (2 ^ n) b) : Nat), .tuple [.int (op (2 ^ n) (pr (2 ^ n) a) (pr (2 ^ n) b) : Nat), .int (op (2 ^ n) (pr (2 ^ n) a) (pr (2 ^ n) b) : Nat)], .int (co (2 ^ n) (pr (2 ^ n) a) (pr (2 ^ n) b) : Nat), .list (nL ((rowN (2 ^ (n + 1)) a).map (pr (2 ^ n))))],
      .l [.int (pr (2 ^ n) a : Nat), .int (op (2 ^ n) (pr (2 ^ n) a) (pr (2 ^ n) b) : Nat), .tuple [.int (op (2 ^ n) (pr (2 ^ n) a) (pr (2 ^ n) b) : Nat), .int (op (2 ^ n) (pr (2 ^ n) a) (pr (2 ^ n) b) : Nat)], .int (co (2 ^ n) (pr (2 ^ n) a) (pr (2 ^ n) b) : Nat), .list (nL ((rowN (2 ^ (n + 1)) a).map (pr (2 ^ n))))]] = _ :=
    same_ll (k := k + 17) rfl (sd_l (by simp) (all_cons sd_i (all_cons sd_i (all_cons (sd_t (by simp) (all_cons sd_i (all_cons sd_i all_nil))) (all_cons sd_i (all_cons (sd_nL _ _ (by rw [List.length_map]; omega)) all_nil))))))
  have rp : (List.replicate t (nL (rowN (2 ^ n) (pr (2 ^ n) a)))).flatten = nL ((rowN (2 ^ (n + 1)) a).map (pr (2 ^ n))) := by rw [rep_nL, ← tr]
  -- part two
  have cb : ∀ d : Nat, d ≤ 7 → 2 ^ d ≤ 128 := fun d hd => Nat.pow_le_pow_right (n := 2) (by omega) hd
  have f1 : Ph Ir.prog (k + 24) "made_by" [.v (.int ((n : Int) + 1)), .v (.tuple [.int (a : Nat)])] = some (.v (.tuple (nL (cpy (n + 1) a))), [.v (.int ((n : Int) + 1)), .v (.tuple [.int (a : Nat)])]) := e_made_by (k := k + 19) (n := n + 1) (by omega) ha ha2
  have f2 : Ph Ir.prog (k + 24) "made_by" [iv n, .v (.tuple [.int (pr (2 ^ n) a : Nat)])] = some (.v (.tuple (nL (cpy n (pr (2 ^ n) a)))), [iv n, .v (.tuple [.int (pr (2 ^ n) a : Nat)])]) := e_made_by (k := k + 19) (n := n) (by omega) la1 la2
  obtain ⟨u, hu, lu, f4⟩ := e_copy_level (k := k + 18) (n := n + 1) (b := a) (by omega) ha ha2
  have f4 : Ph Ir.prog (k + 24) "copy_level" [.v (.int ((n : Int) + 1)), iv a] = some (iv u, [.v (.int ((n : Int) + 1)), iv a]) := f4
  obtain ⟨v, hv, lv, f5⟩ := e_copy_level (k := k + 18) (n := n) (b := pr (2 ^ n) a) (by omega) la1 la2
  have f5 : Ph Ir.prog (k + 24) "copy_level" [iv n, iv (pr (2 ^ n) a)] = some (iv v, [iv n, iv (pr (2 ^ n) a)]) := f5
  have U1 := cb u (by omega)
  have V1 := cb v (by omega)
  have pu := pow_cast u
  have pv' := pow_cast v
  have f3 : Ph Ir.prog (k + 24) "_law_set" [.l (nL ((cpy (n + 1) a).map (pr (2 ^ n))))] = _ := e__law_setN (k := k + 23) (l := (cpy (n + 1) a).map (pr (2 ^ n))) (m := cpy n (pr (2 ^ n) a)) (cpy_asc la1 la2) (cpy_low_mem ha ha2) (by rw [List.length_map]; omega) (.inr rfl)
  have f6 : Ph Ir.prog (k + 24) "is_copy_row" [.v (.int ((n : Int) + 1)), iv a, .v (.tuple (nL (cpy (n + 1) a)))] = some (.v (.bool true), [.v (.int ((n : Int) + 1)), iv a, .v (.tuple (nL (cpy (n + 1) a)))]) := e_is_copy_row (k := k + 18) (n := n + 1) (by omega) ha ha2
  have f7 : Ph Ir.prog (k + 24) "copy_row" [.v (.int ((n : Int) + 1)), iv a] = some (.v (.tuple (nL (cpy (n + 1) a))), [.v (.int ((n : Int) + 1)), iv a]) := e_copy_row (k := k + 19) (n := n + 1) (by omega) ha ha2
  have f8 : Ph Ir.prog (k + 24) "copy_row" [iv n, iv (pr (2 ^ n) a)] = some (.v (.tuple (nL (cpy n (pr (2 ^ n) a)))), [iv n, iv (pr (2 ^ n) a)]) := e_copy_row (k := k + 19) (n := n) (by omega) la1 la2
  have in01 : inD (.int ((u : Int) - (v : Int))) (.tuple [.int 0, .int 1]) = some true := by
    rcases cpy_levels ha ha2 lu lv with e | e
    · have := in2 0 0 1
      rw [show (u : Int) - (v : Int) = (0 : Nat) by omega]
      exact this
    · have := in2 1 0 1
      rw [show (u : Int) - (v : Int) = (1 : Nat) by omega]
      exact this
  have s2 : Ph Ir.prog (k + 24) "_law_same" [.l [.tuple (nL (cpy n (pr (2 ^ n) a))), .int ((2 ^ u : Nat) : Int), .bool true, .bool true, .list (nL (cpy n (pr (2 ^ n) a)))],
      .l [.tuple (nL (cpy n (pr (2 ^ n) a))), .int ((2 ^ u : Nat) : Int), .bool true, .bool true, .list (nL (cpy n (pr (2 ^ n) a)))]] = _ :=
    same_ll (k := k + 17) rfl (sd_l (by simp) (all_cons (sd_nT _ _ (by omega)) (all_cons sd_i (all_cons sd_b (all_cons sd_b (all_cons (sd_nL _ _ (by omega)) all_nil))))))
  have cr : ∀ x ∈ cpy (n + 1) a, 1 ≤ x ∧ x ≤ 2 ^ (n + 1) := fun x hx => by
    have z1 := pv_pos (Nat.two_pow_pos (n + 1)) (x := a)
    have z2 := pv_le (Nat.two_pow_pos (n + 1)) (x := a)
    obtain ⟨j, hj, e⟩ := mem_rowN.mp hx
    have := per_le G z1 z2
    rw [← e]
    exact ⟨op_pos z1 z2 (by omega), op_le z2 (by omega) (by omega)⟩
  have ct : cutA (nL ((cpy (n + 1) a).map (pr (2 ^ n)))) none (some ((2 ^ v : Nat) : Int)) = nL (cpy n (pr (2 ^ n) a)) := by
    rw [nL_cut, ← lv, cpy_low_take ha ha2]
  have la' : (nL (cpy (n + 1) a)).length = 2 ^ u := by rw [nL_len, lu]
  have lb' : (nL (cpy n (pr (2 ^ n) a))).length = 2 ^ v := by rw [nL_len, lv]
  have eqt : eqD (.tuple (nL (cpy (n + 1) a))) (.tuple (nL (cpy (n + 1) a))) = some true := by rw [eq_nTT]; simp
  -- part three
  obtain ⟨c, hc⟩ : ∃ c, c = pv (2 ^ n) (pr (2 ^ n) a) := ⟨_, rfl⟩
  have c1 : 1 ≤ c := by rw [hc]; exact pv_pos hP
  have c2 : c ≤ 2 ^ n := by rw [hc]; exact pv_le hP
  have cp : per (2 ^ n) c = 2 ^ v := by rw [← lv, hc]; unfold cpy; rw [rowN_len]
  have cc : cpy n (pr (2 ^ n) a) = (List.range (2 ^ v)).map fun i => op (2 ^ n) c (i + 1) := by unfold cpy; rw [← hc]; unfold rowN; rw [cp]
  have vN : 2 ^ v ≤ 2 ^ n := by have := per_le F c1 c2; omega
  have vp := Nat.two_pow_pos v
  obtain ⟨v4, r4, t4, lv4, d3⟩ := t3.take (by omega) (2 ^ v) (by omega) (by omega) (k + 23)
  have d3 : Ph Ir.prog (k + 24) "_law_take" [r3, .v (.int ((2 ^ v : Nat) : Int))] = some (iv v4, [r4, .v (.int ((2 ^ v : Nat) : Int))]) := d3
  have o4 := t4.own
  obtain ⟨y, hy0, hy, hy2⟩ : ∃ g : Nat, (1 : Int) + v4 = g ∧ 1 ≤ g ∧ g ≤ 2 ^ v := ⟨v4 + 1, by omega, by omega, by omega⟩
  obtain ⟨Z, hZ⟩ : ∃ Z, Z = op (2 ^ n) c y := ⟨_, rfl⟩
  have Z1 : 1 ≤ Z := by rw [hZ]; exact op_pos c1 c2 hy
  have Z2 : Z ≤ 2 ^ n := by rw [hZ]; exact op_le c2 hy (by omega)
  have g1 : Ph Ir.prog (k + 24) "copy_row" [iv v, iv y] = some (.v (.tuple (nL (cpy v y))), [iv v, iv y]) := e_copy_row (k := k + 19) (n := v) (by omega) hy hy2
  have g2 : Ph Ir.prog (k + 24) "copy_row" [iv n, iv Z] = some (.v (.tuple (nL (cpy n Z))), [iv n, iv Z]) := e_copy_row (k := k + 19) (n := n) (by omega) Z1 Z2
  have gc : cpy n Z = (cpy v y).map (op (2 ^ n) c) := by rw [hZ]; exact copy_copy hv c1 c2 cp hy hy2
  rw [gc] at g2
  obtain ⟨w1, hw1, lw1, g3⟩ := e_copy_level (k := k + 18) (n := n) (b := Z) (by omega) Z1 Z2
  have g3 : Ph Ir.prog (k + 24) "copy_level" [iv n, iv Z] = some (iv w1, [iv n, iv Z]) := g3
  obtain ⟨w2, hw2, lw2, g4⟩ := e_copy_level (k := k + 18) (n := v) (b := y) (by omega) hy hy2
  have g4 : Ph Ir.prog (k + 24) "copy_level" [iv v, iv y] = some (iv w2, [iv v, iv y]) := g4
  have ww : w1 = w2 := pow_inj2 (by rw [← lw1, ← lw2, gc, List.length_map])
  subst ww
  have W1 := cb w1 (by omega)
  have g5 : Ph Ir.prog (k + 24) "table_row" [iv v, iv y] = some (.v (.tuple (rowD (2 ^ v) y)), [iv v, iv y]) := e_table_row (k := k + 19) (n := v) (by omega) hy hy2
  rw [rowD_eq] at g5
  have g6 : ∀ j < 2 ^ v, Ph Ir.prog (k + 24) "times" [iv n, iv Z, iv (op (2 ^ n) c (j + 1))] = some (iv (op (2 ^ n) c (op (2 ^ v) y (j + 1))), [iv n, iv Z, iv (op (2 ^ n) c (j + 1))]) := fun j hj => by
    rw [copy_hom hv c1 c2 cp hy hy2 (by omega) (by omega), ← hZ]
    exact e_times (k := k + 19) (n := n) (by omega) Z1 Z2 (op_pos c1 c2 (by omega)) (op_le c2 (by omega) (by omega))
  have xr : nL (cpy n (pr (2 ^ n) a)) = (List.range (2 ^ v)).map fun j => PyData.int (op (2 ^ n) c (j + 1) : Nat) := by rw [cc, nL_map]
  have xa : ∀ j : Nat, 1 ≤ j → j ≤ 2 ^ v → atI (nL (cpy n (pr (2 ^ n) a))) ((j : Int) - 1) = some (.int (op (2 ^ n) c j : Nat)) := fun j h1 h2 => by
    rw [xr, at_nat (n := j - 1) (by omega), List.getElem?_map, List.getElem?_range (by omega)]
    show some (PyData.int (op (2 ^ n) c (j - 1 + 1) : Nat)) = _
    rw [show j - 1 + 1 = j by omega]
  have xy := xa y hy hy2
  rw [← hZ] at xy
  have Fv := fine_pow v
  have mp := per_pos Fv hy hy2
  have ml := per_le Fv hy hy2
  have mn : (nL (rowN (2 ^ v) y)).length = per (2 ^ v) y := by rw [nL_len, rowN_len]
  have ma : ∀ j : Nat, j < 2 ^ v → atI (nL (rowN (2 ^ v) y)) ((j : Int) % (per (2 ^ v) y : Nat)) = some (.int (op (2 ^ v) y (j + 1) : Nat)) := fun j hjv => by
    rw [← Int.natCast_emod, at_nat rfl]
    unfold nL rowN
    rw [List.getElem?_map, List.getElem?_map, List.getElem?_range (Nat.mod_lt _ mp)]
    show some (PyData.int (op (2 ^ v) y (j % per (2 ^ v) y + 1) : Nat)) = _
    rw [op_mod Fv hy hy2 hjv]
  have mr : ∀ j < 2 ^ v, 1 ≤ op (2 ^ v) y (j + 1) ∧ op (2 ^ v) y (j + 1) ≤ 2 ^ v := fun j hj => ⟨op_pos hy hy2 (by omega), op_le hy2 (by omega) (by omega)⟩
  have ir : ∀ x ∈ cpy v y, 1 ≤ x ∧ x ≤ 2 ^ v := fun x hx => by
    have z1 := pv_pos vp (x := y)
    have z2 := pv_le vp (x := y)
    obtain ⟨j, hj, e⟩ := mem_rowN.mp hx
    have := per_le Fv z1 z2
    rw [← e]
    exact ⟨op_pos z1 z2 (by omega), op_le z2 (by omega) (by omega)⟩
  have s3 : Ph Ir.prog (k + 24) "_law_same" [.l [.tuple (nL ((cpy v y).map (op (2 ^ n) c))), .int (w1 : Nat), .list (nL ((List.range (2 ^ v)).map fun j => op (2 ^ n) c (op (2 ^ v) y (j + 1))))],
      .l [.tuple (nL ((cpy v y).map (op (2 ^ n) c))), .int (w1 : Nat), .list (nL ((List.range (2 ^ v)).map fun j => op (2 ^ n) c (op (2 ^ v) y (j + 1))))]] = _ :=
    same_ll (k := k + 17) rfl (sd_l (by simp) (all_cons (sd_nT _ _ (by rw [List.length_map]; omega)) (all_cons sd_i (all_cons (sd_nL _ _ (by rw [List.length_map, List.length_range]; omega)) all_nil))))
  obtain ⟨rx, outs, em, hrx, hol⟩ := HM n a b t 4 r4 hn t4 (by omega) ha ha2 hb hb2 ht tp
  subst hrx
  obtain ⟨x0, x1, x2, x3, x4, x5, x6, x7, x8, rfl⟩ := len9 hol
  obtain ⟨Φ, hΦ⟩ := hide (Ph Ir.prog (k + 24))
  simp only [← hΦ] at *
  try clear hΦ
  obtain ⟨CA, hhCA⟩ := hide (cpy (n + 1) a)
  simp only [← hhCA] at *
  try clear hhCA
  obtain ⟨CB, hhCB⟩ := hide (cpy n (pr (2 ^ n) a))
  simp only [← hhCB] at *
  try clear hhCB
  obtain ⟨CY, hhCY⟩ := hide (cpy v y)
  simp only [← hhCY] at *
  try clear hhCY
  obtain ⟨RY, hhRY⟩ := hide (rowN (2 ^ v) y)
  simp only [← hhRY] at *
  try clear hhRY
  obtain ⟨PY, hhPY⟩ := hide (per (2 ^ v) y)
  simp only [← hhPY] at *
  try clear hhPY
  obtain ⟨oc, hhoc⟩ := hide (op (2 ^ n) c)
  simp only [← hhoc] at *
  try clear hhoc
  obtain ⟨oy, hhoy⟩ := hide (op (2 ^ v) y)
  simp only [← hhoy] at *
  try clear hhoy
  obtain ⟨PR, hhPR⟩ := hide (op (2 ^ (n + 1)) a b)
  simp only [← hhPR] at *
  try clear hhPR
  obtain ⟨BO, hhBO⟩ := hide (co (2 ^ (n + 1)) a b)
  simp only [← hhBO] at *
  try clear hhBO
  obtain ⟨LS, hhLS⟩ := hide (op (2 ^ n) (pr (2 ^ n) a) (pr (2 ^ n) b))
  simp only [← hhLS] at *
  try clear hhLS
  obtain ⟨LB, hhLB⟩ := hide (co (2 ^ n) (pr (2 ^ n) a) (pr (2 ^ n) b))
  simp only [← hhLB] at *
  try clear hhLB
  obtain ⟨R2, hhR2⟩ := hide (rowN (2 ^ (n + 1)) a)
  simp only [← hhR2] at *
  try clear hhR2
  obtain ⟨R1, hhR1⟩ := hide (rowN (2 ^ n) (pr (2 ^ n) a))
  simp only [← hhR1] at *
  try clear hhR1
  obtain ⟨P2, hhP2⟩ := hide (per (2 ^ (n + 1)) a)
  simp only [← hhP2] at *
  try clear hhP2
  obtain ⟨P1, hhP1⟩ := hide (per (2 ^ n) (pr (2 ^ n) a))
  simp only [← hhP1] at *
  try clear hhP1
  obtain ⟨la, hhla⟩ := hide (pr (2 ^ n) a)
  simp only [← hhla] at *
  try clear hhla
  obtain ⟨lb, hhlb⟩ := hide (pr (2 ^ n) b)
  simp only [← hhlb] at *
  try clear hhlb
  obtain ⟨pf, hhpf⟩ := hide (pr (2 ^ n))
  simp only [← hhpf] at *
  try clear hhpf
  obtain ⟨N2, hhN2⟩ := hide ((2 ^ (n + 1) : Nat))
  simp only [← hhN2] at *
  try clear hhN2
  obtain ⟨N, hhN⟩ := hide ((2 ^ n : Nat))
  simp only [← hhN] at *
  try clear hhN
  obtain ⟨UU, hhUU⟩ := hide ((2 ^ u : Nat))
  simp only [← hhUU] at *
  try clear hhUU
  obtain ⟨VV, hhVV⟩ := hide ((2 ^ v : Nat))
  simp only [← hhVV] at *
  try clear hhVV
  apply Ir.rx__law_right
  apply ans_next
  · (simp [o0, o1, d0, -ev_comp] <;> first | rfl | exact ⟨rfl, rfl⟩)
  apply ans_next
  · (simp [b2, hp, -ev_comp] <;> first | rfl | exact ⟨rfl, rfl⟩)
  apply ans_next
  · (simp [o1, o2, o3, d1, d2, ha0, hb0, -ev_comp] <;> first | rfl | exact ⟨rfl, rfl⟩)
  apply ans_next
  · (simp [e1, e2, -ev_comp] <;> first | rfl | exact ⟨rfl, rfl⟩)
  apply ans_next
  · (simp [e3, -ev_comp] <;> first | rfl | exact ⟨rfl, rfl⟩)
  apply ans_next
  · (simp [e4, -ev_comp] <;> first | rfl | exact ⟨rfl, rfl⟩)
  apply ans_next
  · (simp [e5, e6, -ev_comp] <;> first | rfl | exact ⟨rfl, rfl⟩)
  have hC : ∀ (o6 : Option R), evE Φ (.comp (.call "lowered" (.cons (.var 1) (.cons (.var 22) .nil))) (.nm 22) (.it (.idx (.var 5) (.num 0))) .tyes [22]) [some r3, some (iv n), some (iv N), some (iv PR), some (iv BO), some (.l [.tuple (nL R2), .tuple (nL R1)]), o6, none, none, none, none, none, none, none, none, none, some (iv a), some (iv b), some (iv la), some (iv lb), none, none, none, none] =
      some (.l (nL (R2.map pf)), [some r3, some (iv n), some (iv N), some (iv PR), some (iv BO), some (.l [.tuple (nL R2), .tuple (nL R1)]), o6, none, none, none, none, none, none, none, none, none, some (iv a), some (iv b), some (iv la), some (iv lb), none, none, none, none]) := fun o6 => by
    rw [← nL_map]
    apply comp_na R2 (fun x => .int (x : Nat)) (fun x => .int (pf x : Nat))
    · have : R2.map (fun x : Nat => PyData.int (x : Nat)) = nL R2 := rfl
      rw [this]
      have i0 : ∀ x y : D, atI [x, y] 0 = some x := fun _ _ => rfl
      obtain ⟨T, hT⟩ := hide (nL R2)
      rw [← hT]
      simp [i0, seqD]
    · omega
    · intro x hx
      obtain ⟨x1, x2⟩ := rr x hx
      have lw := lw x x1 x2
      obtain ⟨y, hy⟩ := hide (pf x)
      rw [← hy] at lw ⊢
      obtain ⟨T, hT⟩ := hide (nL R2)
      rw [← hT]
      simp [evD, lw]
  obtain ⟨TP, hTP⟩ := hide (nL (R2.map pf))
  simp only [← hTP] at hC s1 rp
  obtain ⟨T2, hT2⟩ := hide (nL R2)
  obtain ⟨T1, hT1⟩ := hide (nL R1)
  simp only [← hT2] at *
  simp only [← hT1] at *
  clear hT2 hT1
  have i0 : ∀ x y : D, atI [x, y] 0 = some x := fun _ _ => rfl
  have i1 : ∀ x y : D, atI [x, y] 1 = some y := fun _ _ => rfl
  apply ans_next
  · (simp [e7, e9, e8, hC, -ev_comp] <;> first | rfl | exact ⟨rfl, rfl⟩)
  apply ans_next
  · (simp [e10, -ev_comp] <;> first | rfl | exact ⟨rfl, rfl⟩)
  have P1p : 0 < P1 := by omega
  have P1b : (P1 : Int) < 1073741824 := by omega
  apply ans_next
  · (simp [i0, i1, l1, l2, dv, P1p, P1b, -ev_comp] <;> first | rfl | exact ⟨rfl, rfl⟩)
  have Np : 0 < N := by omega
  have t62 : in62 (t : Int) = true := in62_b.mpr ⟨by omega, by omega⟩
  have tok : okN (P1 * t) = true := okN_t (by have : P1 * t ≤ 64 * 2 := Nat.mul_le_mul pb (by omega); omega)
  apply ans_next
  · (simp [prI, e11, i1, rp, l2, t62, tok, Np, -ev_comp] <;> first | rfl | exact ⟨rfl, rfl⟩)
  apply ans_next
  · (simp [s1, in12, -ev_comp] <;> first | rfl | exact ⟨rfl, rfl⟩)
  -- part two
  have hC2 : ∀ (o6 o9 : Option R), evE Φ (.comp (.call "lowered" (.cons (.var 1) (.cons (.var 22) .nil))) (.nm 22) (.it (.var 10)) .tyes [22]) [some r3, some (iv n), some (iv N), some (iv PR), some (iv BO), some (.l [.tuple T2, .tuple T1]), o6, some (iv LS), some (iv t), o9, some (.v (.tuple (nL CA))), none, none, none, none, none, some (iv a), some (iv b), some (iv la), some (iv lb), none, none, none, none] =
      some (.l (nL (CA.map pf)), [some r3, some (iv n), some (iv N), some (iv PR), some (iv BO), some (.l [.tuple T2, .tuple T1]), o6, some (iv LS), some (iv t), o9, some (.v (.tuple (nL CA))), none, none, none, none, none, some (iv a), some (iv b), some (iv la), some (iv lb), none, none, none, none]) := fun o6 o9 => by
    rw [← nL_map]
    apply comp_na CA (fun x => .int (x : Nat)) (fun x => .int (pf x : Nat))
    · have : CA.map (fun x : Nat => PyData.int (x : Nat)) = nL CA := rfl
      rw [this]
      obtain ⟨T, hT⟩ := hide (nL CA)
      rw [← hT]
      simp [seqD]
    · omega
    · intro x hx
      obtain ⟨x1, x2⟩ := cr x hx
      have lw := lw x x1 x2
      obtain ⟨y, hy⟩ := hide (pf x)
      rw [← hy] at lw ⊢
      obtain ⟨T, hT⟩ := hide (nL CA)
      rw [← hT]
      simp [evD, lw]
  have hC3 : ∀ (o6 o9 o11 : Option R), evE Φ (.comp (.call "lowered" (.cons (.var 1) (.cons (.var 22) .nil))) (.nm 22) (.it (.call "copy_row" (.cons (.bin .Add (.var 1) (.num 1)) (.cons (.var 16) .nil)))) .tyes [22]) [some r3, some (iv n), some (iv N), some (iv PR), some (iv BO), some (.l [.tuple T2, .tuple T1]), o6, some (iv LS), some (iv t), o9, some (.v (.tuple (nL CA))), o11, none, none, none, none, some (iv a), some (iv b), some (iv la), some (iv lb), some (iv u), some (iv v), none, none] =
      some (.l (nL (CA.map pf)), [some r3, some (iv n), some (iv N), some (iv PR), some (iv BO), some (.l [.tuple T2, .tuple T1]), o6, some (iv LS), some (iv t), o9, some (.v (.tuple (nL CA))), o11, none, none, none, none, some (iv a), some (iv b), some (iv la), some (iv lb), some (iv u), some (iv v), none, none]) := fun o6 o9 o11 => by
    rw [← nL_map]
    apply comp_na CA (fun x => .int (x : Nat)) (fun x => .int (pf x : Nat))
    · have : CA.map (fun x : Nat => PyData.int (x : Nat)) = nL CA := rfl
      rw [this]
      obtain ⟨T, hT⟩ := hide (nL CA)
      rw [← hT] at f7 ⊢
      simp [f7, seqD]
    · omega
    · intro x hx
      obtain ⟨x1, x2⟩ := cr x hx
      have lw := lw x x1 x2
      obtain ⟨y, hy⟩ := hide (pf x)
      rw [← hy] at lw ⊢
      obtain ⟨T, hT⟩ := hide (nL CA)
      rw [← hT]
      simp [evD, lw]
  -- part three
  obtain ⟨ou, hou⟩ : ∃ ou : Nat → Nat, ∀ j, ou j = oc (oy (j + 1)) := ⟨fun j => oc (oy (j + 1)), fun _ => rfl⟩
  have hou' : ((List.range VV).map fun j => oc (oy (j + 1))) = (List.range VV).map ou := List.map_congr_left fun j _ => (hou j).symm
  rw [hou'] at s3
  have hD1 : ∀ (o6 o9 o11 : Option R), evE Φ (.comp (.call "times" (.cons (.var 1) (.cons (.idx (.var 12) (.bin .Sub (.var 13) (.num 1))) (.cons (.var 22) .nil)))) (.nm 22) (.it (.var 12)) .tyes [22]) [some r4, some (iv n), some (iv N), some (iv PR), some (iv BO), some (.l [.tuple T2, .tuple T1]), o6, some (iv LS), some (iv t), o9, some (.v (.tuple (nL CA))), o11, some (.v (.tuple (nL CB))), some (iv y), some (.v (.tuple (nL CY))), none, some (iv a), some (iv b), some (iv la), some (iv lb), some (iv u), some (iv v), none, none] =
      some (.l (nL ((List.range VV).map ou)), [some r4, some (iv n), some (iv N), some (iv PR), some (iv BO), some (.l [.tuple T2, .tuple T1]), o6, some (iv LS), some (iv t), o9, some (.v (.tuple (nL CA))), o11, some (.v (.tuple (nL CB))), some (iv y), some (.v (.tuple (nL CY))), none, some (iv a), some (iv b), some (iv la), some (iv lb), some (iv u), some (iv v), none, none]) := fun o6 o9 o11 => by
    rw [← nL_map]
    apply comp_na (List.range VV) (fun j => .int (oc (j + 1) : Nat)) (fun x => .int (ou x : Nat))
    · rw [← xr]
      obtain ⟨T, hT⟩ := hide (nL CB)
      rw [← hT]
      simp [seqD]
    · rw [List.length_range]; omega
    · intro j hj
      have g6 := g6 j (List.mem_range.mp hj)
      rw [← hou] at g6
      obtain ⟨T, hT⟩ := hide (nL CB)
      rw [← hT] at xy ⊢
      obtain ⟨p, hp⟩ := hide (oc (j + 1))
      rw [← hp] at g6 ⊢
      obtain ⟨q, hq⟩ := hide (ou j)
      rw [← hq] at g6 ⊢
      simp [evD, g6, xy]
  have hD2 : ∀ (o6 o9 o11 : Option R), evE Φ (.comp (.idx (.var 12) (.bin .Sub (.var 22) (.num 1))) (.nm 22) (.it (.var 14)) .tyes [22]) [some r4, some (iv n), some (iv N), some (iv PR), some (iv BO), some (.l [.tuple T2, .tuple T1]), o6, some (iv LS), some (iv t), o9, some (.v (.tuple (nL CA))), o11, some (.v (.tuple (nL CB))), some (iv y), some (.v (.tuple (nL CY))), some (.v (.tuple (nL RY))), some (iv a), some (iv b), some (iv la), some (iv lb), some (iv u), some (iv v), none, none] =
      some (.l (nL (CY.map oc)), [some r4, some (iv n), some (iv N), some (iv PR), some (iv BO), some (.l [.tuple T2, .tuple T1]), o6, some (iv LS), some (iv t), o9, some (.v (.tuple (nL CA))), o11, some (.v (.tuple (nL CB))), some (iv y), some (.v (.tuple (nL CY))), some (.v (.tuple (nL RY))), some (iv a), some (iv b), some (iv la), some (iv lb), some (iv u), some (iv v), none, none]) := fun o6 o9 o11 => by
    rw [← nL_map]
    apply comp_na CY (fun j => .int (j : Nat)) (fun x => .int (oc x : Nat))
    · have : CY.map (fun x : Nat => PyData.int (x : Nat)) = nL CY := rfl
      rw [this]
      obtain ⟨T, hT⟩ := hide (nL CY)
      rw [← hT]
      simp [seqD]
    · omega
    · intro x hx
      obtain ⟨x1, x2⟩ := ir x hx
      have xa := xa x x1 x2
      obtain ⟨T, hT⟩ := hide (nL CB)
      rw [← hT] at xa ⊢
      obtain ⟨q, hq⟩ := hide (oc x)
      rw [← hq] at xa ⊢
      simp [evD, xa]
  have hD3 : ∀ (o6 o9 o11 : Option R), evE Φ (.comp (.idx (.var 12) (.bin .Sub (.idx (.var 15) (.bin .Mod (.var 23) (.bi .len (.cons (.var 15) .nil)))) (.num 1))) (.nm 23) (.rng1 (.bi .len (.cons (.var 12) .nil))) .tyes [23]) [some r4, some (iv n), some (iv N), some (iv PR), some (iv BO), some (.l [.tuple T2, .tuple T1]), o6, some (iv LS), some (iv t), o9, some (.v (.tuple (nL CA))), o11, some (.v (.tuple (nL CB))), some (iv y), some (.v (.tuple (nL CY))), some (.v (.tuple (nL RY))), some (iv a), some (iv b), some (iv la), some (iv lb), some (iv u), some (iv v), none, none] =
      some (.l (nL ((List.range VV).map ou)), [some r4, some (iv n), some (iv N), some (iv PR), some (iv BO), some (.l [.tuple T2, .tuple T1]), o6, some (iv LS), some (iv t), o9, some (.v (.tuple (nL CA))), o11, some (.v (.tuple (nL CB))), some (iv y), some (.v (.tuple (nL CY))), some (.v (.tuple (nL RY))), some (iv a), some (iv b), some (iv la), some (iv lb), some (iv u), some (iv v), none, none]) := fun o6 o9 o11 => by
    rw [← nL_map]
    apply comp_na (List.range VV) (fun j => .int (j : Nat)) (fun x => .int (ou x : Nat))
    · apply it_to (N := VV)
      · intro _; nofun
      · obtain ⟨T, hT⟩ := hide (nL CB)
        rw [← hT] at lb' ⊢
        simp [lb']
      · omega
    · rw [List.length_range]; omega
    · intro j hj
      have hj := List.mem_range.mp hj
      have ma := ma j hj
      obtain ⟨m1, m2⟩ := mr j hj
      have xa := xa _ m1 m2
      rw [← hou] at xa
      obtain ⟨T, hT⟩ := hide (nL CB)
      rw [← hT] at xa ⊢
      obtain ⟨S, hS⟩ := hide (nL RY)
      rw [← hS] at ma mn ⊢
      obtain ⟨p, hp⟩ := hide (oy (j + 1))
      rw [← hp] at ma xa
      obtain ⟨q, hq⟩ := hide (ou j)
      rw [← hq] at xa ⊢
      have PYp : 0 < PY := by omega
      simp [evD, xa, ma, mn, PYp]
  obtain ⟨TL, hTL⟩ := hide (nL (CA.map pf))
  simp only [← hTL] at *
  obtain ⟨TM, hTM⟩ := hide (nL (CY.map oc))
  simp only [← hTM] at *
  obtain ⟨TU, hTU⟩ := hide (nL ((List.range VV).map ou))
  simp only [← hTU] at *
  obtain ⟨TA, hTA⟩ := hide (nL CA)
  simp only [← hTA] at *
  obtain ⟨TB, hTB⟩ := hide (nL CB)
  simp only [← hTB] at *
  obtain ⟨TY, hTY⟩ := hide (nL CY)
  simp only [← hTY] at *
  obtain ⟨TR, hTR⟩ := hide (nL RY)
  simp only [← hTR] at *
  clear hTL hTM hTU hTA hTB hTY hTR
  have ub : (u : Int) ≤ 1000000 := by omega
  have vb : (v : Int) ≤ 1000000 := by omega
  apply ans_next
  · (simp [f1, -ev_comp] <;> first | rfl | exact ⟨rfl, rfl⟩)
  apply ans_next
  · (simp [f3, hC2, -ev_comp] <;> first | rfl | exact ⟨rfl, rfl⟩)
  apply ans_next
  · (simp [f4, f5, -ev_comp] <;> first | rfl | exact ⟨rfl, rfl⟩)
  apply ans_next
  · (simp [f6, la', hC3, ct, pv', vb, in01, -ev_comp] <;> first | rfl | exact ⟨rfl, rfl⟩)
  apply ans_next
  · (simp [f2, pu, ub, f7, eqt, f8, s2, seqD, -ev_comp] <;> first | rfl | exact ⟨rfl, rfl⟩)
  apply ans_next
  · (simp [f8, -ev_comp] <;> first | rfl | exact ⟨rfl, rfl⟩)
  apply ans_next
  · (simp [lb', d3, hy0, o3, -ev_comp] <;> first | rfl | exact ⟨rfl, rfl⟩)
  apply ans_next
  · (simp [f5, g1, -ev_comp] <;> first | rfl | exact ⟨rfl, rfl⟩)
  apply ans_next
  · (simp [xy, g2, g3, hD1, -ev_comp] <;> first | rfl | exact ⟨rfl, rfl⟩)
  apply ans_next
  · (simp [g5, -ev_comp] <;> first | rfl | exact ⟨rfl, rfl⟩)
  apply ans_next
  · (simp [s3, hD2, g4, hD3, -ev_comp] <;> first | rfl | exact ⟨rfl, rfl⟩)
  apply ans_ret
  · (simp [o4, em, -ev_comp] <;> first | rfl | exact ⟨rfl, rfl⟩)
  · exact ⟨_, rfl, rfl, rfl⟩
end
theorem len1 : ∀ {l : List R}, l.length = 1 → ∃ a, l = [a]
  | [a], _ => ⟨a, rfl⟩
theorem pure_law (ns : List Int) (hn : ns.length ≤ 63) : ∃ outs, Ph Ir.prog 26 "law" [.s ns] = some (.v (.bool true), outs) :=
  law_of (k := 24) (fun x y h1 h2 h3 => by
    obtain ⟨rr, outs, e, hr, ho⟩ := e_right94 (k := 0) (r := .l [.int x, .int y, .int 0]) (fun n a b t c r => e_more94 (k := 0) n a b t c r) ⟨x, y, 0, rfl, h1, h2, h3, by omega, by omega⟩
    subst hr
    obtain ⟨o, rfl⟩ := len1 ho
    exact ⟨o, e⟩) ns hn
end Ev
namespace Hd
open PySem PySem.Spec PyProof.Rows L2 Pv
def topS (i : Nat) : Stmt := PySem.Challenge.pw_leftspread_k94_across_copies_level_by_le.main.body.getD i (.Pass ⟨0, 0, 0, 0⟩)
def dd (x : Str) (i : Nat) : He.DefD := ⟨(x, none), x, x, defArgs (topS i), defBody (topS i), defScope (topS i), [], []⟩
def fnL : List He.DefD := [dd "is_number" 4, dd "is_among" 5, dd "is_from" 6, dd "is_long" 7, dd "tupled" 8, dd "is_just" 9, dd "sure_number" 10, dd "sure_from" 11, dd "rows_in" 15, dd "product_in" 16, dd "sure_level" 17, dd "sure_in" 18, dd "sure_all_in" 19, dd "whole_in" 20, dd "times" 21, dd "table_row" 22, dd "period" 23, dd "whole_table" 24, dd "sure_low" 27, dd "made_in" 28, dd "sure_some" 29, dd "copy_in" 30, dd "made_by" 31, dd "copy_level" 32, dd "copy_row" 33, dd "is_copy_row" 34, dd "makers" 35, dd "how_many_make" 36, dd "do_make" 37, dd "both_in" 41, dd "both" 42, dd "both_table" 43, dd "folded" 44, dd "both_times" 45, dd "fixed_by" 46, dd "sure_listed" 49, dd "periods" 50, dd "divided" 51, dd "sure_below" 55, dd "lowered_in" 56, dd "threshold_in" 57, dd "lowered" 58, dd "threshold" 59, dd "row_above" 60, dd "period_above" 61, dd "does_double" 62, dd "lowered_product" 63, dd "is_bush_in" 65, dd "sure_bush" 66, dd "worth_by" 68, dd "worth" 69, dd "worths" 70, dd "_law_box" 72, dd "_law_take" 73, dd "_law_cells" 74, dd "_law_of" 75, dd "_law_same" 76, dd "_law_set" 77, dd "_law_net" 78, dd "_law_more_right" 79, dd "_law_right" 80, dd "law" 81]
def faL : List He.Fa := [.glo "is_number", .glo "is_among", .glo "is_from", .glo "is_long", .glo "tupled", .glo "is_just", .glo "sure_number", .glo "sure_from", .glo "rows_in", .glo "product_in", .glo "sure_level", .glo "sure_in", .glo "sure_all_in", .glo "whole_in", .glo "times", .glo "table_row", .glo "period", .glo "whole_table", .glo "sure_low", .glo "made_in", .glo "sure_some", .glo "copy_in", .glo "made_by", .glo "copy_level", .glo "copy_row", .glo "is_copy_row", .glo "makers", .glo "how_many_make", .glo "do_make", .glo "both_in", .glo "both", .glo "both_table", .glo "folded", .glo "both_times", .glo "fixed_by", .glo "sure_listed", .glo "periods", .glo "divided", .glo "sure_below", .glo "lowered_in", .glo "threshold_in", .glo "lowered", .glo "threshold", .glo "row_above", .glo "period_above", .glo "does_double", .glo "lowered_product", .glo "is_bush_in", .glo "sure_bush", .glo "worth_by", .glo "worth", .glo "worths", .glo "_law_box", .glo "_law_take", .glo "_law_cells", .glo "_law_of", .glo "_law_same", .glo "_law_set", .glo "_law_net", .glo "_law_more_right", .glo "_law_right", .glo "law", .int "MOST_LEVEL_tables" 12, .int "MOST_WHOLE" 6, .int "MOST_LEVEL_made" 8, .int "MOST_TABLE" 6, .int "MOST_TIMES" 1000, .int "MOST_LISTED" 10, .int "MOST_BELOW" 11, .int "MOST_NUMBER" 4096, .free "ValueError", .free "abs", .free "all", .free "bool", .free "enumerate", .free "int", .free "isinstance", .free "len", .free "list", .free "range", .free "set", .free "sorted", .free "str", .free "tuple", .free "zip"]
abbrev lawI : Nat := 81
def looseL : List Str := (["TooMany", "Unfit", "is_number", "is_among", "is_from", "is_long", "tupled", "is_just", "sure_number", "sure_from", "MOST_LEVEL_tables", "MOST_WHOLE", "rows_in", "product_in", "sure_level", "sure_in", "sure_all_in", "whole_in", "times", "table_row", "period", "whole_table", "MOST_LEVEL_made", "sure_low", "made_in", "sure_some", "copy_in", "made_by", "copy_level", "copy_row"] : List Str) ++ (["is_copy_row", "makers", "how_many_make", "do_make", "MOST_TABLE", "MOST_TIMES", "both_in", "both", "both_table", "folded", "both_times", "fixed_by", "MOST_LISTED", "sure_listed", "periods", "divided", "MOST_BELOW", "MOST_NUMBER", "sure_below", "lowered_in", "threshold_in", "lowered", "threshold", "row_above", "period_above", "does_double", "lowered_product", "is_bush_in", "sure_bush", "worth_by"] : List Str) ++ (["worth", "worths", "_law_box", "_law_take", "_law_cells", "_law_of", "_law_same", "_law_set", "_law_net", "_law_more_right", "_law_right"] : List Str)
def tab : Tab := ⟨[(("is_number" : Str), 1), (("is_among" : Str), 3), (("is_from" : Str), 2), (("is_long" : Str), 2), (("tupled" : Str), 1), (("is_just" : Str), 2), (("sure_number" : Str), 3), (("sure_from" : Str), 2), (("rows_in" : Str), 1), (("product_in" : Str), 3), (("sure_level" : Str), 1), (("sure_in" : Str), 2), (("sure_all_in" : Str), 2), (("whole_in" : Str), 1), (("times" : Str), 3), (("table_row" : Str), 2), (("period" : Str), 2), (("whole_table" : Str), 1), (("sure_low" : Str), 1), (("made_in" : Str), 2), (("sure_some" : Str), 2), (("copy_in" : Str), 2), (("made_by" : Str), 2), (("copy_level" : Str), 2), (("copy_row" : Str), 2), (("is_copy_row" : Str), 3), (("makers" : Str), 1), (("how_many_make" : Str), 2), (("do_make" : Str), 2), (("both_in" : Str), 4), (("both" : Str), 3), (("both_table" : Str), 1), (("folded" : Str), 2), (("both_times" : Str), 3), (("fixed_by" : Str), 2), (("sure_listed" : Str), 1), (("periods" : Str), 1), (("divided" : Str), 3), (("sure_below" : Str), 1), (("lowered_in" : Str), 2), (("threshold_in" : Str), 4), (("lowered" : Str), 2), (("threshold" : Str), 2), (("row_above" : Str), 2), (("period_above" : Str), 2), (("does_double" : Str), 2), (("lowered_product" : Str), 3), (("is_bush_in" : Str), 1), (("sure_bush" : Str), 1), (("worth_by" : Str), 2), (("worth" : Str), 2), (("worths" : Str), 2), (("_law_box" : Str), 2), (("_law_take" : Str), 2), (("_law_cells" : Str), 2), (("_law_of" : Str), 2), (("_law_same" : Str), 2), (("_law_set" : Str), 1), (("_law_net" : Str), 2), (("_law_more_right" : Str), 9), (("_law_right" : Str), 1), (("law" : Str), 1)], [(("MOST_LEVEL_tables" : Str), 12), (("MOST_WHOLE" : Str), 6), (("MOST_LEVEL_made" : Str), 8), (("MOST_TABLE" : Str), 6), (("MOST_TIMES" : Str), 1000), (("MOST_LISTED" : Str), 10), (("MOST_BELOW" : Str), 11), (("MOST_NUMBER" : Str), 4096)], ["ValueError", "abs", "all", "bool", "enumerate", "int", "isinstance", "len", "list", "range", "set", "sorted", "str", "tuple", "zip"]⟩
def d_is_number : Df := ⟨"is_number", ["thing"], ["thing"], Ir.f_is_number, topS 4⟩
theorem c_is_number : chkDf tab d_is_number = true := by decide +kernel
def d_is_among : Df := ⟨"is_among", ["thing", "least", "most"], ["thing", "least", "most"], Ir.f_is_among, topS 5⟩
theorem c_is_among : chkDf tab d_is_among = true := by decide +kernel
def d_is_from : Df := ⟨"is_from", ["thing", "least"], ["thing", "least"], Ir.f_is_from, topS 6⟩
theorem c_is_from : chkDf tab d_is_from = true := by decide +kernel
def d_is_long : Df := ⟨"is_long", ["thing", "length"], ["thing", "length"], Ir.f_is_long, topS 7⟩
theorem c_is_long : chkDf tab d_is_long = true := by decide +kernel
def d_tupled : Df := ⟨"tupled", ["value"], ["value", "own"], Ir.f_tupled, topS 8⟩
theorem c_tupled : chkDf tab d_tupled = true := by decide +kernel
def d_is_just : Df := ⟨"is_just", ["thing", "told"], ["thing", "told", "own", "its"], Ir.f_is_just, topS 9⟩
theorem c_is_just : chkDf tab d_is_just = true := by decide +kernel
def d_sure_number : Df := ⟨"sure_number", ["thing", "least", "most"], ["thing", "least", "most"], Ir.f_sure_number, topS 10⟩
theorem c_sure_number : chkDf tab d_sure_number = true := by decide +kernel
def d_sure_from : Df := ⟨"sure_from", ["thing", "least"], ["thing", "least"], Ir.f_sure_from, topS 11⟩
theorem c_sure_from : chkDf tab d_sure_from = true := by decide +kernel
def d_rows_in : Df := ⟨"rows_in", ["level"], ["level", "last", "rows", "number", "row", "turned", "_"], Ir.f_rows_in, topS 15⟩
theorem c_rows_in : chkDf tab d_rows_in = true := by decide +kernel
def d_product_in : Df := ⟨"product_in", ["rows", "one", "other"], ["rows", "one", "other"], Ir.f_product_in, topS 16⟩
theorem c_product_in : chkDf tab d_product_in = true := by decide +kernel
def d_sure_level : Df := ⟨"sure_level", ["thing"], ["thing"], Ir.f_sure_level, topS 17⟩
theorem c_sure_level : chkDf tab d_sure_level = true := by decide +kernel
def d_sure_in : Df := ⟨"sure_in", ["level", "thing"], ["level", "thing"], Ir.f_sure_in, topS 18⟩
theorem c_sure_in : chkDf tab d_sure_in = true := by decide +kernel
def d_sure_all_in : Df := ⟨"sure_all_in", ["level", "thing"], ["level", "thing", "own", "its"], Ir.f_sure_all_in, topS 19⟩
theorem c_sure_all_in : chkDf tab d_sure_all_in = true := by decide +kernel
def d_whole_in : Df := ⟨"whole_in", ["level"], ["level", "last", "one", "rows", "found", "other"], Ir.f_whole_in, topS 20⟩
theorem c_whole_in : chkDf tab d_whole_in = true := by decide +kernel
def d_times : Df := ⟨"times", ["level", "one", "other"], ["level", "one", "other", "told", "near"], Ir.f_times, topS 21⟩
theorem c_times : chkDf tab d_times = true := by decide +kernel
def d_table_row : Df := ⟨"table_row", ["level", "one"], ["level", "one", "told", "near"], Ir.f_table_row, topS 22⟩
theorem c_table_row : chkDf tab d_table_row = true := by decide +kernel
def d_period : Df := ⟨"period", ["level", "one"], ["level", "one"], Ir.f_period, topS 23⟩
theorem c_period : chkDf tab d_period = true := by decide +kernel
def d_whole_table : Df := ⟨"whole_table", ["level"], ["level"], Ir.f_whole_table, topS 24⟩
theorem c_whole_table : chkDf tab d_whole_table = true := by decide +kernel
def d_sure_low : Df := ⟨"sure_low", ["level"], ["level"], Ir.f_sure_low, topS 27⟩
theorem c_sure_low : chkDf tab d_sure_low = true := by decide +kernel
def d_made_in : Df := ⟨"made_in", ["rows", "numbers"], ["rows", "numbers", "known", "own", "left", "its", "goal"], Ir.f_made_in, topS 28⟩
theorem c_made_in : chkDf tab d_made_in = true := by decide +kernel
def d_sure_some : Df := ⟨"sure_some", ["level", "numbers"], ["level", "numbers", "own"], Ir.f_sure_some, topS 29⟩
theorem c_sure_some : chkDf tab d_sure_some = true := by decide +kernel
def d_copy_in : Df := ⟨"copy_in", ["rows", "one"], ["rows", "one", "size", "found"], Ir.f_copy_in, topS 30⟩
theorem c_copy_in : chkDf tab d_copy_in = true := by decide +kernel
def d_made_by : Df := ⟨"made_by", ["level", "numbers"], ["level", "numbers", "told"], Ir.f_made_by, topS 31⟩
theorem c_made_by : chkDf tab d_made_by = true := by decide +kernel
def d_copy_level : Df := ⟨"copy_level", ["level", "one"], ["level", "one"], Ir.f_copy_level, topS 32⟩
theorem c_copy_level : chkDf tab d_copy_level = true := by decide +kernel
def d_copy_row : Df := ⟨"copy_row", ["level", "one"], ["level", "one", "told"], Ir.f_copy_row, topS 33⟩
theorem c_copy_row : chkDf tab d_copy_row = true := by decide +kernel
def d_is_copy_row : Df := ⟨"is_copy_row", ["level", "one", "thing"], ["level", "one", "thing"], Ir.f_is_copy_row, topS 34⟩
theorem c_is_copy_row : chkDf tab d_is_copy_row = true := by decide +kernel
def d_makers : Df := ⟨"makers", ["level"], ["level", "told", "rows", "last", "own"], Ir.f_makers, topS 35⟩
theorem c_makers : chkDf tab d_makers = true := by decide +kernel
def d_how_many_make : Df := ⟨"how_many_make", ["level", "size"], ["level", "size", "told", "goal", "rows", "last", "own"], Ir.f_how_many_make, topS 36⟩
theorem c_how_many_make : chkDf tab d_how_many_make = true := by decide +kernel
def d_do_make : Df := ⟨"do_make", ["level", "numbers"], ["level", "numbers", "told"], Ir.f_do_make, topS 37⟩
theorem c_do_make : chkDf tab d_do_make = true := by decide +kernel
def d_both_in : Df := ⟨"both_in", ["level", "rows", "one", "other"], ["level", "rows", "one", "other", "last"], Ir.f_both_in, topS 41⟩
theorem c_both_in : chkDf tab d_both_in = true := by decide +kernel
def d_both : Df := ⟨"both", ["level", "one", "other"], ["level", "one", "other", "told", "near"], Ir.f_both, topS 42⟩
theorem c_both : chkDf tab d_both = true := by decide +kernel
def d_both_table : Df := ⟨"both_table", ["level"], ["level", "told", "found", "one", "rows", "last", "other"], Ir.f_both_table, topS 43⟩
theorem c_both_table : chkDf tab d_both_table = true := by decide +kernel
def d_folded : Df := ⟨"folded", ["level", "numbers"], ["level", "numbers", "rows", "found", "own"], Ir.f_folded, topS 44⟩
theorem c_folded : chkDf tab d_folded = true := by decide +kernel
def d_both_times : Df := ⟨"both_times", ["level", "one", "many"], ["level", "one", "many", "told", "own"], Ir.f_both_times, topS 45⟩
theorem c_both_times : chkDf tab d_both_times = true := by decide +kernel
def d_fixed_by : Df := ⟨"fixed_by", ["level", "one"], ["level", "one", "told", "own", "rows", "its"], Ir.f_fixed_by, topS 46⟩
theorem c_fixed_by : chkDf tab d_fixed_by = true := by decide +kernel
def d_sure_listed : Df := ⟨"sure_listed", ["level"], ["level", "told"], Ir.f_sure_listed, topS 49⟩
theorem c_sure_listed : chkDf tab d_sure_listed = true := by decide +kernel
def d_periods : Df := ⟨"periods", ["level"], ["level", "row"], Ir.f_periods, topS 50⟩
theorem c_periods : chkDf tab d_periods = true := by decide +kernel
def d_divided : Df := ⟨"divided", ["level", "one", "goal"], ["level", "one", "goal", "told", "own", "end", "row"], Ir.f_divided, topS 51⟩
theorem c_divided : chkDf tab d_divided = true := by decide +kernel
def d_sure_below : Df := ⟨"sure_below", ["level"], ["level"], Ir.f_sure_below, topS 55⟩
theorem c_sure_below : chkDf tab d_sure_below = true := by decide +kernel
def d_lowered_in : Df := ⟨"lowered_in", ["level", "number"], ["level", "number"], Ir.f_lowered_in, topS 56⟩
theorem c_lowered_in : chkDf tab d_lowered_in = true := by decide +kernel
def d_threshold_in : Df := ⟨"threshold_in", ["level", "rows", "later", "one"], ["level", "rows", "later", "one", "own"], Ir.f_threshold_in, topS 57⟩
theorem c_threshold_in : chkDf tab d_threshold_in = true := by decide +kernel
def d_lowered : Df := ⟨"lowered", ["level", "number"], ["level", "number", "told"], Ir.f_lowered, topS 58⟩
theorem c_lowered : chkDf tab d_lowered = true := by decide +kernel
def d_threshold : Df := ⟨"threshold", ["level", "one"], ["level", "one", "told", "own"], Ir.f_threshold, topS 59⟩
theorem c_threshold : chkDf tab d_threshold = true := by decide +kernel
def d_row_above : Df := ⟨"row_above", ["level", "one"], ["level", "one", "told", "own", "row", "stay", "more", "its"], Ir.f_row_above, topS 60⟩
theorem c_row_above : chkDf tab d_row_above = true := by decide +kernel
def d_period_above : Df := ⟨"period_above", ["level", "one"], ["level", "one"], Ir.f_period_above, topS 61⟩
theorem c_period_above : chkDf tab d_period_above = true := by decide +kernel
def d_does_double : Df := ⟨"does_double", ["level", "one"], ["level", "one", "told", "own"], Ir.f_does_double, topS 62⟩
theorem c_does_double : chkDf tab d_does_double = true := by decide +kernel
def d_lowered_product : Df := ⟨"lowered_product", ["level", "one", "other"], ["level", "one", "other", "told", "near", "far", "above"], Ir.f_lowered_product, topS 63⟩
theorem c_lowered_product : chkDf tab d_lowered_product = true := by decide +kernel
def d_is_bush_in : Df := ⟨"is_bush_in", ["thing"], ["thing"], Ir.f_is_bush_in, topS 65⟩
theorem c_is_bush_in : chkDf tab d_is_bush_in = true := by decide +kernel
def d_sure_bush : Df := ⟨"sure_bush", ["thing"], ["thing", "own"], Ir.f_sure_bush, topS 66⟩
theorem c_sure_bush : chkDf tab d_sure_bush = true := by decide +kernel
def d_worth_by : Df := ⟨"worth_by", ["rows", "bush"], ["rows", "bush"], Ir.f_worth_by, topS 68⟩
theorem c_worth_by : chkDf tab d_worth_by = true := by decide +kernel
def d_worth : Df := ⟨"worth", ["level", "bush"], ["level", "bush", "told"], Ir.f_worth, topS 69⟩
theorem c_worth : chkDf tab d_worth = true := by decide +kernel
def d_worths : Df := ⟨"worths", ["bush", "most"], ["bush", "most", "own", "level"], Ir.f_worths, topS 70⟩
theorem c_worths : chkDf tab d_worths = true := by decide +kernel
def d__law_box : Df := ⟨"_law_box", ["script", "k"], ["script", "k", "bit_so"], Ir.f__law_box, topS 72⟩
theorem c__law_box : chkDf tab d__law_box = true := by decide +kernel
def d__law_take : Df := ⟨"_law_take", ["tin", "below_so"], ["tin", "below_so", "once_so", "wide_so", "twice_so", "drawn_so"], Ir.f__law_take, topS 73⟩
theorem c__law_take : chkDf tab d__law_take = true := by decide +kernel
def d__law_cells : Df := ⟨"_law_cells", ["script", "most_so"], ["script", "most_so", "cells_so", "k", "bit_so", "at_so"], Ir.f__law_cells, topS 74⟩
theorem c__law_cells : chkDf tab d__law_cells = true := by decide +kernel
def d__law_of : Df := ⟨"_law_of", ["tin", "goods_so"], ["tin", "goods_so"], Ir.f__law_of, topS 75⟩
theorem c__law_of : chkDf tab d__law_of = true := by decide +kernel
def d__law_same : Df := ⟨"_law_same", ["got", "due"], ["got", "due", "mine", "its"], Ir.f__law_same, topS 76⟩
theorem c__law_same : chkDf tab d__law_same = true := by decide +kernel
def d__law_set : Df := ⟨"_law_set", ["goods_so"], ["goods_so"], Ir.f__law_set, topS 77⟩
theorem c__law_set : chkDf tab d__law_set = true := by decide +kernel
def d__law_net : Df := ⟨"_law_net", ["tin", "many_so"], ["tin", "many_so", "pool_so", "lap", "k"], Ir.f__law_net, topS 78⟩
theorem c__law_net : chkDf tab d__law_net = true := by decide +kernel
def d__law_more_right : Df := ⟨"_law_more_right", ["tin", "last_so", "level_so", "low_one", "low_so", "one", "product_so", "rows_so", "turns_so"], ["tin", "last_so", "level_so", "low_one", "low_so", "one", "product_so", "rows_so", "turns_so", "sizes_so", "size_so", "got", "many_so", "net", "goal_so", "bads_so", "a", "edge_so", "wide_so", "small_so", "bothes_so", "lesses_so", "b", "own", "x", "y"], Ir.f__law_more_right, topS 79⟩
theorem c__law_more_right : chkDf tab d__law_more_right = true := by decide +kernel
def d__law_right : Df := ⟨"_law_right", ["tin"], ["tin", "level_so", "last_so", "product_so", "both_so", "rows_so", "got", "low_so", "turns_so", "due", "mades_so", "lows_so", "row_so", "k", "inner_so", "mine_so", "one", "other", "low_one", "low_other", "up_so", "down_so", "own", "j"], Ir.f__law_right, topS 80⟩
theorem c__law_right : chkDf tab d__law_right = true := by decide +kernel
def d_law : Df := ⟨"law", ["script"], ["script", "cells_so", "k"], Ir.f_law, topS 81⟩
theorem c_law : chkDf tab d_law = true := by decide +kernel
def defs : List Df := [d_is_number, d_is_among, d_is_from, d_is_long, d_tupled, d_is_just, d_sure_number, d_sure_from, d_rows_in, d_product_in, d_sure_level, d_sure_in, d_sure_all_in, d_whole_in, d_times, d_table_row, d_period, d_whole_table, d_sure_low, d_made_in, d_sure_some, d_copy_in, d_made_by, d_copy_level, d_copy_row, d_is_copy_row, d_makers, d_how_many_make, d_do_make, d_both_in, d_both, d_both_table, d_folded, d_both_times, d_fixed_by, d_sure_listed, d_periods, d_divided, d_sure_below, d_lowered_in, d_threshold_in, d_lowered, d_threshold, d_row_above, d_period_above, d_does_double, d_lowered_product, d_is_bush_in, d_sure_bush, d_worth_by, d_worth, d_worths, d__law_box, d__law_take, d__law_cells, d__law_of, d__law_same, d__law_set, d__law_net, d__law_more_right, d__law_right, d_law]
end Hd
namespace Hd
open PySem PySem.Spec PyProof.Rows L2 Pv
section
variable {K : PySem.W.Frag} {h : Heap} {mg : Str → Option Value}
theorem e_is_number (X : K.In h) (G : h.Ns mainGlobals mg) (c : He.SaysD faL fnL K) : ∃ a fd, FunD K d_is_number.nm d_is_number.nm (defArgs d_is_number.st) (defBody d_is_number.st) (defScope d_is_number.st) [] [] a fd ∧ mg d_is_number.nm = some (.ref a) ∧ Binds K fd d_is_number.ps [] := by
  obtain ⟨fd, F⟩ := c.def_ 0 (d := dd "is_number" 4) rfl
  exact ⟨_, fd, F, He.glo_ok X G (c.fact 0 (f := .glo "is_number") rfl), FunD.bindsN F fun _ _ _ _ _ _ us hl => match us, hl with | [_], _ => rfl⟩
theorem e_is_among (X : K.In h) (G : h.Ns mainGlobals mg) (c : He.SaysD faL fnL K) : ∃ a fd, FunD K d_is_among.nm d_is_among.nm (defArgs d_is_among.st) (defBody d_is_among.st) (defScope d_is_among.st) [] [] a fd ∧ mg d_is_among.nm = some (.ref a) ∧ Binds K fd d_is_among.ps [] := by
  obtain ⟨fd, F⟩ := c.def_ 1 (d := dd "is_among" 5) rfl
  exact ⟨_, fd, F, He.glo_ok X G (c.fact 1 (f := .glo "is_among") rfl), FunD.bindsN F fun _ _ _ _ _ _ us hl => match us, hl with | [_, _, _], _ => rfl⟩
theorem e_is_from (X : K.In h) (G : h.Ns mainGlobals mg) (c : He.SaysD faL fnL K) : ∃ a fd, FunD K d_is_from.nm d_is_from.nm (defArgs d_is_from.st) (defBody d_is_from.st) (defScope d_is_from.st) [] [] a fd ∧ mg d_is_from.nm = some (.ref a) ∧ Binds K fd d_is_from.ps [] := by
  obtain ⟨fd, F⟩ := c.def_ 2 (d := dd "is_from" 6) rfl
  exact ⟨_, fd, F, He.glo_ok X G (c.fact 2 (f := .glo "is_from") rfl), FunD.bindsN F fun _ _ _ _ _ _ us hl => match us, hl with | [_, _], _ => rfl⟩
theorem e_is_long (X : K.In h) (G : h.Ns mainGlobals mg) (c : He.SaysD faL fnL K) : ∃ a fd, FunD K d_is_long.nm d_is_long.nm (defArgs d_is_long.st) (defBody d_is_long.st) (defScope d_is_long.st) [] [] a fd ∧ mg d_is_long.nm = some (.ref a) ∧ Binds K fd d_is_long.ps [] := by
  obtain ⟨fd, F⟩ := c.def_ 3 (d := dd "is_long" 7) rfl
  exact ⟨_, fd, F, He.glo_ok X G (c.fact 3 (f := .glo "is_long") rfl), FunD.bindsN F fun _ _ _ _ _ _ us hl => match us, hl with | [_, _], _ => rfl⟩
theorem e_tupled (X : K.In h) (G : h.Ns mainGlobals mg) (c : He.SaysD faL fnL K) : ∃ a fd, FunD K d_tupled.nm d_tupled.nm (defArgs d_tupled.st) (defBody d_tupled.st) (defScope d_tupled.st) [] [] a fd ∧ mg d_tupled.nm = some (.ref a) ∧ Binds K fd d_tupled.ps [] := by
  obtain ⟨fd, F⟩ := c.def_ 4 (d := dd "tupled" 8) rfl
  exact ⟨_, fd, F, He.glo_ok X G (c.fact 4 (f := .glo "tupled") rfl), FunD.bindsN F fun _ _ _ _ _ _ us hl => match us, hl with | [_], _ => rfl⟩
theorem e_is_just (X : K.In h) (G : h.Ns mainGlobals mg) (c : He.SaysD faL fnL K) : ∃ a fd, FunD K d_is_just.nm d_is_just.nm (defArgs d_is_just.st) (defBody d_is_just.st) (defScope d_is_just.st) [] [] a fd ∧ mg d_is_just.nm = some (.ref a) ∧ Binds K fd d_is_just.ps [] := by
  obtain ⟨fd, F⟩ := c.def_ 5 (d := dd "is_just" 9) rfl
  exact ⟨_, fd, F, He.glo_ok X G (c.fact 5 (f := .glo "is_just") rfl), FunD.bindsN F fun _ _ _ _ _ _ us hl => match us, hl with | [_, _], _ => rfl⟩
theorem e_sure_number (X : K.In h) (G : h.Ns mainGlobals mg) (c : He.SaysD faL fnL K) : ∃ a fd, FunD K d_sure_number.nm d_sure_number.nm (defArgs d_sure_number.st) (defBody d_sure_number.st) (defScope d_sure_number.st) [] [] a fd ∧ mg d_sure_number.nm = some (.ref a) ∧ Binds K fd d_sure_number.ps [] := by
  obtain ⟨fd, F⟩ := c.def_ 6 (d := dd "sure_number" 10) rfl
  exact ⟨_, fd, F, He.glo_ok X G (c.fact 6 (f := .glo "sure_number") rfl), FunD.bindsN F fun _ _ _ _ _ _ us hl => match us, hl with | [_, _, _], _ => rfl⟩
theorem e_sure_from (X : K.In h) (G : h.Ns mainGlobals mg) (c : He.SaysD faL fnL K) : ∃ a fd, FunD K d_sure_from.nm d_sure_from.nm (defArgs d_sure_from.st) (defBody d_sure_from.st) (defScope d_sure_from.st) [] [] a fd ∧ mg d_sure_from.nm = some (.ref a) ∧ Binds K fd d_sure_from.ps [] := by
  obtain ⟨fd, F⟩ := c.def_ 7 (d := dd "sure_from" 11) rfl
  exact ⟨_, fd, F, He.glo_ok X G (c.fact 7 (f := .glo "sure_from") rfl), FunD.bindsN F fun _ _ _ _ _ _ us hl => match us, hl with | [_, _], _ => rfl⟩
theorem e_rows_in (X : K.In h) (G : h.Ns mainGlobals mg) (c : He.SaysD faL fnL K) : ∃ a fd, FunD K d_rows_in.nm d_rows_in.nm (defArgs d_rows_in.st) (defBody d_rows_in.st) (defScope d_rows_in.st) [] [] a fd ∧ mg d_rows_in.nm = some (.ref a) ∧ Binds K fd d_rows_in.ps [] := by
  obtain ⟨fd, F⟩ := c.def_ 8 (d := dd "rows_in" 15) rfl
  exact ⟨_, fd, F, He.glo_ok X G (c.fact 8 (f := .glo "rows_in") rfl), FunD.bindsN F fun _ _ _ _ _ _ us hl => match us, hl with | [_], _ => rfl⟩
theorem e_product_in (X : K.In h) (G : h.Ns mainGlobals mg) (c : He.SaysD faL fnL K) : ∃ a fd, FunD K d_product_in.nm d_product_in.nm (defArgs d_product_in.st) (defBody d_product_in.st) (defScope d_product_in.st) [] [] a fd ∧ mg d_product_in.nm = some (.ref a) ∧ Binds K fd d_product_in.ps [] := by
  obtain ⟨fd, F⟩ := c.def_ 9 (d := dd "product_in" 16) rfl
  exact ⟨_, fd, F, He.glo_ok X G (c.fact 9 (f := .glo "product_in") rfl), FunD.bindsN F fun _ _ _ _ _ _ us hl => match us, hl with | [_, _, _], _ => rfl⟩
theorem e_sure_level (X : K.In h) (G : h.Ns mainGlobals mg) (c : He.SaysD faL fnL K) : ∃ a fd, FunD K d_sure_level.nm d_sure_level.nm (defArgs d_sure_level.st) (defBody d_sure_level.st) (defScope d_sure_level.st) [] [] a fd ∧ mg d_sure_level.nm = some (.ref a) ∧ Binds K fd d_sure_level.ps [] := by
  obtain ⟨fd, F⟩ := c.def_ 10 (d := dd "sure_level" 17) rfl
  exact ⟨_, fd, F, He.glo_ok X G (c.fact 10 (f := .glo "sure_level") rfl), FunD.bindsN F fun _ _ _ _ _ _ us hl => match us, hl with | [_], _ => rfl⟩
theorem e_sure_in (X : K.In h) (G : h.Ns mainGlobals mg) (c : He.SaysD faL fnL K) : ∃ a fd, FunD K d_sure_in.nm d_sure_in.nm (defArgs d_sure_in.st) (defBody d_sure_in.st) (defScope d_sure_in.st) [] [] a fd ∧ mg d_sure_in.nm = some (.ref a) ∧ Binds K fd d_sure_in.ps [] := by
  obtain ⟨fd, F⟩ := c.def_ 11 (d := dd "sure_in" 18) rfl
  exact ⟨_, fd, F, He.glo_ok X G (c.fact 11 (f := .glo "sure_in") rfl), FunD.bindsN F fun _ _ _ _ _ _ us hl => match us, hl with | [_, _], _ => rfl⟩
theorem e_sure_all_in (X : K.In h) (G : h.Ns mainGlobals mg) (c : He.SaysD faL fnL K) : ∃ a fd, FunD K d_sure_all_in.nm d_sure_all_in.nm (defArgs d_sure_all_in.st) (defBody d_sure_all_in.st) (defScope d_sure_all_in.st) [] [] a fd ∧ mg d_sure_all_in.nm = some (.ref a) ∧ Binds K fd d_sure_all_in.ps [] := by
  obtain ⟨fd, F⟩ := c.def_ 12 (d := dd "sure_all_in" 19) rfl
  exact ⟨_, fd, F, He.glo_ok X G (c.fact 12 (f := .glo "sure_all_in") rfl), FunD.bindsN F fun _ _ _ _ _ _ us hl => match us, hl with | [_, _], _ => rfl⟩
theorem e_whole_in (X : K.In h) (G : h.Ns mainGlobals mg) (c : He.SaysD faL fnL K) : ∃ a fd, FunD K d_whole_in.nm d_whole_in.nm (defArgs d_whole_in.st) (defBody d_whole_in.st) (defScope d_whole_in.st) [] [] a fd ∧ mg d_whole_in.nm = some (.ref a) ∧ Binds K fd d_whole_in.ps [] := by
  obtain ⟨fd, F⟩ := c.def_ 13 (d := dd "whole_in" 20) rfl
  exact ⟨_, fd, F, He.glo_ok X G (c.fact 13 (f := .glo "whole_in") rfl), FunD.bindsN F fun _ _ _ _ _ _ us hl => match us, hl with | [_], _ => rfl⟩
theorem e_times (X : K.In h) (G : h.Ns mainGlobals mg) (c : He.SaysD faL fnL K) : ∃ a fd, FunD K d_times.nm d_times.nm (defArgs d_times.st) (defBody d_times.st) (defScope d_times.st) [] [] a fd ∧ mg d_times.nm = some (.ref a) ∧ Binds K fd d_times.ps [] := by
  obtain ⟨fd, F⟩ := c.def_ 14 (d := dd "times" 21) rfl
  exact ⟨_, fd, F, He.glo_ok X G (c.fact 14 (f := .glo "times") rfl), FunD.bindsN F fun _ _ _ _ _ _ us hl => match us, hl with | [_, _, _], _ => rfl⟩
theorem e_table_row (X : K.In h) (G : h.Ns mainGlobals mg) (c : He.SaysD faL fnL K) : ∃ a fd, FunD K d_table_row.nm d_table_row.nm (defArgs d_table_row.st) (defBody d_table_row.st) (defScope d_table_row.st) [] [] a fd ∧ mg d_table_row.nm = some (.ref a) ∧ Binds K fd d_table_row.ps [] := by
  obtain ⟨fd, F⟩ := c.def_ 15 (d := dd "table_row" 22) rfl
  exact ⟨_, fd, F, He.glo_ok X G (c.fact 15 (f := .glo "table_row") rfl), FunD.bindsN F fun _ _ _ _ _ _ us hl => match us, hl with | [_, _], _ => rfl⟩
theorem e_period (X : K.In h) (G : h.Ns mainGlobals mg) (c : He.SaysD faL fnL K) : ∃ a fd, FunD K d_period.nm d_period.nm (defArgs d_period.st) (defBody d_period.st) (defScope d_period.st) [] [] a fd ∧ mg d_period.nm = some (.ref a) ∧ Binds K fd d_period.ps [] := by
  obtain ⟨fd, F⟩ := c.def_ 16 (d := dd "period" 23) rfl
  exact ⟨_, fd, F, He.glo_ok X G (c.fact 16 (f := .glo "period") rfl), FunD.bindsN F fun _ _ _ _ _ _ us hl => match us, hl with | [_, _], _ => rfl⟩
theorem e_whole_table (X : K.In h) (G : h.Ns mainGlobals mg) (c : He.SaysD faL fnL K) : ∃ a fd, FunD K d_whole_table.nm d_whole_table.nm (defArgs d_whole_table.st) (defBody d_whole_table.st) (defScope d_whole_table.st) [] [] a fd ∧ mg d_whole_table.nm = some (.ref a) ∧ Binds K fd d_whole_table.ps [] := by
  obtain ⟨fd, F⟩ := c.def_ 17 (d := dd "whole_table" 24) rfl
  exact ⟨_, fd, F, He.glo_ok X G (c.fact 17 (f := .glo "whole_table") rfl), FunD.bindsN F fun _ _ _ _ _ _ us hl => match us, hl with | [_], _ => rfl⟩
theorem e_sure_low (X : K.In h) (G : h.Ns mainGlobals mg) (c : He.SaysD faL fnL K) : ∃ a fd, FunD K d_sure_low.nm d_sure_low.nm (defArgs d_sure_low.st) (defBody d_sure_low.st) (defScope d_sure_low.st) [] [] a fd ∧ mg d_sure_low.nm = some (.ref a) ∧ Binds K fd d_sure_low.ps [] := by
  obtain ⟨fd, F⟩ := c.def_ 18 (d := dd "sure_low" 27) rfl
  exact ⟨_, fd, F, He.glo_ok X G (c.fact 18 (f := .glo "sure_low") rfl), FunD.bindsN F fun _ _ _ _ _ _ us hl => match us, hl with | [_], _ => rfl⟩
theorem e_made_in (X : K.In h) (G : h.Ns mainGlobals mg) (c : He.SaysD faL fnL K) : ∃ a fd, FunD K d_made_in.nm d_made_in.nm (defArgs d_made_in.st) (defBody d_made_in.st) (defScope d_made_in.st) [] [] a fd ∧ mg d_made_in.nm = some (.ref a) ∧ Binds K fd d_made_in.ps [] := by
  obtain ⟨fd, F⟩ := c.def_ 19 (d := dd "made_in" 28) rfl
  exact ⟨_, fd, F, He.glo_ok X G (c.fact 19 (f := .glo "made_in") rfl), FunD.bindsN F fun _ _ _ _ _ _ us hl => match us, hl with | [_, _], _ => rfl⟩
theorem e_sure_some (X : K.In h) (G : h.Ns mainGlobals mg) (c : He.SaysD faL fnL K) : ∃ a fd, FunD K d_sure_some.nm d_sure_some.nm (defArgs d_sure_some.st) (defBody d_sure_some.st) (defScope d_sure_some.st) [] [] a fd ∧ mg d_sure_some.nm = some (.ref a) ∧ Binds K fd d_sure_some.ps [] := by
  obtain ⟨fd, F⟩ := c.def_ 20 (d := dd "sure_some" 29) rfl
  exact ⟨_, fd, F, He.glo_ok X G (c.fact 20 (f := .glo "sure_some") rfl), FunD.bindsN F fun _ _ _ _ _ _ us hl => match us, hl with | [_, _], _ => rfl⟩
theorem e_copy_in (X : K.In h) (G : h.Ns mainGlobals mg) (c : He.SaysD faL fnL K) : ∃ a fd, FunD K d_copy_in.nm d_copy_in.nm (defArgs d_copy_in.st) (defBody d_copy_in.st) (defScope d_copy_in.st) [] [] a fd ∧ mg d_copy_in.nm = some (.ref a) ∧ Binds K fd d_copy_in.ps [] := by
  obtain ⟨fd, F⟩ := c.def_ 21 (d := dd "copy_in" 30) rfl
  exact ⟨_, fd, F, He.glo_ok X G (c.fact 21 (f := .glo "copy_in") rfl), FunD.bindsN F fun _ _ _ _ _ _ us hl => match us, hl with | [_, _], _ => rfl⟩
theorem e_made_by (X : K.In h) (G : h.Ns mainGlobals mg) (c : He.SaysD faL fnL K) : ∃ a fd, FunD K d_made_by.nm d_made_by.nm (defArgs d_made_by.st) (defBody d_made_by.st) (defScope d_made_by.st) [] [] a fd ∧ mg d_made_by.nm = some (.ref a) ∧ Binds K fd d_made_by.ps [] := by
  obtain ⟨fd, F⟩ := c.def_ 22 (d := dd "made_by" 31) rfl
  exact ⟨_, fd, F, He.glo_ok X G (c.fact 22 (f := .glo "made_by") rfl), FunD.bindsN F fun _ _ _ _ _ _ us hl => match us, hl with | [_, _], _ => rfl⟩
theorem e_copy_level (X : K.In h) (G : h.Ns mainGlobals mg) (c : He.SaysD faL fnL K) : ∃ a fd, FunD K d_copy_level.nm d_copy_level.nm (defArgs d_copy_level.st) (defBody d_copy_level.st) (defScope d_copy_level.st) [] [] a fd ∧ mg d_copy_level.nm = some (.ref a) ∧ Binds K fd d_copy_level.ps [] := by
  obtain ⟨fd, F⟩ := c.def_ 23 (d := dd "copy_level" 32) rfl
  exact ⟨_, fd, F, He.glo_ok X G (c.fact 23 (f := .glo "copy_level") rfl), FunD.bindsN F fun _ _ _ _ _ _ us hl => match us, hl with | [_, _], _ => rfl⟩
theorem e_copy_row (X : K.In h) (G : h.Ns mainGlobals mg) (c : He.SaysD faL fnL K) : ∃ a fd, FunD K d_copy_row.nm d_copy_row.nm (defArgs d_copy_row.st) (defBody d_copy_row.st) (defScope d_copy_row.st) [] [] a fd ∧ mg d_copy_row.nm = some (.ref a) ∧ Binds K fd d_copy_row.ps [] := by
  obtain ⟨fd, F⟩ := c.def_ 24 (d := dd "copy_row" 33) rfl
  exact ⟨_, fd, F, He.glo_ok X G (c.fact 24 (f := .glo "copy_row") rfl), FunD.bindsN F fun _ _ _ _ _ _ us hl => match us, hl with | [_, _], _ => rfl⟩
theorem e_is_copy_row (X : K.In h) (G : h.Ns mainGlobals mg) (c : He.SaysD faL fnL K) : ∃ a fd, FunD K d_is_copy_row.nm d_is_copy_row.nm (defArgs d_is_copy_row.st) (defBody d_is_copy_row.st) (defScope d_is_copy_row.st) [] [] a fd ∧ mg d_is_copy_row.nm = some (.ref a) ∧ Binds K fd d_is_copy_row.ps [] := by
  obtain ⟨fd, F⟩ := c.def_ 25 (d := dd "is_copy_row" 34) rfl
  exact ⟨_, fd, F, He.glo_ok X G (c.fact 25 (f := .glo "is_copy_row") rfl), FunD.bindsN F fun _ _ _ _ _ _ us hl => match us, hl with | [_, _, _], _ => rfl⟩
theorem e_makers (X : K.In h) (G : h.Ns mainGlobals mg) (c : He.SaysD faL fnL K) : ∃ a fd, FunD K d_makers.nm d_makers.nm (defArgs d_makers.st) (defBody d_makers.st) (defScope d_makers.st) [] [] a fd ∧ mg d_makers.nm = some (.ref a) ∧ Binds K fd d_makers.ps [] := by
  obtain ⟨fd, F⟩ := c.def_ 26 (d := dd "makers" 35) rfl
  exact ⟨_, fd, F, He.glo_ok X G (c.fact 26 (f := .glo "makers") rfl), FunD.bindsN F fun _ _ _ _ _ _ us hl => match us, hl with | [_], _ => rfl⟩
theorem e_how_many_make (X : K.In h) (G : h.Ns mainGlobals mg) (c : He.SaysD faL fnL K) : ∃ a fd, FunD K d_how_many_make.nm d_how_many_make.nm (defArgs d_how_many_make.st) (defBody d_how_many_make.st) (defScope d_how_many_make.st) [] [] a fd ∧ mg d_how_many_make.nm = some (.ref a) ∧ Binds K fd d_how_many_make.ps [] := by
  obtain ⟨fd, F⟩ := c.def_ 27 (d := dd "how_many_make" 36) rfl
  exact ⟨_, fd, F, He.glo_ok X G (c.fact 27 (f := .glo "how_many_make") rfl), FunD.bindsN F fun _ _ _ _ _ _ us hl => match us, hl with | [_, _], _ => rfl⟩
theorem e_do_make (X : K.In h) (G : h.Ns mainGlobals mg) (c : He.SaysD faL fnL K) : ∃ a fd, FunD K d_do_make.nm d_do_make.nm (defArgs d_do_make.st) (defBody d_do_make.st) (defScope d_do_make.st) [] [] a fd ∧ mg d_do_make.nm = some (.ref a) ∧ Binds K fd d_do_make.ps [] := by
  obtain ⟨fd, F⟩ := c.def_ 28 (d := dd "do_make" 37) rfl
  exact ⟨_, fd, F, He.glo_ok X G (c.fact 28 (f := .glo "do_make") rfl), FunD.bindsN F fun _ _ _ _ _ _ us hl => match us, hl with | [_, _], _ => rfl⟩
theorem e_both_in (X : K.In h) (G : h.Ns mainGlobals mg) (c : He.SaysD faL fnL K) : ∃ a fd, FunD K d_both_in.nm d_both_in.nm (defArgs d_both_in.st) (defBody d_both_in.st) (defScope d_both_in.st) [] [] a fd ∧ mg d_both_in.nm = some (.ref a) ∧ Binds K fd d_both_in.ps [] := by
  obtain ⟨fd, F⟩ := c.def_ 29 (d := dd "both_in" 41) rfl
  exact ⟨_, fd, F, He.glo_ok X G (c.fact 29 (f := .glo "both_in") rfl), FunD.bindsN F fun _ _ _ _ _ _ us hl => match us, hl with | [_, _, _, _], _ => rfl⟩
theorem e_both (X : K.In h) (G : h.Ns mainGlobals mg) (c : He.SaysD faL fnL K) : ∃ a fd, FunD K d_both.nm d_both.nm (defArgs d_both.st) (defBody d_both.st) (defScope d_both.st) [] [] a fd ∧ mg d_both.nm = some (.ref a) ∧ Binds K fd d_both.ps [] := by
  obtain ⟨fd, F⟩ := c.def_ 30 (d := dd "both" 42) rfl
  exact ⟨_, fd, F, He.glo_ok X G (c.fact 30 (f := .glo "both") rfl), FunD.bindsN F fun _ _ _ _ _ _ us hl => match us, hl with | [_, _, _], _ => rfl⟩
theorem e_both_table (X : K.In h) (G : h.Ns mainGlobals mg) (c : He.SaysD faL fnL K) : ∃ a fd, FunD K d_both_table.nm d_both_table.nm (defArgs d_both_table.st) (defBody d_both_table.st) (defScope d_both_table.st) [] [] a fd ∧ mg d_both_table.nm = some (.ref a) ∧ Binds K fd d_both_table.ps [] := by
  obtain ⟨fd, F⟩ := c.def_ 31 (d := dd "both_table" 43) rfl
  exact ⟨_, fd, F, He.glo_ok X G (c.fact 31 (f := .glo "both_table") rfl), FunD.bindsN F fun _ _ _ _ _ _ us hl => match us, hl with | [_], _ => rfl⟩
theorem e_folded (X : K.In h) (G : h.Ns mainGlobals mg) (c : He.SaysD faL fnL K) : ∃ a fd, FunD K d_folded.nm d_folded.nm (defArgs d_folded.st) (defBody d_folded.st) (defScope d_folded.st) [] [] a fd ∧ mg d_folded.nm = some (.ref a) ∧ Binds K fd d_folded.ps [] := by
  obtain ⟨fd, F⟩ := c.def_ 32 (d := dd "folded" 44) rfl
  exact ⟨_, fd, F, He.glo_ok X G (c.fact 32 (f := .glo "folded") rfl), FunD.bindsN F fun _ _ _ _ _ _ us hl => match us, hl with | [_, _], _ => rfl⟩
theorem e_both_times (X : K.In h) (G : h.Ns mainGlobals mg) (c : He.SaysD faL fnL K) : ∃ a fd, FunD K d_both_times.nm d_both_times.nm (defArgs d_both_times.st) (defBody d_both_times.st) (defScope d_both_times.st) [] [] a fd ∧ mg d_both_times.nm = some (.ref a) ∧ Binds K fd d_both_times.ps [] := by
  obtain ⟨fd, F⟩ := c.def_ 33 (d := dd "both_times" 45) rfl
  exact ⟨_, fd, F, He.glo_ok X G (c.fact 33 (f := .glo "both_times") rfl), FunD.bindsN F fun _ _ _ _ _ _ us hl => match us, hl with | [_, _, _], _ => rfl⟩
theorem e_fixed_by (X : K.In h) (G : h.Ns mainGlobals mg) (c : He.SaysD faL fnL K) : ∃ a fd, FunD K d_fixed_by.nm d_fixed_by.nm (defArgs d_fixed_by.st) (defBody d_fixed_by.st) (defScope d_fixed_by.st) [] [] a fd ∧ mg d_fixed_by.nm = some (.ref a) ∧ Binds K fd d_fixed_by.ps [] := by
  obtain ⟨fd, F⟩ := c.def_ 34 (d := dd "fixed_by" 46) rfl
  exact ⟨_, fd, F, He.glo_ok X G (c.fact 34 (f := .glo "fixed_by") rfl), FunD.bindsN F fun _ _ _ _ _ _ us hl => match us, hl with | [_, _], _ => rfl⟩
theorem e_sure_listed (X : K.In h) (G : h.Ns mainGlobals mg) (c : He.SaysD faL fnL K) : ∃ a fd, FunD K d_sure_listed.nm d_sure_listed.nm (defArgs d_sure_listed.st) (defBody d_sure_listed.st) (defScope d_sure_listed.st) [] [] a fd ∧ mg d_sure_listed.nm = some (.ref a) ∧ Binds K fd d_sure_listed.ps [] := by
  obtain ⟨fd, F⟩ := c.def_ 35 (d := dd "sure_listed" 49) rfl
  exact ⟨_, fd, F, He.glo_ok X G (c.fact 35 (f := .glo "sure_listed") rfl), FunD.bindsN F fun _ _ _ _ _ _ us hl => match us, hl with | [_], _ => rfl⟩
theorem e_periods (X : K.In h) (G : h.Ns mainGlobals mg) (c : He.SaysD faL fnL K) : ∃ a fd, FunD K d_periods.nm d_periods.nm (defArgs d_periods.st) (defBody d_periods.st) (defScope d_periods.st) [] [] a fd ∧ mg d_periods.nm = some (.ref a) ∧ Binds K fd d_periods.ps [] := by
  obtain ⟨fd, F⟩ := c.def_ 36 (d := dd "periods" 50) rfl
  exact ⟨_, fd, F, He.glo_ok X G (c.fact 36 (f := .glo "periods") rfl), FunD.bindsN F fun _ _ _ _ _ _ us hl => match us, hl with | [_], _ => rfl⟩
theorem e_divided (X : K.In h) (G : h.Ns mainGlobals mg) (c : He.SaysD faL fnL K) : ∃ a fd, FunD K d_divided.nm d_divided.nm (defArgs d_divided.st) (defBody d_divided.st) (defScope d_divided.st) [] [] a fd ∧ mg d_divided.nm = some (.ref a) ∧ Binds K fd d_divided.ps [] := by
  obtain ⟨fd, F⟩ := c.def_ 37 (d := dd "divided" 51) rfl
  exact ⟨_, fd, F, He.glo_ok X G (c.fact 37 (f := .glo "divided") rfl), FunD.bindsN F fun _ _ _ _ _ _ us hl => match us, hl with | [_, _, _], _ => rfl⟩
theorem e_sure_below (X : K.In h) (G : h.Ns mainGlobals mg) (c : He.SaysD faL fnL K) : ∃ a fd, FunD K d_sure_below.nm d_sure_below.nm (defArgs d_sure_below.st) (defBody d_sure_below.st) (defScope d_sure_below.st) [] [] a fd ∧ mg d_sure_below.nm = some (.ref a) ∧ Binds K fd d_sure_below.ps [] := by
  obtain ⟨fd, F⟩ := c.def_ 38 (d := dd "sure_below" 55) rfl
  exact ⟨_, fd, F, He.glo_ok X G (c.fact 38 (f := .glo "sure_below") rfl), FunD.bindsN F fun _ _ _ _ _ _ us hl => match us, hl with | [_], _ => rfl⟩
theorem e_lowered_in (X : K.In h) (G : h.Ns mainGlobals mg) (c : He.SaysD faL fnL K) : ∃ a fd, FunD K d_lowered_in.nm d_lowered_in.nm (defArgs d_lowered_in.st) (defBody d_lowered_in.st) (defScope d_lowered_in.st) [] [] a fd ∧ mg d_lowered_in.nm = some (.ref a) ∧ Binds K fd d_lowered_in.ps [] := by
  obtain ⟨fd, F⟩ := c.def_ 39 (d := dd "lowered_in" 56) rfl
  exact ⟨_, fd, F, He.glo_ok X G (c.fact 39 (f := .glo "lowered_in") rfl), FunD.bindsN F fun _ _ _ _ _ _ us hl => match us, hl with | [_, _], _ => rfl⟩
theorem e_threshold_in (X : K.In h) (G : h.Ns mainGlobals mg) (c : He.SaysD faL fnL K) : ∃ a fd, FunD K d_threshold_in.nm d_threshold_in.nm (defArgs d_threshold_in.st) (defBody d_threshold_in.st) (defScope d_threshold_in.st) [] [] a fd ∧ mg d_threshold_in.nm = some (.ref a) ∧ Binds K fd d_threshold_in.ps [] := by
  obtain ⟨fd, F⟩ := c.def_ 40 (d := dd "threshold_in" 57) rfl
  exact ⟨_, fd, F, He.glo_ok X G (c.fact 40 (f := .glo "threshold_in") rfl), FunD.bindsN F fun _ _ _ _ _ _ us hl => match us, hl with | [_, _, _, _], _ => rfl⟩
theorem e_lowered (X : K.In h) (G : h.Ns mainGlobals mg) (c : He.SaysD faL fnL K) : ∃ a fd, FunD K d_lowered.nm d_lowered.nm (defArgs d_lowered.st) (defBody d_lowered.st) (defScope d_lowered.st) [] [] a fd ∧ mg d_lowered.nm = some (.ref a) ∧ Binds K fd d_lowered.ps [] := by
  obtain ⟨fd, F⟩ := c.def_ 41 (d := dd "lowered" 58) rfl
  exact ⟨_, fd, F, He.glo_ok X G (c.fact 41 (f := .glo "lowered") rfl), FunD.bindsN F fun _ _ _ _ _ _ us hl => match us, hl with | [_, _], _ => rfl⟩
theorem e_threshold (X : K.In h) (G : h.Ns mainGlobals mg) (c : He.SaysD faL fnL K) : ∃ a fd, FunD K d_threshold.nm d_threshold.nm (defArgs d_threshold.st) (defBody d_threshold.st) (defScope d_threshold.st) [] [] a fd ∧ mg d_threshold.nm = some (.ref a) ∧ Binds K fd d_threshold.ps [] := by
  obtain ⟨fd, F⟩ := c.def_ 42 (d := dd "threshold" 59) rfl
  exact ⟨_, fd, F, He.glo_ok X G (c.fact 42 (f := .glo "threshold") rfl), FunD.bindsN F fun _ _ _ _ _ _ us hl => match us, hl with | [_, _], _ => rfl⟩
theorem e_row_above (X : K.In h) (G : h.Ns mainGlobals mg) (c : He.SaysD faL fnL K) : ∃ a fd, FunD K d_row_above.nm d_row_above.nm (defArgs d_row_above.st) (defBody d_row_above.st) (defScope d_row_above.st) [] [] a fd ∧ mg d_row_above.nm = some (.ref a) ∧ Binds K fd d_row_above.ps [] := by
  obtain ⟨fd, F⟩ := c.def_ 43 (d := dd "row_above" 60) rfl
  exact ⟨_, fd, F, He.glo_ok X G (c.fact 43 (f := .glo "row_above") rfl), FunD.bindsN F fun _ _ _ _ _ _ us hl => match us, hl with | [_, _], _ => rfl⟩
theorem e_period_above (X : K.In h) (G : h.Ns mainGlobals mg) (c : He.SaysD faL fnL K) : ∃ a fd, FunD K d_period_above.nm d_period_above.nm (defArgs d_period_above.st) (defBody d_period_above.st) (defScope d_period_above.st) [] [] a fd ∧ mg d_period_above.nm = some (.ref a) ∧ Binds K fd d_period_above.ps [] := by
  obtain ⟨fd, F⟩ := c.def_ 44 (d := dd "period_above" 61) rfl
  exact ⟨_, fd, F, He.glo_ok X G (c.fact 44 (f := .glo "period_above") rfl), FunD.bindsN F fun _ _ _ _ _ _ us hl => match us, hl with | [_, _], _ => rfl⟩
theorem e_does_double (X : K.In h) (G : h.Ns mainGlobals mg) (c : He.SaysD faL fnL K) : ∃ a fd, FunD K d_does_double.nm d_does_double.nm (defArgs d_does_double.st) (defBody d_does_double.st) (defScope d_does_double.st) [] [] a fd ∧ mg d_does_double.nm = some (.ref a) ∧ Binds K fd d_does_double.ps [] := by
  obtain ⟨fd, F⟩ := c.def_ 45 (d := dd "does_double" 62) rfl
  exact ⟨_, fd, F, He.glo_ok X G (c.fact 45 (f := .glo "does_double") rfl), FunD.bindsN F fun _ _ _ _ _ _ us hl => match us, hl with | [_, _], _ => rfl⟩
theorem e_lowered_product (X : K.In h) (G : h.Ns mainGlobals mg) (c : He.SaysD faL fnL K) : ∃ a fd, FunD K d_lowered_product.nm d_lowered_product.nm (defArgs d_lowered_product.st) (defBody d_lowered_product.st) (defScope d_lowered_product.st) [] [] a fd ∧ mg d_lowered_product.nm = some (.ref a) ∧ Binds K fd d_lowered_product.ps [] := by
  obtain ⟨fd, F⟩ := c.def_ 46 (d := dd "lowered_product" 63) rfl
  exact ⟨_, fd, F, He.glo_ok X G (c.fact 46 (f := .glo "lowered_product") rfl), FunD.bindsN F fun _ _ _ _ _ _ us hl => match us, hl with | [_, _, _], _ => rfl⟩
theorem e_is_bush_in (X : K.In h) (G : h.Ns mainGlobals mg) (c : He.SaysD faL fnL K) : ∃ a fd, FunD K d_is_bush_in.nm d_is_bush_in.nm (defArgs d_is_bush_in.st) (defBody d_is_bush_in.st) (defScope d_is_bush_in.st) [] [] a fd ∧ mg d_is_bush_in.nm = some (.ref a) ∧ Binds K fd d_is_bush_in.ps [] := by
  obtain ⟨fd, F⟩ := c.def_ 47 (d := dd "is_bush_in" 65) rfl
  exact ⟨_, fd, F, He.glo_ok X G (c.fact 47 (f := .glo "is_bush_in") rfl), FunD.bindsN F fun _ _ _ _ _ _ us hl => match us, hl with | [_], _ => rfl⟩
theorem e_sure_bush (X : K.In h) (G : h.Ns mainGlobals mg) (c : He.SaysD faL fnL K) : ∃ a fd, FunD K d_sure_bush.nm d_sure_bush.nm (defArgs d_sure_bush.st) (defBody d_sure_bush.st) (defScope d_sure_bush.st) [] [] a fd ∧ mg d_sure_bush.nm = some (.ref a) ∧ Binds K fd d_sure_bush.ps [] := by
  obtain ⟨fd, F⟩ := c.def_ 48 (d := dd "sure_bush" 66) rfl
  exact ⟨_, fd, F, He.glo_ok X G (c.fact 48 (f := .glo "sure_bush") rfl), FunD.bindsN F fun _ _ _ _ _ _ us hl => match us, hl with | [_], _ => rfl⟩
theorem e_worth_by (X : K.In h) (G : h.Ns mainGlobals mg) (c : He.SaysD faL fnL K) : ∃ a fd, FunD K d_worth_by.nm d_worth_by.nm (defArgs d_worth_by.st) (defBody d_worth_by.st) (defScope d_worth_by.st) [] [] a fd ∧ mg d_worth_by.nm = some (.ref a) ∧ Binds K fd d_worth_by.ps [] := by
  obtain ⟨fd, F⟩ := c.def_ 49 (d := dd "worth_by" 68) rfl
  exact ⟨_, fd, F, He.glo_ok X G (c.fact 49 (f := .glo "worth_by") rfl), FunD.bindsN F fun _ _ _ _ _ _ us hl => match us, hl with | [_, _], _ => rfl⟩
theorem e_worth (X : K.In h) (G : h.Ns mainGlobals mg) (c : He.SaysD faL fnL K) : ∃ a fd, FunD K d_worth.nm d_worth.nm (defArgs d_worth.st) (defBody d_worth.st) (defScope d_worth.st) [] [] a fd ∧ mg d_worth.nm = some (.ref a) ∧ Binds K fd d_worth.ps [] := by
  obtain ⟨fd, F⟩ := c.def_ 50 (d := dd "worth" 69) rfl
  exact ⟨_, fd, F, He.glo_ok X G (c.fact 50 (f := .glo "worth") rfl), FunD.bindsN F fun _ _ _ _ _ _ us hl => match us, hl with | [_, _], _ => rfl⟩
theorem e_worths (X : K.In h) (G : h.Ns mainGlobals mg) (c : He.SaysD faL fnL K) : ∃ a fd, FunD K d_worths.nm d_worths.nm (defArgs d_worths.st) (defBody d_worths.st) (defScope d_worths.st) [] [] a fd ∧ mg d_worths.nm = some (.ref a) ∧ Binds K fd d_worths.ps [] := by
  obtain ⟨fd, F⟩ := c.def_ 51 (d := dd "worths" 70) rfl
  exact ⟨_, fd, F, He.glo_ok X G (c.fact 51 (f := .glo "worths") rfl), FunD.bindsN F fun _ _ _ _ _ _ us hl => match us, hl with | [_, _], _ => rfl⟩
theorem e__law_box (X : K.In h) (G : h.Ns mainGlobals mg) (c : He.SaysD faL fnL K) : ∃ a fd, FunD K d__law_box.nm d__law_box.nm (defArgs d__law_box.st) (defBody d__law_box.st) (defScope d__law_box.st) [] [] a fd ∧ mg d__law_box.nm = some (.ref a) ∧ Binds K fd d__law_box.ps [] := by
  obtain ⟨fd, F⟩ := c.def_ 52 (d := dd "_law_box" 72) rfl
  exact ⟨_, fd, F, He.glo_ok X G (c.fact 52 (f := .glo "_law_box") rfl), FunD.bindsN F fun _ _ _ _ _ _ us hl => match us, hl with | [_, _], _ => rfl⟩
theorem e__law_take (X : K.In h) (G : h.Ns mainGlobals mg) (c : He.SaysD faL fnL K) : ∃ a fd, FunD K d__law_take.nm d__law_take.nm (defArgs d__law_take.st) (defBody d__law_take.st) (defScope d__law_take.st) [] [] a fd ∧ mg d__law_take.nm = some (.ref a) ∧ Binds K fd d__law_take.ps [] := by
  obtain ⟨fd, F⟩ := c.def_ 53 (d := dd "_law_take" 73) rfl
  exact ⟨_, fd, F, He.glo_ok X G (c.fact 53 (f := .glo "_law_take") rfl), FunD.bindsN F fun _ _ _ _ _ _ us hl => match us, hl with | [_, _], _ => rfl⟩
theorem e__law_cells (X : K.In h) (G : h.Ns mainGlobals mg) (c : He.SaysD faL fnL K) : ∃ a fd, FunD K d__law_cells.nm d__law_cells.nm (defArgs d__law_cells.st) (defBody d__law_cells.st) (defScope d__law_cells.st) [] [] a fd ∧ mg d__law_cells.nm = some (.ref a) ∧ Binds K fd d__law_cells.ps [] := by
  obtain ⟨fd, F⟩ := c.def_ 54 (d := dd "_law_cells" 74) rfl
  exact ⟨_, fd, F, He.glo_ok X G (c.fact 54 (f := .glo "_law_cells") rfl), FunD.bindsN F fun _ _ _ _ _ _ us hl => match us, hl with | [_, _], _ => rfl⟩
theorem e__law_of (X : K.In h) (G : h.Ns mainGlobals mg) (c : He.SaysD faL fnL K) : ∃ a fd, FunD K d__law_of.nm d__law_of.nm (defArgs d__law_of.st) (defBody d__law_of.st) (defScope d__law_of.st) [] [] a fd ∧ mg d__law_of.nm = some (.ref a) ∧ Binds K fd d__law_of.ps [] := by
  obtain ⟨fd, F⟩ := c.def_ 55 (d := dd "_law_of" 75) rfl
  exact ⟨_, fd, F, He.glo_ok X G (c.fact 55 (f := .glo "_law_of") rfl), FunD.bindsN F fun _ _ _ _ _ _ us hl => match us, hl with | [_, _], _ => rfl⟩
theorem e__law_same (X : K.In h) (G : h.Ns mainGlobals mg) (c : He.SaysD faL fnL K) : ∃ a fd, FunD K d__law_same.nm d__law_same.nm (defArgs d__law_same.st) (defBody d__law_same.st) (defScope d__law_same.st) [] [] a fd ∧ mg d__law_same.nm = some (.ref a) ∧ Binds K fd d__law_same.ps [] := by
  obtain ⟨fd, F⟩ := c.def_ 56 (d := dd "_law_same" 76) rfl
  exact ⟨_, fd, F, He.glo_ok X G (c.fact 56 (f := .glo "_law_same") rfl), FunD.bindsN F fun _ _ _ _ _ _ us hl => match us, hl with | [_, _], _ => rfl⟩
theorem e__law_set (X : K.In h) (G : h.Ns mainGlobals mg) (c : He.SaysD faL fnL K) : ∃ a fd, FunD K d__law_set.nm d__law_set.nm (defArgs d__law_set.st) (defBody d__law_set.st) (defScope d__law_set.st) [] [] a fd ∧ mg d__law_set.nm = some (.ref a) ∧ Binds K fd d__law_set.ps [] := by
  obtain ⟨fd, F⟩ := c.def_ 57 (d := dd "_law_set" 77) rfl
  exact ⟨_, fd, F, He.glo_ok X G (c.fact 57 (f := .glo "_law_set") rfl), FunD.bindsN F fun _ _ _ _ _ _ us hl => match us, hl with | [_], _ => rfl⟩
theorem e__law_net (X : K.In h) (G : h.Ns mainGlobals mg) (c : He.SaysD faL fnL K) : ∃ a fd, FunD K d__law_net.nm d__law_net.nm (defArgs d__law_net.st) (defBody d__law_net.st) (defScope d__law_net.st) [] [] a fd ∧ mg d__law_net.nm = some (.ref a) ∧ Binds K fd d__law_net.ps [] := by
  obtain ⟨fd, F⟩ := c.def_ 58 (d := dd "_law_net" 78) rfl
  exact ⟨_, fd, F, He.glo_ok X G (c.fact 58 (f := .glo "_law_net") rfl), FunD.bindsN F fun _ _ _ _ _ _ us hl => match us, hl with | [_, _], _ => rfl⟩
theorem e__law_more_right (X : K.In h) (G : h.Ns mainGlobals mg) (c : He.SaysD faL fnL K) : ∃ a fd, FunD K d__law_more_right.nm d__law_more_right.nm (defArgs d__law_more_right.st) (defBody d__law_more_right.st) (defScope d__law_more_right.st) [] [] a fd ∧ mg d__law_more_right.nm = some (.ref a) ∧ Binds K fd d__law_more_right.ps [] := by
  obtain ⟨fd, F⟩ := c.def_ 59 (d := dd "_law_more_right" 79) rfl
  exact ⟨_, fd, F, He.glo_ok X G (c.fact 59 (f := .glo "_law_more_right") rfl), FunD.bindsN F fun _ _ _ _ _ _ us hl => match us, hl with | [_, _, _, _, _, _, _, _, _], _ => rfl⟩
theorem e__law_right (X : K.In h) (G : h.Ns mainGlobals mg) (c : He.SaysD faL fnL K) : ∃ a fd, FunD K d__law_right.nm d__law_right.nm (defArgs d__law_right.st) (defBody d__law_right.st) (defScope d__law_right.st) [] [] a fd ∧ mg d__law_right.nm = some (.ref a) ∧ Binds K fd d__law_right.ps [] := by
  obtain ⟨fd, F⟩ := c.def_ 60 (d := dd "_law_right" 80) rfl
  exact ⟨_, fd, F, He.glo_ok X G (c.fact 60 (f := .glo "_law_right") rfl), FunD.bindsN F fun _ _ _ _ _ _ us hl => match us, hl with | [_], _ => rfl⟩
theorem e_law (X : K.In h) (G : h.Ns mainGlobals mg) (c : He.SaysD faL fnL K) : ∃ a fd, FunD K d_law.nm d_law.nm (defArgs d_law.st) (defBody d_law.st) (defScope d_law.st) [] [] a fd ∧ mg d_law.nm = some (.ref a) ∧ Binds K fd d_law.ps [] := by
  obtain ⟨fd, F⟩ := c.def_ 61 (d := dd "law" 81) rfl
  exact ⟨_, fd, F, He.glo_ok X G (c.fact 61 (f := .glo "law") rfl), FunD.bindsN F fun _ _ _ _ _ _ us hl => match us, hl with | [_], _ => rfl⟩
theorem mem_defs {C : Df → Prop} (h0 : C d_is_number) (h1 : C d_is_among) (h2 : C d_is_from) (h3 : C d_is_long) (h4 : C d_tupled) (h5 : C d_is_just) (h6 : C d_sure_number) (h7 : C d_sure_from) (h8 : C d_rows_in) (h9 : C d_product_in) (h10 : C d_sure_level) (h11 : C d_sure_in) (h12 : C d_sure_all_in) (h13 : C d_whole_in) (h14 : C d_times) (h15 : C d_table_row) (h16 : C d_period) (h17 : C d_whole_table) (h18 : C d_sure_low) (h19 : C d_made_in) (h20 : C d_sure_some) (h21 : C d_copy_in) (h22 : C d_made_by) (h23 : C d_copy_level) (h24 : C d_copy_row) (h25 : C d_is_copy_row) (h26 : C d_makers) (h27 : C d_how_many_make) (h28 : C d_do_make) (h29 : C d_both_in) (h30 : C d_both) (h31 : C d_both_table) (h32 : C d_folded) (h33 : C d_both_times) (h34 : C d_fixed_by) (h35 : C d_sure_listed) (h36 : C d_periods) (h37 : C d_divided) (h38 : C d_sure_below) (h39 : C d_lowered_in) (h40 : C d_threshold_in) (h41 : C d_lowered) (h42 : C d_threshold) (h43 : C d_row_above) (h44 : C d_period_above) (h45 : C d_does_double) (h46 : C d_lowered_product) (h47 : C d_is_bush_in) (h48 : C d_sure_bush) (h49 : C d_worth_by) (h50 : C d_worth) (h51 : C d_worths) (h52 : C d__law_box) (h53 : C d__law_take) (h54 : C d__law_cells) (h55 : C d__law_of) (h56 : C d__law_same) (h57 : C d__law_set) (h58 : C d__law_net) (h59 : C d__law_more_right) (h60 : C d__law_right) (h61 : C d_law) : ∀ d ∈ defs, C d := by
  intro d hd
  unfold defs at hd
  simp only [List.mem_cons, List.not_mem_nil, or_false] at hd
  rcases hd with rfl | rfl | rfl | rfl | rfl | rfl | rfl | rfl | rfl | rfl | rfl | rfl | rfl | rfl | rfl | rfl | rfl | rfl | rfl | rfl | rfl | rfl | rfl | rfl | rfl | rfl | rfl | rfl | rfl | rfl | rfl | rfl | rfl | rfl | rfl | rfl | rfl | rfl | rfl | rfl | rfl | rfl | rfl | rfl | rfl | rfl | rfl | rfl | rfl | rfl | rfl | rfl | rfl | rfl | rfl | rfl | rfl | rfl | rfl | rfl | rfl | rfl
  · exact h0
  · exact h1
  · exact h2
  · exact h3
  · exact h4
  · exact h5
  · exact h6
  · exact h7
  · exact h8
  · exact h9
  · exact h10
  · exact h11
  · exact h12
  · exact h13
  · exact h14
  · exact h15
  · exact h16
  · exact h17
  · exact h18
  · exact h19
  · exact h20
  · exact h21
  · exact h22
  · exact h23
  · exact h24
  · exact h25
  · exact h26
  · exact h27
  · exact h28
  · exact h29
  · exact h30
  · exact h31
  · exact h32
  · exact h33
  · exact h34
  · exact h35
  · exact h36
  · exact h37
  · exact h38
  · exact h39
  · exact h40
  · exact h41
  · exact h42
  · exact h43
  · exact h44
  · exact h45
  · exact h46
  · exact h47
  · exact h48
  · exact h49
  · exact h50
  · exact h51
  · exact h52
  · exact h53
  · exact h54
  · exact h55
  · exact h56
  · exact h57
  · exact h58
  · exact h59
  · exact h60
  · exact h61
theorem ents (X : K.In h) (G : h.Ns mainGlobals mg) (c : He.SaysD faL fnL K) : ∀ d ∈ defs, ∃ a fd, FunD K d.nm d.nm (defArgs d.st) (defBody d.st) (defScope d.st) [] [] a fd ∧ mg d.nm = some (.ref a) ∧ Binds K fd d.ps [] := mem_defs (e_is_number X G c) (e_is_among X G c) (e_is_from X G c) (e_is_long X G c) (e_tupled X G c) (e_is_just X G c) (e_sure_number X G c) (e_sure_from X G c) (e_rows_in X G c) (e_product_in X G c) (e_sure_level X G c) (e_sure_in X G c) (e_sure_all_in X G c) (e_whole_in X G c) (e_times X G c) (e_table_row X G c) (e_period X G c) (e_whole_table X G c) (e_sure_low X G c) (e_made_in X G c) (e_sure_some X G c) (e_copy_in X G c) (e_made_by X G c) (e_copy_level X G c) (e_copy_row X G c) (e_is_copy_row X G c) (e_makers X G c) (e_how_many_make X G c) (e_do_make X G c) (e_both_in X G c) (e_both X G c) (e_both_table X G c) (e_folded X G c) (e_both_times X G c) (e_fixed_by X G c) (e_sure_listed X G c) (e_periods X G c) (e_divided X G c) (e_sure_below X G c) (e_lowered_in X G c) (e_threshold_in X G c) (e_lowered X G c) (e_threshold X G c) (e_row_above X G c) (e_period_above X G c) (e_does_double X G c) (e_lowered_product X G c) (e_is_bush_in X G c) (e_sure_bush X G c) (e_worth_by X G c) (e_worth X G c) (e_worths X G c) (e__law_box X G c) (e__law_take X G c) (e__law_cells X G c) (e__law_of X G c) (e__law_same X G c) (e__law_set X G c) (e__law_net X G c) (e__law_more_right X G c) (e__law_right X G c) (e_law X G c)
theorem chks : ∀ d ∈ defs, chkDf tab d = true := mem_defs c_is_number c_is_among c_is_from c_is_long c_tupled c_is_just c_sure_number c_sure_from c_rows_in c_product_in c_sure_level c_sure_in c_sure_all_in c_whole_in c_times c_table_row c_period c_whole_table c_sure_low c_made_in c_sure_some c_copy_in c_made_by c_copy_level c_copy_row c_is_copy_row c_makers c_how_many_make c_do_make c_both_in c_both c_both_table c_folded c_both_times c_fixed_by c_sure_listed c_periods c_divided c_sure_below c_lowered_in c_threshold_in c_lowered c_threshold c_row_above c_period_above c_does_double c_lowered_product c_is_bush_in c_sure_bush c_worth_by c_worth c_worths c__law_box c__law_take c__law_cells c__law_of c__law_same c__law_set c__law_net c__law_more_right c__law_right c_law
theorem progs : ∀ d ∈ defs, Ir.prog d.nm = some d.fn := mem_defs (by kernel_rfl) (by kernel_rfl) (by kernel_rfl) (by kernel_rfl) (by kernel_rfl) (by kernel_rfl) (by kernel_rfl) (by kernel_rfl) (by kernel_rfl) (by kernel_rfl) (by kernel_rfl) (by kernel_rfl) (by kernel_rfl) (by kernel_rfl) (by kernel_rfl) (by kernel_rfl) (by kernel_rfl) (by kernel_rfl) (by kernel_rfl) (by kernel_rfl) (by kernel_rfl) (by kernel_rfl) (by kernel_rfl) (by kernel_rfl) (by kernel_rfl) (by kernel_rfl) (by kernel_rfl) (by kernel_rfl) (by kernel_rfl) (by kernel_rfl) (by kernel_rfl) (by kernel_rfl) (by kernel_rfl) (by kernel_rfl) (by kernel_rfl) (by kernel_rfl) (by kernel_rfl) (by kernel_rfl) (by kernel_rfl) (by kernel_rfl) (by kernel_rfl) (by kernel_rfl) (by kernel_rfl) (by kernel_rfl) (by kernel_rfl) (by kernel_rfl) (by kernel_rfl) (by kernel_rfl) (by kernel_rfl) (by kernel_rfl) (by kernel_rfl) (by kernel_rfl) (by kernel_rfl) (by kernel_rfl) (by kernel_rfl) (by kernel_rfl) (by kernel_rfl) (by kernel_rfl) (by kernel_rfl) (by kernel_rfl) (by kernel_rfl) (by kernel_rfl)
theorem fns_in : ∀ p ∈ tab.fns, ∃ d ∈ defs, d.nm = p.1 ∧ d.ps.length = p.2 := by
  have h : (tab.fns.all fun p => defs.any fun d => decide (d.nm = p.1) && decide (d.ps.length = p.2)) = true := by decide +kernel
  intro p hp
  obtain ⟨d, hd, e⟩ := List.any_eq_true.mp (List.all_eq_true.mp h p hp)
  obtain ⟨e1, e2⟩ := and_t e
  exact ⟨d, hd, of_decide_eq_true e1, of_decide_eq_true e2⟩
theorem cs_in (X : K.In h) (G : h.Ns mainGlobals mg) (c : He.SaysD faL fnL K) : ∀ p ∈ tab.cs, ∃ tk, mg p.1 = some (.int p.2 tk) := by
  intro p hp
  unfold tab at hp
  simp only [List.mem_cons, List.not_mem_nil, or_false] at hp
  rcases hp with rfl | rfl | rfl | rfl | rfl | rfl | rfl | rfl
  · exact He.int_ok X G (c.fact 62 (f := .int "MOST_LEVEL_tables" 12) rfl)
  · exact He.int_ok X G (c.fact 63 (f := .int "MOST_WHOLE" 6) rfl)
  · exact He.int_ok X G (c.fact 64 (f := .int "MOST_LEVEL_made" 8) rfl)
  · exact He.int_ok X G (c.fact 65 (f := .int "MOST_TABLE" 6) rfl)
  · exact He.int_ok X G (c.fact 66 (f := .int "MOST_TIMES" 1000) rfl)
  · exact He.int_ok X G (c.fact 67 (f := .int "MOST_LISTED" 10) rfl)
  · exact He.int_ok X G (c.fact 68 (f := .int "MOST_BELOW" 11) rfl)
  · exact He.int_ok X G (c.fact 69 (f := .int "MOST_NUMBER" 4096) rfl)
theorem fr_in (X : K.In h) (G : h.Ns mainGlobals mg) (c : He.SaysD faL fnL K) : ∀ x ∈ tab.fr, mg x = none := by
  intro x hx
  unfold tab at hx
  simp only [List.mem_cons, List.not_mem_nil, or_false] at hx
  rcases hx with rfl | rfl | rfl | rfl | rfl | rfl | rfl | rfl | rfl | rfl | rfl | rfl | rfl | rfl | rfl
  · exact He.free_ok X G (c.fact 70 (f := .free "ValueError") rfl)
  · exact He.free_ok X G (c.fact 71 (f := .free "abs") rfl)
  · exact He.free_ok X G (c.fact 72 (f := .free "all") rfl)
  · exact He.free_ok X G (c.fact 73 (f := .free "bool") rfl)
  · exact He.free_ok X G (c.fact 74 (f := .free "enumerate") rfl)
  · exact He.free_ok X G (c.fact 75 (f := .free "int") rfl)
  · exact He.free_ok X G (c.fact 76 (f := .free "isinstance") rfl)
  · exact He.free_ok X G (c.fact 77 (f := .free "len") rfl)
  · exact He.free_ok X G (c.fact 78 (f := .free "list") rfl)
  · exact He.free_ok X G (c.fact 79 (f := .free "range") rfl)
  · exact He.free_ok X G (c.fact 80 (f := .free "set") rfl)
  · exact He.free_ok X G (c.fact 81 (f := .free "sorted") rfl)
  · exact He.free_ok X G (c.fact 82 (f := .free "str") rfl)
  · exact He.free_ok X G (c.fact 83 (f := .free "tuple") rfl)
  · exact He.free_ok X G (c.fact 84 (f := .free "zip") rfl)
end
abbrev RR : PySem.W.OpenRow := PySem.W.OpenLaw.row PySem.Challenge.rw_leftspread_k94_across_copies_level_by_le
abbrev hk : PySem.W.Hook := He.hookD 4 faL fnL
def ob (s : PySem.W.SharedT) : He.AlD := He.obsDG 4 faL fnL (HandSHeadRun.getT s)
theorem ob_eq (s : PySem.W.SharedT) : ob s = hk.obs s.abs := He.obsDG_eq (HandSHeadRun.getT_eq s)
theorem run (w : World) : HandSHeadRun.RunEq RR (PySem.W.view RR.prog [lawI]) hk ob 4000 looseL w := by
  intro os
  kernel_rfl
end Hd
open PySem PySem.W PySem.Calls PyProof.Rows in
theorem holds_of (kk : Nat) (hr : L2.Room kk callerA) (pure_law : ∀ ns : List Int, ns.length ≤ 63 → ∃ outs, Pv.Ph Ir.prog kk "law" [.s ns] = some (.v (.bool true), outs)) : PySem.Challenge.rw_leftspread_k94_across_copies_level_by_le.Holds := by
  w_on; o_law
  refine HandSHeadRun.head_any (r := Hd.RR) (q := view Hd.RR.prog [Hd.lawI]) (H := Hd.hk) (ob := Hd.ob) (M := 4000) (loose := Hd.looseL) (d := HandSHeadRun.topDef Hd.RR.prog Hd.lawI) (kwd := []) Hd.ob_eq
    (by kernel_rfl) (fun s => by kernel_rfl) Hd.run (by kernel_rfl) (by kernel_rfl) (by kernel_rfl) (by rfl) (by first | assumption | decide +kernel) (by decide +kernel) ⟨rfl, rfl, rfl, rfl, rfl, by decide +kernel⟩ ?hw ?hc
  case hw => w_witness2
  case hc =>
    refine L2.walk_ofE (l := PySem.Challenge.rw_leftspread_k94_across_copies_level_by_le) (n := 63) (k := kk) (x := "script") (CX := L2.CX0) rfl (by decide) (by kernel_rfl) hr ?F (fun _ _ _ _ z => z)
    intro w mg fa h Y G hmg0
    obtain ⟨K, KX, c⟩ := Y
    have hmg : mg ("law" : PySem.Str) = some (.ref fa) := by
      have e : (HandSHeadRun.topDef Hd.RR.prog Hd.lawI).name = ("law" : PySem.Str) := by kernel_rfl
      rw [← e]
      exact hmg0
    obtain ⟨a, fd, F, hm, hb⟩ := Hd.e_law KX G c
    have hb2 := L2.FunD.bindsA (ps := Hd.d_law.ps) F fun _ _ _ _ _ _ us hl => match us, hl with | [_], _ => rfl
    obtain rfl : fa = a := by
      have e := hmg.symm.trans hm
      cases e
      rfl
    refine ⟨K, fd, Pv.spF (Pv.Ph Ir.prog kk) K "law", KX, fun s v => hb2 s [v] rfl, fun H a ns hl _ hS => ?_, fun base B1 B2 => ?_⟩
    · obtain ⟨outs, e⟩ := pure_law ns hl
      exact Pv.law_sp hS e
    · exact Pv.fns_ok Hd.chks Hd.progs Hd.fns_in (Hd.cs_in KX G c) (Hd.fr_in KX G c) (Hd.ents KX G c) kk Hd.d_law (by unfold Hd.defs; simp) fa fd F
theorem PySem.Challenge.cw_leftspread_k94_across_copies_level_by_le_holds : PySem.Challenge.rw_leftspread_k94_across_copies_level_by_le.Holds :=
  holds_of 26 ⟨rfl, by decide, by decide⟩ fun ns hn => Ev.pure_law ns hn
