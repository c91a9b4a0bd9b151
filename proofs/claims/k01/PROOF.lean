import PyProof.Rows.All
import Wide.All
import OpenK.AllK
import Wide.FinOn
import HandS.ForMost
import HandS.Flow
import HandS.Walk
import HandS.Style
import HandS.TupAny
import HandS.TupMul
import HandS.Conv
import HandS.IsInst
import HandS.Zip
import HandS.SetFor
import KE.GoesMore
import PySem.Challenge.RW_lotthrows_k01_whole_decks_laid_and_order
set_option Elab.async false
set_option linter.all false
set_option maxRecDepth 100000
set_option maxHeartbeats 4000000
section P1
namespace Q
open PySem PySem.Spec PyProof.Rows L2

/-! ### data in the heap, frozen -/
mutual
inductive Fz (K : PySem.W.Frag) (H : Hp) : V → PyData → Prop
  | non : Fz K H .non .none
  | bl (b : Bool) : Fz K H (.bl b) (.bool b)
  | int (i : Int) : Fz K H (.int i) (.int i)
  | str (x : Str) : Fz K H (.str x) (.str x)
  | lst {a : Addr} {o : Obj} {xs : List V} {ds : List PyData} : H a = some (.frz o (.lst xs)) → FzAll K H xs ds → Fz K H (.ref a) (.list ds)
  | tup {a : Addr} {xs : List V} {ds : List PyData} : SqT K H a xs → FzAll K H xs ds → Fz K H (.ref a) (.tuple ds)
inductive FzAll (K : PySem.W.Frag) (H : Hp) : List V → List PyData → Prop
  | nil : FzAll K H [] []
  | cons {v : V} {d : PyData} {vs : List V} {ds : List PyData} : Fz K H v d → FzAll K H vs ds → FzAll K H (v :: vs) (d :: ds)
end

/-- what is frozen stays -/
structure Ex (H H' : Hp) : Prop where
  tup : ∀ a xs, H a = some (.tup xs) → H' a = some (.tup xs)
  frz : ∀ a o u, H a = some (.frz o u) → H' a = some (.frz o u)
theorem Ex.refl (H : Hp) : Ex H H := ⟨fun _ _ h => h, fun _ _ _ h => h⟩
theorem Ex.trans {H H1 H2 : Hp} (a : Ex H H1) (b : Ex H1 H2) : Ex H H2 := ⟨fun c xs h => b.tup c xs (a.tup c xs h), fun c o u h => b.frz c o u (a.frz c o u h)⟩
theorem Ex.sqT {K : PySem.W.Frag} {H H' : Hp} {a : Addr} {xs : List V} (e : Ex H H') (h : SqT K H a xs) : SqT K H' a xs := by
  rcases h with (h | ⟨o, h⟩) | h
  · exact .inl (.inl (e.tup _ _ h))
  · exact .inl (.inr ⟨o, e.frz _ _ _ h⟩)
  · exact .inr h
mutual
theorem Fz.mono {K : PySem.W.Frag} {H H' : Hp} (e : Ex H H') : ∀ {v : V} {d : PyData}, Fz K H v d → Fz K H' v d
  | _, _, .non => .non
  | _, _, .bl b => .bl b
  | _, _, .int b => .int b
  | _, _, .str b => .str b
  | _, _, .lst h t => .lst (e.frz _ _ _ h) (FzAll.mono e t)
  | _, _, .tup h t => .tup (e.sqT h) (FzAll.mono e t)
theorem FzAll.mono {K : PySem.W.Frag} {H H' : Hp} (e : Ex H H') : ∀ {v : List V} {d : List PyData}, FzAll K H v d → FzAll K H' v d
  | _, _, .nil => .nil
  | _, _, .cons a b => .cons (Fz.mono e a) (FzAll.mono e b)
end
mutual
theorem Fz.dp {K : PySem.W.Frag} {H : Hp} : ∀ {v : V} {d : PyData}, Fz K H v d → Dp K H v d
  | _, _, .non => .non
  | _, _, .bl b => .bl b
  | _, _, .int b => .int b
  | _, _, .str b => .str b
  | _, _, .lst h t => .lst (.inl (.inr ⟨_, h⟩)) (FzAll.dp t)
  | _, _, .tup h t => .tup h (FzAll.dp t)
theorem FzAll.dp {K : PySem.W.Frag} {H : Hp} : ∀ {v : List V} {d : List PyData}, FzAll K H v d → DpAll K H v d
  | _, _, .nil => .nil
  | _, _, .cons a b => .cons (Fz.dp a) (FzAll.dp b)
end
section
variable {K : PySem.W.Frag} {H : Hp}
theorem FzAll.length : ∀ {vs : List V} {ds : List PyData}, FzAll K H vs ds → vs.length = ds.length
  | _, _, .nil => rfl
  | _, _, .cons _ t => by rw [List.length_cons, List.length_cons, FzAll.length t]
theorem FzAll.at : ∀ {vs : List V} {ds : List PyData} {i : Nat} {d : PyData}, FzAll K H vs ds → ds[i]? = some d → ∃ v, vs[i]? = some v ∧ Fz K H v d
  | _, _, _, _, .nil, e => by simp at e
  | _, _, 0, _, .cons r _, e => by simp at e; subst e; exact ⟨_, rfl, r⟩
  | _, _, i + 1, _, .cons _ t, e => by
    obtain ⟨u, h1, h2⟩ := FzAll.at (i := i) t (by simpa using e)
    exact ⟨u, by simpa using h1, h2⟩
theorem FzAll.get : ∀ {vs : List V} {ds : List PyData} {i : Nat} {v : V}, FzAll K H vs ds → vs[i]? = some v → ∃ d, ds[i]? = some d ∧ Fz K H v d
  | _, _, _, _, .nil, e => by simp at e
  | _, _, 0, _, .cons r _, e => by simp at e; subst e; exact ⟨_, rfl, r⟩
  | _, _, i + 1, _, .cons _ t, e => by
    obtain ⟨u, h1, h2⟩ := FzAll.get (i := i) t (by simpa using e)
    exact ⟨u, by simpa using h1, h2⟩
theorem FzAll.append : ∀ {vs ws : List V} {ds es : List PyData}, FzAll K H vs ds → FzAll K H ws es → FzAll K H (vs ++ ws) (ds ++ es)
  | _, _, _, _, .nil, s => s
  | _, _, _, _, .cons r t, s => .cons r (FzAll.append t s)
theorem FzAll.one {v : V} {d : PyData} (h : Fz K H v d) : FzAll K H [v] [d] := .cons h .nil
theorem FzAll.take : ∀ {vs : List V} {ds : List PyData} (n : Nat), FzAll K H vs ds → FzAll K H (vs.take n) (ds.take n)
  | _, _, 0, _ => .nil
  | _, _, _ + 1, .nil => .nil
  | _, _, n + 1, .cons r t => .cons r (FzAll.take n t)
theorem FzAll.drop : ∀ {vs : List V} {ds : List PyData} (n : Nat), FzAll K H vs ds → FzAll K H (vs.drop n) (ds.drop n)
  | _, _, 0, t => t
  | _, _, _ + 1, .nil => .nil
  | _, _, n + 1, .cons _ t => FzAll.drop n t
theorem FzAll.set {v : V} {d : PyData} (h : Fz K H v d) : ∀ {vs : List V} {ds : List PyData} (n : Nat), FzAll K H vs ds → FzAll K H (vs.set n v) (ds.set n d)
  | _, _, _, .nil => .nil
  | _, _, 0, .cons _ t => .cons h t
  | _, _, n + 1, .cons r t => .cons r (FzAll.set h n t)
theorem FzAll.erase : ∀ {vs : List V} {ds : List PyData} (n : Nat), FzAll K H vs ds → FzAll K H (vs.eraseIdx n) (ds.eraseIdx n)
  | _, _, _, .nil => .nil
  | _, _, 0, .cons _ t => t
  | _, _, n + 1, .cons r t => .cons r (FzAll.erase n t)
theorem FzAll.reverse {vs : List V} {ds : List PyData} (h : FzAll K H vs ds) : FzAll K H vs.reverse ds.reverse := by
  induction vs generalizing ds with
  | nil => cases h; exact .nil
  | cons v vs ih =>
    cases h with
    | cons a b => rw [List.reverse_cons, List.reverse_cons]; exact (ih b).append (.one a)
theorem FzAll.rep {vs : List V} {ds : List PyData} (h : FzAll K H vs ds) : ∀ k : Nat, FzAll K H (List.replicate k vs).flatten (List.replicate k ds).flatten
  | 0 => .nil
  | k + 1 => by rw [List.replicate_succ, List.replicate_succ, List.flatten_cons, List.flatten_cons]; exact h.append (FzAll.rep h k)
/-- a list of ints -/
theorem FzAll.ints : ∀ {vs : List V} {ns : List Int}, FzAll K H vs (ns.map .int) → vs = ns.map .int
  | vs, [], h => by cases h; rfl
  | vs, n :: ns, h => by
    cases h with
    | cons a b => cases a; rw [FzAll.ints b]; rfl
theorem FzAll.of_ints : ∀ (ns : List Int), FzAll K H (ns.map .int) (ns.map .int)
  | [] => .nil
  | n :: ns => .cons (.int n) (FzAll.of_ints ns)
theorem FzAll.bls : ∀ {vs : List V} {ns : List Bool}, FzAll K H vs (ns.map .bool) → vs = ns.map .bl
  | vs, [], h => by cases h; rfl
  | vs, n :: ns, h => by
    cases h with
    | cons a b => cases a; rw [FzAll.bls b]; rfl
theorem FzAll.strs : ∀ {vs : List V} {ns : List Str}, FzAll K H vs (ns.map .str) → vs = ns.map .str
  | vs, [], h => by cases h; rfl
  | vs, n :: ns, h => by
    cases h with
    | cons a b => cases a; rw [FzAll.strs b]; rfl
end

/-! ### slots -/
inductive Sl where
  | un
  | d (x : PyData)
  | own (xs : List PyData)
  | owd (kvs : List (Key × PyData))
  | dk
def Sl.isOwn : Sl → Bool
  | .own _ => true
  | .owd _ => true
  | _ => false
inductive FzKV (K : PySem.W.Frag) (H : Hp) : List (Key × V) → List (Key × PyData) → Prop
  | nil : FzKV K H [] []
  | cons {k : Key} {v : V} {d : PyData} {vs : List (Key × V)} {ds : List (Key × PyData)} : Fz K H v d → FzKV K H vs ds → FzKV K H ((k, v) :: vs) ((k, d) :: ds)
theorem FzKV.mono {K : PySem.W.Frag} {H H' : Hp} (e : Ex H H') : ∀ {v : List (Key × V)} {d : List (Key × PyData)}, FzKV K H v d → FzKV K H' v d
  | _, _, .nil => .nil
  | _, _, .cons a b => .cons (Fz.mono e a) (FzKV.mono e b)

/-- the deck of draws at d, its cells at c -/
def DkOk (H : Hp) (d c : Addr) : Prop := d ≠ c ∧ ∃ (cells : List Int) (m n : Int),
  H d = some (.dK [(.inr "cells", .ref c), (.inr "mixed", .int m), (.inr "draws", .int n)]) ∧ H c = some (.lst (cells.map .int)) ∧ cells.length ≤ 63

abbrev Dk := Addr × Addr
def SlOk (K : PySem.W.Frag) (dk : Dk) (H0 H : Hp) (sv : Option (Option V)) : Sl → Prop
  | .un => True
  | .d x => ∃ v, sv = some (some v) ∧ Fz K H v x
  | .own xs => ∃ a vs, sv = some (some (.ref a)) ∧ H a = some (.lst vs) ∧ FzAll K H vs xs ∧ H0 a = none
  | .owd kvs => ∃ a ws, sv = some (some (.ref a)) ∧ H a = some (.dK ws) ∧ FzKV K H ws kvs ∧ H0 a = none
  | .dk => sv = some (some (.ref dk.1))
abbrev En := List Sl
def OwnAt (ρ : En) (σ : L2.St) (i : Nat) (a : Addr) : Prop := ∃ s, ρ[i]? = some s ∧ s.isOwn = true ∧ σ[i]? = some (some (.ref a))
structure Rel (K : PySem.W.Frag) (dk : Dk) (H0 : Hp) (ρ : En) (σ : L2.St) (H : Hp) : Prop where
  len : ρ.length = σ.length
  sl : ∀ (i : Nat) (s : Sl), ρ[i]? = some s → SlOk K dk H0 H σ[i]? s
  ap : ∀ (i j : Nat) (a : Addr), OwnAt ρ σ i a → OwnAt ρ σ j a → i = j
  dok : DkOk H dk.1 dk.2
  dk1 : H0 dk.1 ≠ none
  dk2 : H0 dk.2 ≠ none
  keep : ∀ a o, H0 a = some o → a ≠ dk.1 → a ≠ dk.2 → H a = some o
/-- what a call may do: all but the deck stays -/
structure Step (dk : Dk) (H H' : Hp) : Prop where
  keep : ∀ a o, H a = some o → a ≠ dk.1 → a ≠ dk.2 → H' a = some o
  dok : DkOk H' dk.1 dk.2
section
variable {K : PySem.W.Frag} {dk : Dk} {H0 H H' : Hp} {ρ : En} {σ : L2.St}
theorem DkOk.same (h : DkOk H dk.1 dk.2) (s : Same H H') : DkOk H' dk.1 dk.2 := by
  obtain ⟨n, cs, m, k, h1, h2, h3⟩ := h
  exact ⟨n, cs, m, k, s _ _ h1, s _ _ h2, h3⟩
theorem Step.ex (h : DkOk H dk.1 dk.2) (s : Step dk H H') : Ex H H' := by
  obtain ⟨n, cs, m, k, h1, h2, h3⟩ := h
  refine ⟨fun a xs e => s.keep a _ e ?_ ?_, fun a o u e => s.keep a _ e ?_ ?_⟩
  · rintro rfl; rw [h1] at e; cases e
  · rintro rfl; rw [h2] at e; cases e
  · rintro rfl; rw [h1] at e; cases e
  · rintro rfl; rw [h2] at e; cases e
theorem Step.of_same (h : DkOk H dk.1 dk.2) (s : Same H H') : Step dk H H' := ⟨fun a o e _ _ => s a o e, h.same s⟩
theorem same_upd {p : Addr} {o : HO} (n : H p = none) : Same H (upd H p o) := fun b u e => by rw [upd_ne (ne_of_none e n)]; exact e
theorem ex_same (s : Same H H') : Ex H H' := ⟨fun a xs e => s _ _ e, fun a o u e => s _ _ e⟩
theorem Rel.step (r : Rel K dk H0 ρ σ H) (s : Step dk H H') : Rel K dk H0 ρ σ H' := by
  have ex := s.ex r.dok
  refine ⟨r.len, fun i t e => ?_, r.ap, s.dok, r.dk1, r.dk2, fun a o e h1 h2 => s.keep a o (r.keep a o e h1 h2) h1 h2⟩
  have q := r.sl i t e
  cases t with
  | un => exact True.intro
  | d x => obtain ⟨v, h1, h2⟩ := q; exact ⟨v, h1, h2.mono ex⟩
  | own xs =>
    obtain ⟨a, vs, h1, h2, h3, h4⟩ := q
    exact ⟨a, vs, h1, s.keep _ _ h2 (fun z => r.dk1 (by rw [← z]; exact h4)) (fun z => r.dk2 (by rw [← z]; exact h4)), h3.mono ex, h4⟩
  | owd kvs =>
    obtain ⟨a, vs, h1, h2, h3, h4⟩ := q
    exact ⟨a, vs, h1, s.keep _ _ h2 (fun z => r.dk1 (by rw [← z]; exact h4)) (fun z => r.dk2 (by rw [← z]; exact h4)), h3.mono ex, h4⟩
  | dk => exact q
theorem Rel.same (r : Rel K dk H0 ρ σ H) (s : Same H H') : Rel K dk H0 ρ σ H' := r.step (.of_same r.dok s)
/-- a new object is no one's -/
theorem Rel.fresh0 (r : Rel K dk H0 ρ σ H) {p : Addr} (n : H p = none) : H0 p = none := by
  cases q : H0 p with
  | none => rfl
  | some o =>
    exfalso
    obtain ⟨ne, cs, m, k, h1, h2, h3⟩ := r.dok
    by_cases e1 : p = dk.1
    · rw [e1, h1] at n; cases n
    · by_cases e2 : p = dk.2
      · rw [e2, h2] at n; cases n
      · rw [r.keep p o q e1 e2] at n; cases n
theorem Rel.freshOwn (r : Rel K dk H0 ρ σ H) {p : Addr} (n : H p = none) : ∀ j, ¬ OwnAt ρ σ j p := by
  rintro j ⟨s, h1, h2, h3⟩
  have q := r.sl j s h1
  cases s with
  | own xs => obtain ⟨a, vs, e1, e2, _⟩ := q; rw [h3] at e1; cases e1; rw [n] at e2; cases e2
  | owd xs => obtain ⟨a, vs, e1, e2, _⟩ := q; rw [h3] at e1; cases e1; rw [n] at e2; cases e2
  | _ => cases h2
theorem SlOk.ex {s : Sl} {sv : Option (Option V)} (ex : Ex H H') (h : SlOk K dk H0 H sv s) (k : ∀ a o, s.isOwn = true → sv = some (some (.ref a)) → H a = some o → H' a = some o) : SlOk K dk H0 H' sv s := by
  cases s with
  | un => exact True.intro
  | d x => obtain ⟨v, h1, h2⟩ := h; exact ⟨v, h1, h2.mono ex⟩
  | own xs => obtain ⟨a, vs, h1, h2, h3, h4⟩ := h; exact ⟨a, vs, h1, k a _ rfl h1 h2, h3.mono ex, h4⟩
  | owd xs => obtain ⟨a, vs, h1, h2, h3, h4⟩ := h; exact ⟨a, vs, h1, k a _ rfl h1 h2, h3.mono ex, h4⟩
  | dk => exact h
theorem ex_own {a : Addr} {o u : HO} (h : H a = some u) (hu : (∃ vs, u = .lst vs) ∨ ∃ vs, u = .dK vs) : Ex H (upd H a o) := by
  refine ⟨fun b xs e => ?_, fun b ob x e => ?_⟩
  · rw [upd_ne]; exact e
    rintro rfl; rw [h] at e
    rcases hu with ⟨vs, rfl⟩ | ⟨vs, rfl⟩ <;> cases e
  · rw [upd_ne]; exact e
    rintro rfl; rw [h] at e
    rcases hu with ⟨vs, rfl⟩ | ⟨vs, rfl⟩ <;> cases e
/-- the owned thing of slot i is changed in place -/
theorem Rel.put (r : Rel K dk H0 ρ σ H) {i : Nat} {a : Addr} (ow : OwnAt ρ σ i a) (o : HO) (s' : Sl) (ok : Ex H (upd H a o) → SlOk K dk H0 (upd H a o) σ[i]? s') :
    Rel K dk H0 (ρ.set i s') σ (upd H a o) ∧ Ex H (upd H a o) := by
  obtain ⟨s, h1, h2, h3⟩ := id ow
  have q := r.sl i s h1
  have hh : (∃ u, H a = some u ∧ ((∃ vs, u = .lst vs) ∨ ∃ vs, u = .dK vs)) ∧ H0 a = none := by
    cases s with
    | own xs => obtain ⟨b, vs, e1, e2, e3, e4⟩ := q; rw [h3] at e1; cases e1; exact ⟨⟨_, e2, .inl ⟨_, rfl⟩⟩, e4⟩
    | owd xs => obtain ⟨b, vs, e1, e2, e3, e4⟩ := q; rw [h3] at e1; cases e1; exact ⟨⟨_, e2, .inr ⟨_, rfl⟩⟩, e4⟩
    | _ => cases h2
  obtain ⟨⟨u, hu, hc⟩, h0⟩ := hh
  have ex : Ex H (upd H a o) := ex_own hu hc
  have il : i < ρ.length := (List.getElem?_eq_some_iff.mp h1).1
  refine ⟨⟨by rw [List.length_set]; exact r.len, fun j t e => ?_, fun j k b h4 h5 => ?_, ?_, r.dk1, r.dk2, fun b ob e n1 n2 => ?_⟩, ex⟩
  · by_cases hj : i = j
    · subst hj
      rw [List.getElem?_set_self il] at e
      cases e
      exact ok ex
    · rw [List.getElem?_set_ne hj] at e
      refine (r.sl j t e).ex ex fun b ob w1 w2 w3 => ?_
      rw [upd_ne]; exact w3
      rintro rfl
      exact hj (r.ap i j _ ow ⟨t, e, w1, w2⟩)
  · have back : ∀ {j b}, OwnAt (ρ.set i s') σ j b → OwnAt ρ σ j b := by
      rintro j b ⟨t, e, w1, w2⟩
      by_cases hj : i = j
      · subst hj
        rw [h3] at w2; cases w2
        exact ow
      · rw [List.getElem?_set_ne hj] at e
        exact ⟨t, e, w1, w2⟩
    exact r.ap j k b (back h4) (back h5)
  · obtain ⟨n, cs, m, k, g1, g2, g3⟩ := r.dok
    refine ⟨n, cs, m, k, ?_, ?_, g3⟩
    · rw [upd_ne]; exact g1
      intro z; exact r.dk1 (by rw [z]; exact h0)
    · rw [upd_ne]; exact g2
      intro z; exact r.dk2 (by rw [z]; exact h0)
  · rw [upd_ne]; exact r.keep b ob e n1 n2
    rintro rfl; rw [h0] at e; cases e
/-- a value is stored -/
theorem Rel.set (r : Rel K dk H0 ρ σ H) {i : Nat} {v : V} {s : Sl} (ok : SlOk K dk H0 H (some (some v)) s) (ap : ∀ a, s.isOwn = true → v = .ref a → ∀ j, ¬ OwnAt ρ σ j a) :
    Rel K dk H0 (ρ.set i s) (σ.set i (some v)) H := by
  refine ⟨by rw [List.length_set, List.length_set]; exact r.len, fun j t e => ?_, fun j k b h4 h5 => ?_, r.dok, r.dk1, r.dk2, r.keep⟩
  · by_cases hj : i = j
    · subst hj
      have il : i < (ρ.set i s).length := (List.getElem?_eq_some_iff.mp e).1
      rw [List.length_set] at il
      rw [List.getElem?_set_self il] at e
      cases e
      rw [List.getElem?_set_self (by rw [← r.len]; exact il)]
      exact ok
    · rw [List.getElem?_set_ne hj] at e
      rw [List.getElem?_set_ne hj]
      exact r.sl j t e
  · have cas : ∀ {j b}, OwnAt (ρ.set i s) (σ.set i (some v)) j b → (j = i ∧ s.isOwn = true ∧ v = .ref b) ∨ (j ≠ i ∧ OwnAt ρ σ j b) := by
      rintro j b ⟨t, e, w1, w2⟩
      by_cases hj : i = j
      · subst hj
        have il : i < (ρ.set i s).length := (List.getElem?_eq_some_iff.mp e).1
        rw [List.length_set] at il
        rw [List.getElem?_set_self il] at e
        rw [List.getElem?_set_self (by rw [← r.len]; exact il)] at w2
        cases e
        exact .inl ⟨rfl, w1, Option.some.inj (Option.some.inj w2)⟩
      · rw [List.getElem?_set_ne hj] at e w2
        exact .inr ⟨fun z => hj z.symm, t, e, w1, w2⟩
    rcases cas h4 with ⟨e1, e2, e3⟩ | ⟨e1, e2⟩
    · rcases cas h5 with ⟨f1, f2, f3⟩ | ⟨f1, f2⟩
      · rw [e1, f1]
      · exact absurd f2 (ap b e2 e3 k)
    · rcases cas h5 with ⟨f1, f2, f3⟩ | ⟨f1, f2⟩
      · exact absurd e2 (ap b f2 f3 j)
      · exact r.ap j k b e2 f2
end

/-! ### judgements -/
abbrev TQ := En → (PyData → En → Prop) → Prop
abbrev TQB := En → (Bool → En → Prop) → Prop
abbrev TQL := En → (List PyData → En → Prop) → Prop
def up (K : PySem.W.Frag) (dk : Dk) (H0 : Hp) (t : TQ) : TE := fun σ H Q => ∃ ρ R, Rel K dk H0 ρ σ H ∧ t ρ R ∧ ∀ x ρ' v H', R x ρ' → Fz K H' v x → Rel K dk H0 ρ' σ H' → Ex H H' → Q v H'
def upB (K : PySem.W.Frag) (dk : Dk) (H0 : Hp) (t : TQB) : TT := fun σ H Q => ∃ ρ R, Rel K dk H0 ρ σ H ∧ t ρ R ∧ ∀ b ρ' H', R b ρ' → Rel K dk H0 ρ' σ H' → Ex H H' → Q b H'
def upL (K : PySem.W.Frag) (dk : Dk) (H0 : Hp) (t : TQL) : TE := fun σ H Q => ∃ ρ R, Rel K dk H0 ρ σ H ∧ t ρ R ∧ ∀ xs ρ' p vs H', R xs ρ' → H' p = some (.lst vs) → FzAll K H' vs xs → H0 p = none → (∀ j, ¬ OwnAt ρ' σ j p) → Rel K dk H0 ρ' σ H' → Ex H H' → Q (.ref p) H'
/-- an argument list: data, or the deck -/
inductive Ar where
  | d (x : PyData)
  | dk
def ArOk (K : PySem.W.Frag) (dk : Dk) (H : Hp) (v : V) : Ar → Prop
  | .d x => Fz K H v x
  | .dk => v = .ref dk.1
inductive ArsOk (K : PySem.W.Frag) (dk : Dk) (H : Hp) : List V → List Ar → Prop
  | nil : ArsOk K dk H [] []
  | cons {v : V} {a : Ar} {vs : List V} {as : List Ar} : ArOk K dk H v a → ArsOk K dk H vs as → ArsOk K dk H (v :: vs) (a :: as)
abbrev TQA := En → (List Ar → En → Prop) → Prop
def upA (K : PySem.W.Frag) (dk : Dk) (H0 : Hp) (t : TQA) : TA := fun σ H Q => ∃ ρ R, Rel K dk H0 ρ σ H ∧ t ρ R ∧ ∀ xs ρ' vs H', R xs ρ' → ArsOk K dk H' vs xs → Rel K dk H0 ρ' σ H' → Ex H H' → Q vs H'
theorem ArsOk.mono {K : PySem.W.Frag} {dk : Dk} {H H' : Hp} (e : Ex H H') : ∀ {vs : List V} {as : List Ar}, ArsOk K dk H vs as → ArsOk K dk H' vs as
  | _, _, .nil => .nil
  | _, a :: as, .cons h t => .cons (by cases a with | d x => exact Fz.mono e h | dk => exact h) (ArsOk.mono e t)
theorem ArsOk.length {K : PySem.W.Frag} {dk : Dk} {H : Hp} : ∀ {vs : List V} {as : List Ar}, ArsOk K dk H vs as → vs.length = as.length
  | _, _, .nil => rfl
  | _, _, .cons _ t => by rw [List.length_cons, List.length_cons, ArsOk.length t]
structure EndsQ where
  nx : En → Prop
  rt : PyData → Prop
  bk : En → Prop := fun _ => False
  ct : En → Prop := fun _ => False
abbrev TQS := EndsQ → En → Prop
structure EndsOk (K : PySem.W.Frag) (dk : Dk) (H0 H : Hp) (R : EndsQ) (D : Ends) : Prop where
  nx : ∀ ρ' σ' H', R.nx ρ' → Rel K dk H0 ρ' σ' H' → Ex H H' → D.nx σ' H'
  rt : ∀ x v H', R.rt x → Fz K H' v x → Step dk H0 H' → D.rt v H'
  bk : ∀ ρ' σ' H', R.bk ρ' → Rel K dk H0 ρ' σ' H' → Ex H H' → D.bk σ' H'
  ct : ∀ ρ' σ' H', R.ct ρ' → Rel K dk H0 ρ' σ' H' → Ex H H' → D.ct σ' H'
def upS (K : PySem.W.Frag) (dk : Dk) (H0 : Hp) (t : TQS) : TS := fun D σ H => ∃ ρ R, Rel K dk H0 ρ σ H ∧ t R ρ ∧ EndsOk K dk H0 H R D
structure QE (X : Cx) (e : Expr) (t : TQ) : Prop where
  run : ∀ dk H0, PE X e (up X.K dk H0 t)
structure QL (X : Cx) (e : Expr) (t : TQL) : Prop where
  run : ∀ dk H0, PE X e (upL X.K dk H0 t)
structure QT (X : Cx) (e : Expr) (t : TQB) : Prop where
  run : ∀ dk H0, PT X e (upB X.K dk H0 t)
structure QW (X : Cx) (e : Expr) (t : TQB) : Prop where
  run : ∀ dk H0, PW X e (upB X.K dk H0 t)
structure QA (X : Cx) (es : List Expr) (t : TQA) : Prop where
  run : ∀ dk H0, PA X es (upA X.K dk H0 t)
structure QS (X : Cx) (st : Stmt) (t : TQS) : Prop where
  run : ∀ dk H0, PS X st (upS X.K dk H0 t)
structure QSs (X : Cx) (st : List Stmt) (t : TQS) : Prop where
  run : ∀ dk H0, PSs X st (upS X.K dk H0 t)
/-- weaker readings -/
theorem PE.imp {X : Cx} {e : Expr} {t t' : TE} (h : PE X e t) (w : ∀ σ H Q, t' σ H Q → t σ H Q) : PE X e t' := ⟨fun pins s σ H Q I q => h.run pins s σ H Q I (w _ _ _ q)⟩
theorem PT.imp {X : Cx} {e : Expr} {t t' : TT} (h : PT X e t) (w : ∀ σ H Q, t' σ H Q → t σ H Q) : PT X e t' := ⟨fun pins s σ H Q I q => h.run pins s σ H Q I (w _ _ _ q)⟩
theorem PW.imp {X : Cx} {e : Expr} {t t' : TT} (h : PW X e t) (w : ∀ σ H Q, t' σ H Q → t σ H Q) : PW X e t' := ⟨fun wh pins s σ H Q I q => h.run wh pins s σ H Q I (w _ _ _ q)⟩
theorem PA.imp {X : Cx} {e : List Expr} {t t' : TA} (h : PA X e t) (w : ∀ σ H Q, t' σ H Q → t σ H Q) : PA X e t' := ⟨fun pos pins s σ H Q I q => h.run pos pins s σ H Q I (w _ _ _ q)⟩
theorem PS.imp {X : Cx} {e : Stmt} {t t' : TS} (h : PS X e t) (w : ∀ D σ H, t' D σ H → t D σ H) : PS X e t' := ⟨fun pins s σ H Q I q => h.run pins s σ H Q I (w _ _ _ q)⟩
theorem PSs.imp {X : Cx} {e : List Stmt} {t t' : TS} (h : PSs X e t) (w : ∀ D σ H, t' D σ H → t D σ H) : PSs X e t' := ⟨fun pins s σ H Q I q => h.run pins s σ H Q I (w _ _ _ q)⟩
end Q
end P1
section P2
namespace Q
open PySem PySem.Spec PyProof.Rows L2
section
variable {X : Cx} {pos : Pos}

/-! ### names, constants -/
def tV (i : Nat) : TQ := fun ρ R => match ρ[i]? with
  | some (.d x) => R x ρ
  | some (.own xs) => R (.list xs) (ρ.set i (.d (.list xs)))
  | _ => False
theorem q_var {i : Nat} {x : Str} (hN : X.N[i]? = some x) (hv : Vis X.env.scope x) (hd : (x == ("__debug__" : Str)) = false := by decide) (hcd : (x == ("__classdict__" : Str)) = false := by decide) : QE X (.Name x pos) (tV i) := by
  refine ⟨fun dk H0 => ⟨fun pins s σ H Q I h => ?_⟩⟩
  obtain ⟨ρ, R, r, h, k⟩ := h
  unfold tV at h
  split at h
  · rename_i y e
    obtain ⟨v, h1, h2⟩ := r.sl i _ e
    exact (pe_var (X := X) (pos := pos) hN hv hd hcd).run pins s σ H Q I ⟨v, h1, k y ρ v H h h2 r (Ex.refl H)⟩
  · rename_i xs e
    obtain ⟨a, vs, h1, h2, h3, h4⟩ := r.sl i _ e
    obtain ⟨od, I1⟩ := I.lock h2 True.intro
    have ow : OwnAt ρ σ i a := ⟨_, e, rfl, h1⟩
    obtain ⟨r1, ex⟩ := r.put ow (.frz od (.lst vs)) (.d (.list xs)) fun ex => ⟨.ref a, h1, .lst upd_same (h3.mono ex)⟩
    exact (pe_var (X := X) (pos := pos) hN hv hd hcd).run pins s σ _ Q I1 ⟨.ref a, h1, k _ _ _ _ h (.lst upd_same (h3.mono ex)) r1 ex⟩
  · exact h.elim
theorem qv (i : Nat) {x : Str} (hN : X.N[i]? = some x := by rfl) (hv : Vis X.env.scope x := by first | exact Or.inl rfl | exact Or.inr (Or.inl rfl) | exact Or.inr (Or.inr rfl)) (hd : (x == ("__debug__" : Str)) = false := by decide)
    (hcd : (x == ("__classdict__" : Str)) = false := by decide) : QE X (.Name x pos) (tV i) := q_var hN hv hd hcd
def tK (x : PyData) : TQ := fun ρ R => R x ρ
theorem q_const {e : Expr} {v : V} {x : PyData} (h : PE X e (tC v)) (f : ∀ H, Fz X.K H v x) : QE X e (tK x) := ⟨fun dk H0 => PE.imp h fun σ H Q ⟨ρ, R, r, h, k⟩ => k x ρ v H h (f H) r (Ex.refl H)⟩
theorem q_int {i : Int} {j} : QE X (.Constant (.int i) j pos) (tK (.int i)) := q_const pe_int fun _ => .int i
theorem q_bl {b : Bool} {j} : QE X (.Constant (.bool b) j pos) (tK (.bool b)) := q_const pe_bl fun _ => .bl b
theorem q_non {j} : QE X (.Constant .none j pos) (tK .none) := q_const pe_non fun _ => .non
theorem q_str {x : Str} {j} : QE X (.Constant (.str x) j pos) (tK (.str x)) := q_const pe_str fun _ => .str x
theorem q_glob {x : Str} {v : V} {u : Value} {d : PyData} (hg : Gl X x) (hm : X.mg x = some u) (r : RelV v u) (f : ∀ H, Fz X.K H v d) (hd : (x == ("__debug__" : Str)) = false := by decide) : QE X (.Name x pos) (tK d) :=
  q_const (pe_glob hg hm r hd) f

/-! ### operators -/
abbrev C2 := PyData → PyData → (PyData → Prop) → Prop
abbrev C1 := PyData → (PyData → Prop) → Prop
abbrev Br2 (K : PySem.W.Frag) (r : R2) (C : C2) : Prop := ∀ x y v u H Q R, Fz K H v x → Fz K H u y → C x y R → (∀ z w H', R z → Fz K H' w z → Same H H' → Q w H') → r v u H Q
def t2 (C : C2) (ta tb : TQ) : TQ := fun ρ R => ta ρ fun x ρ1 => tb ρ1 fun y ρ2 => C x y fun z => R z ρ2
variable {a b c e : Expr} {ta tb tc t : TQ}
theorem up_op {K : PySem.W.Frag} {r : R2} {C : C2} {dk : Dk} {H0 : Hp} (br : Br2 K r C) (σ : L2.St) (H : Hp) (Q : VK) (h : up K dk H0 (t2 C ta tb) σ H Q) : tOp r (up K dk H0 ta) (up K dk H0 tb) σ H Q := by
  obtain ⟨ρ, R, rel, h, k⟩ := h
  exact ⟨ρ, _, rel, h, fun x ρ1 v H1 hx fz rel1 ex1 => ⟨ρ1, _, rel1, hx, fun y ρ2 u H2 hy fz2 rel2 ex2 => br x y v u H2 Q _ (fz.mono ex2) fz2 hy fun z w H' hz fz' sm => k z ρ2 w H' hz fz' (rel2.same sm) (ex1.trans (ex2.trans (ex_same sm)))⟩⟩
theorem q_op {op : Operator} {r : R2} {C : C2} (ho : OpR X (binaryOp op) r) (br : Br2 X.K r C) (ha : QE X a ta) (hb : QE X b tb) : QE X (.BinOp a op b pos) (t2 C ta tb) :=
  ⟨fun dk H0 => PE.imp (pe_op ho (ha.run dk H0) (hb.run dk H0)) (up_op br)⟩
theorem q_cmpR {op : CmpOp} {r : R2} {C : C2} (ho : OpR X (compareOp op) r) (br : Br2 X.K r C) (ha : QE X a ta) (hb : QE X b tb) (hm : behindInMarks op b = false) : QE X (.Compare a [op] [b] pos) (t2 C ta tb) :=
  ⟨fun dk H0 => PE.imp (pe_cmpR ho (ha.run dk H0) (hb.run dk H0) hm) (up_op br)⟩
def tB (t : TQ) : TQB := fun ρ R => t ρ fun x ρ' => match x with | .bool b => R b ρ' | _ => False
theorem up_tst {K : PySem.W.Frag} {dk : Dk} {H0 : Hp} {te : TE} (w : ∀ σ H Q, up K dk H0 t σ H Q → te σ H Q) (σ : L2.St) (H : Hp) (Q : Bool → Hp → Prop) (h : upB K dk H0 (tB t) σ H Q) : te σ H fun x H' => ∃ k, x = .bl k ∧ Q k H' := by
  obtain ⟨ρ, R, rel, h, k⟩ := h
  refine w σ H _ ⟨ρ, _, rel, h, fun x ρ1 v H1 hx fz rel1 ex1 => ?_⟩
  cases x with
  | bool b => cases fz; exact ⟨b, rfl, k b ρ1 H1 hx rel1 ex1⟩
  | _ => exact False.elim hx
theorem q_tcmpR {op : CmpOp} {r : R2} {C : C2} (ho : OpR X (compareOp op) r) (br : Br2 X.K r C) (ha : QE X a ta) (hb : QE X b tb) (hm : behindInMarks op b = false) : QT X (.Compare a [op] [b] pos) (tB (t2 C ta tb)) :=
  ⟨fun dk H0 => PT.imp (pt_cmpR ho (ha.run dk H0) (hb.run dk H0) hm) (up_tst (up_op br))⟩
theorem q_tst {e : Expr} (h : QE X e t) (he : ∀ whole, isTrue e X.env whole = (do let v ← whole; standAt e.pos; holding [v] (truthy v)) := by intro _; rfl) : QT X e (tB t) :=
  ⟨fun dk H0 => PT.imp (pt_val (h.run dk H0) he) (up_tst fun _ _ _ q => q)⟩

/-- whole numbers -/
def cI (g : Int → Int → PyData) : C2 := fun x y R => match x, y with
  | .int i, .int j => R (g i j)
  | _, _ => False
def cIp (C : Int → Int → Prop) (g : Int → Int → PyData) : C2 := fun x y R => match x, y with
  | .int i, .int j => C i j ∧ R (g i j)
  | _, _ => False
theorem br_I0 {K : PySem.W.Frag} {gV : Int → Int → V} {g : Int → Int → PyData} (hg : ∀ i j H, Fz K H (gV i j) (g i j)) : Br2 K (rI0 gV) (cI g) := by
  intro x y v u H Q R h1 h2 c k
  cases h1 <;> cases h2 <;> first | exact c.elim | exact ⟨_, _, rfl, rfl, k _ _ H c (hg _ _ H) (Same.refl H)⟩
theorem br_I {K : PySem.W.Frag} {C : Int → Int → Prop} {gV : Int → Int → V} {g : Int → Int → PyData} (hg : ∀ i j H, Fz K H (gV i j) (g i j)) : Br2 K (rI C gV) (cIp C g) := by
  intro x y v u H Q R h1 h2 c k
  cases h1 <;> cases h2 <;> first | exact c.elim | exact ⟨_, _, rfl, rfl, c.1, k _ _ H c.2 (hg _ _ H) (Same.refl H)⟩
def addI := cI fun i j => .int (i + j)
def subI := cI fun i j => .int (i - j)
def mulI := cIp CMul fun i j => .int (i * j)
def fdivI := cIp CDiv fun i j => .int (i / j)
def modI := cIp (fun _ j => 0 < j) fun i j => .int (i % j)
def powI := cIp CPow fun i j => .int (i ^ j.toNat)
def ltI := cI fun i j => .bool (decide (i < j))
def leI := cI fun i j => .bool (decide (i ≤ j))
def gtI := cI fun i j => .bool (decide (j < i))
def geI := cI fun i j => .bool (decide (j ≤ i))
theorem q_sub (ha : QE X a ta) (hb : QE X b tb) : QE X (.BinOp a .Sub b pos) (t2 subI ta tb) := q_op op_sub (br_I0 fun _ _ _ => .int _) ha hb
theorem q_mulI (ha : QE X a ta) (hb : QE X b tb) : QE X (.BinOp a .Mult b pos) (t2 mulI ta tb) := q_op op_mul (br_I fun _ _ _ => .int _) ha hb
theorem q_fdiv (ha : QE X a ta) (hb : QE X b tb) : QE X (.BinOp a .FloorDiv b pos) (t2 fdivI ta tb) := q_op op_fdiv (br_I fun _ _ _ => .int _) ha hb
theorem q_mod (ha : QE X a ta) (hb : QE X b tb) : QE X (.BinOp a .Mod b pos) (t2 modI ta tb) := q_op op_mod (br_I fun _ _ _ => .int _) ha hb
theorem q_pow (ha : QE X a ta) (hb : QE X b tb) : QE X (.BinOp a .Pow b pos) (t2 powI ta tb) := q_op op_pow (br_I fun _ _ _ => .int _) ha hb
/-- a + b: whole numbers, texts, tuples -/
def addD : C2 := fun x y R => match x, y with
  | .int i, .int j => R (.int (i + j))
  | .str i, .str j => i.length + j.length ≤ sizeLine ∧ R (.str (i ++ j))
  | .tuple xs, .tuple ys => xs.length + ys.length ≤ sizeLine ∧ R (.tuple (xs ++ ys))
  | _, _ => False
theorem br_add : Br2 X.K (fun x y H Q => (∃ i j, x = .int i ∧ y = .int j ∧ Q (.int (i + j)) H) ∨ (∃ i j, x = .str i ∧ y = .str j ∧ i.length + j.length ≤ sizeLine ∧ Q (.str (i ++ j)) H) ∨ rCatA X.K x y H Q) addD := by
  intro x y v u H Q R h1 h2 c k
  cases h1 with
  | int i => cases h2 <;> first | exact c.elim | exact .inl ⟨_, _, rfl, rfl, k _ _ H c (.int _) (Same.refl H)⟩
  | str i => cases h2 <;> first | exact c.elim | exact .inr (.inl ⟨_, _, rfl, rfl, c.1, k _ _ H c.2 (.str _) (Same.refl H)⟩)
  | @tup a0 xs ds q t =>
    cases h2 with
    | @tup b0 ys es q2 t2 =>
      have l1 := t.length
      have l2 := t2.length
      refine .inr (.inr ⟨a0, b0, xs, ys, rfl, rfl, q, q2, by rw [l1, l2]; exact c.1, fun e => ?_, fun _ e => ?_, fun _ _ p hp => ?_⟩)
      · subst e
        have e' : ds = [] := List.eq_nil_of_length_eq_zero (by rw [← l1]; rfl)
        subst e'
        exact k _ _ H c.2 (.tup q2 t2) (Same.refl H)
      · subst e
        have e' : es = [] := List.eq_nil_of_length_eq_zero (by rw [← l2]; rfl)
        subst e'
        refine k _ _ H c.2 ?_ (Same.refl H)
        rw [List.append_nil]
        exact .tup q t
      · have sm := same_upd (H := H) (p := p) (o := .tup (xs ++ ys)) hp
        exact k _ _ _ c.2 (.tup (.inl (.inl upd_same)) ((t.append t2).mono (ex_same sm))) sm
    | _ => exact c.elim
  | _ => cases h2 <;> exact c.elim
theorem q_add (ha : QE X a ta) (hb : QE X b tb) : QE X (.BinOp a .Add b pos) (t2 addD ta tb) :=
  q_op (((op_add.or (op_add_str.or op_catA)))) br_add ha hb
/-- comparisons -/
theorem q_lt (ha : QE X a ta) (hb : QE X b tb) : QE X (.Compare a [.Lt] [b] pos) (t2 ltI ta tb) := q_cmpR op_lt (br_I0 fun _ _ _ => .bl _) ha hb (nomark _)
theorem q_le (ha : QE X a ta) (hb : QE X b tb) : QE X (.Compare a [.LtE] [b] pos) (t2 leI ta tb) := q_cmpR op_le (br_I0 fun _ _ _ => .bl _) ha hb (nomark _)
theorem q_gt (ha : QE X a ta) (hb : QE X b tb) : QE X (.Compare a [.Gt] [b] pos) (t2 gtI ta tb) := q_cmpR op_gt (br_I0 fun _ _ _ => .bl _) ha hb (nomark _)
theorem q_ge (ha : QE X a ta) (hb : QE X b tb) : QE X (.Compare a [.GtE] [b] pos) (t2 geI ta tb) := q_cmpR op_ge (br_I0 fun _ _ _ => .bl _) ha hb (nomark _)
theorem q_tlt (ha : QE X a ta) (hb : QE X b tb) : QT X (.Compare a [.Lt] [b] pos) (tB (t2 ltI ta tb)) := q_tcmpR op_lt (br_I0 fun _ _ _ => .bl _) ha hb (nomark _)
theorem q_tle (ha : QE X a ta) (hb : QE X b tb) : QT X (.Compare a [.LtE] [b] pos) (tB (t2 leI ta tb)) := q_tcmpR op_le (br_I0 fun _ _ _ => .bl _) ha hb (nomark _)
theorem q_tgt (ha : QE X a ta) (hb : QE X b tb) : QT X (.Compare a [.Gt] [b] pos) (tB (t2 gtI ta tb)) := q_tcmpR op_gt (br_I0 fun _ _ _ => .bl _) ha hb (nomark _)
theorem q_tge (ha : QE X a ta) (hb : QE X b tb) : QT X (.Compare a [.GtE] [b] pos) (tB (t2 geI ta tb)) := q_tcmpR op_ge (br_I0 fun _ _ _ => .bl _) ha hb (nomark _)
/-- == and != of data -/
def eqD : C2 := fun x y R => SeqAt.shaped x = true ∧ SeqAt.shaped y = true ∧ R (.bool (PyData.eqv x y))
def neD : C2 := fun x y R => SeqAt.shaped x = true ∧ SeqAt.shaped y = true ∧ R (.bool (!PyData.eqv x y))
theorem br_eq {K : PySem.W.Frag} : Br2 K (rEqD K) eqD := fun x y v u H Q R h1 h2 c k => ⟨x, y, h1.dp, h2.dp, c.1, c.2.1, k _ _ H c.2.2 (.bl _) (Same.refl H)⟩
theorem br_ne {K : PySem.W.Frag} : Br2 K (rNeD K) neD := fun x y v u H Q R h1 h2 c k => ⟨x, y, h1.dp, h2.dp, c.1, c.2.1, k _ _ H c.2.2 (.bl _) (Same.refl H)⟩
theorem q_eq (hu : X.A.units + 64 < cLine) (ha : QE X a ta) (hb : QE X b tb) : QE X (.Compare a [.Eq] [b] pos) (t2 eqD ta tb) := q_cmpR (op_eqD hu) br_eq ha hb (nomark _)
theorem q_ne (hu : X.A.units + 64 < cLine) (ha : QE X a ta) (hb : QE X b tb) : QE X (.Compare a [.NotEq] [b] pos) (t2 neD ta tb) := q_cmpR (op_neD hu) br_ne ha hb (nomark _)
theorem q_teq (hu : X.A.units + 64 < cLine) (ha : QE X a ta) (hb : QE X b tb) : QT X (.Compare a [.Eq] [b] pos) (tB (t2 eqD ta tb)) := q_tcmpR (op_eqD hu) br_eq ha hb (nomark _)
theorem q_tne (hu : X.A.units + 64 < cLine) (ha : QE X a ta) (hb : QE X b tb) : QT X (.Compare a [.NotEq] [b] pos) (tB (t2 neD ta tb)) := q_tcmpR (op_neD hu) br_ne ha hb (nomark _)
/-- in, not in: flat items -/
def flatD : PyData → Bool
  | .none => true
  | .bool _ => true
  | .int _ => true
  | .str _ => true
  | _ => false
theorem flat_V {K : PySem.W.Frag} {H : Hp} {v : V} {x : PyData} (h : Fz K H v x) (f : flatD x = true) : flatV v = true := by
  cases h <;> first | rfl | cases f
theorem flat_all {K : PySem.W.Frag} {H : Hp} : ∀ {vs : List V} {xs : List PyData}, FzAll K H vs xs → xs.all flatD = true → vs.all flatV = true
  | _, _, .nil, _ => rfl
  | _, _, .cons h t, f => by
    rw [List.all_cons, Bool.and_eq_true] at f
    rw [List.all_cons, flat_V h f.1, flat_all t f.2]; rfl
theorem eqV_D {K : PySem.W.Frag} {H : Hp} {v u : V} {x y : PyData} (h : Fz K H v x) (h' : Fz K H u y) (f : flatD x = true) (f' : flatD y = true) : eqV v u = PyData.eqv x y := by
  cases h <;> cases h' <;> first | cases f | cases f' | (simp only [eqV, PyData.eqv]; done) | skip
  all_goals simp only [eqV, PyData.eqv]
  all_goals first | rfl | (rename_i p q; cases p <;> simp) | skip
theorem inV_D {K : PySem.W.Frag} {H : Hp} {v : V} {x : PyData} (h : Fz K H v x) (f : flatD x = true) : ∀ {us : List V} {ys : List PyData}, FzAll K H us ys → ys.all flatD = true → inV v us = ys.any fun z => PyData.eqv z x
  | _, _, .nil, _ => rfl
  | _, _, .cons g t, fs => by
    rw [List.all_cons, Bool.and_eq_true] at fs
    have ih := inV_D h f t fs.2
    unfold inV at ih ⊢
    rw [List.any_cons, List.any_cons, ih, eqV_D g h fs.1 f]
def inD (neg : Bool) : C2 := fun x y R => match y with
  | .list ds => flatD x = true ∧ ds.all flatD = true ∧ R (.bool (if neg then !(ds.any fun z => PyData.eqv z x) else ds.any fun z => PyData.eqv z x))
  | .tuple ds => flatD x = true ∧ ds.all flatD = true ∧ R (.bool (if neg then !(ds.any fun z => PyData.eqv z x) else ds.any fun z => PyData.eqv z x))
  | _ => False
theorem br_in {K : PySem.W.Frag} {neg : Bool} : Br2 K (rIn K neg) (inD neg) := by
  intro x y v u H Q R h1 h2 c k
  cases h2 with
  | lst q t =>
    obtain ⟨c1, c2, c3⟩ := c
    refine ⟨_, _, rfl, .inl (.inl (.inr ⟨_, q⟩)), flat_V h1 c1, flat_all t c2, ?_⟩
    rw [inV_D h1 c1 t c2]
    exact k _ _ H c3 (.bl _) (Same.refl H)
  | tup q t =>
    obtain ⟨c1, c2, c3⟩ := c
    refine ⟨_, _, rfl, .inr q, flat_V h1 c1, flat_all t c2, ?_⟩
    rw [inV_D h1 c1 t c2]
    exact k _ _ H c3 (.bl _) (Same.refl H)
  | _ => exact c.elim
theorem q_in (ha : QE X a ta) (hb : QE X b tb) (hm : behindInMarks .In b = false := by rfl) : QE X (.Compare a [.In] [b] pos) (t2 (inD false) ta tb) := q_cmpR op_in_seq br_in ha hb hm
theorem q_nin (ha : QE X a ta) (hb : QE X b tb) (hm : behindInMarks .NotIn b = false := by rfl) : QE X (.Compare a [.NotIn] [b] pos) (t2 (inD true) ta tb) := q_cmpR op_notIn_seq br_in ha hb hm
theorem q_tin (ha : QE X a ta) (hb : QE X b tb) (hm : behindInMarks .In b = false := by rfl) : QT X (.Compare a [.In] [b] pos) (tB (t2 (inD false) ta tb)) := q_tcmpR op_in_seq br_in ha hb hm
theorem q_tnin (ha : QE X a ta) (hb : QE X b tb) (hm : behindInMarks .NotIn b = false := by rfl) : QT X (.Compare a [.NotIn] [b] pos) (tB (t2 (inD true) ta tb)) := q_tcmpR op_notIn_seq br_in ha hb hm
/-- is True, is False, is not ..: a bool on the left -/
def isB (neg : Bool) : C2 := fun x y R => match x, y with
  | .bool p, .bool q => R (.bool (if neg then !decide (p = q) else decide (p = q)))
  | _, _ => False
theorem br_is : Br2 X.K rIsB (isB false) := by
  intro x y v u H Q R h1 h2 c k
  cases h1 <;> cases h2 <;> first | exact c.elim | exact ⟨_, _, rfl, rfl, k _ _ H c (.bl _) (Same.refl H)⟩
theorem br_isn : Br2 X.K rNotB (isB true) := by
  intro x y v u H Q R h1 h2 c k
  cases h1 <;> cases h2 <;> first | exact c.elim | exact ⟨_, _, rfl, rfl, k _ _ H c (.bl _) (Same.refl H)⟩
theorem q_isB (ha : QE X a ta) (hb : QE X b tb) : QE X (.Compare a [.Is] [b] pos) (t2 (isB false) ta tb) := q_cmpR op_isBl br_is ha hb (nomark _)
theorem q_isnB (ha : QE X a ta) (hb : QE X b tb) : QE X (.Compare a [.IsNot] [b] pos) (t2 (isB true) ta tb) := q_cmpR op_notBl br_isn ha hb (nomark _)
theorem q_tisB (ha : QE X a ta) (hb : QE X b tb) : QT X (.Compare a [.Is] [b] pos) (tB (t2 (isB false) ta tb)) := q_tcmpR op_isBl br_is ha hb (nomark _)
theorem q_tisnB (ha : QE X a ta) (hb : QE X b tb) : QT X (.Compare a [.IsNot] [b] pos) (tB (t2 (isB true) ta tb)) := q_tcmpR op_notBl br_isn ha hb (nomark _)
/-- is None -/
def isNoneD : PyData → Bool
  | .none => true
  | _ => false
def isN (neg : Bool) : C2 := fun x y R => match y with
  | .none => R (.bool (if neg then !isNoneD x else isNoneD x))
  | _ => False
theorem non_D {K : PySem.W.Frag} {H : Hp} {v : V} {x : PyData} (h : Fz K H v x) : decide (v = .non) = isNoneD x := by
  cases h <;> first | rfl | simp [isNoneD]
theorem br_isN : Br2 X.K (fun x y H Q => y = .non ∧ Q (.bl (decide (x = .non))) H) (isN false) := by
  intro x y v u H Q R h1 h2 c k
  cases h2 <;> first | exact c.elim | skip
  refine ⟨rfl, ?_⟩
  rw [non_D h1]
  exact k _ _ H c (.bl _) (Same.refl H)
theorem br_notN : Br2 X.K (fun x y H Q => y = .non ∧ Q (.bl (!decide (x = .non))) H) (isN true) := by
  intro x y v u H Q R h1 h2 c k
  cases h2 <;> first | exact c.elim | skip
  refine ⟨rfl, ?_⟩
  rw [non_D h1]
  exact k _ _ H c (.bl _) (Same.refl H)
theorem q_isN (ha : QE X a ta) (hb : QE X b tb) : QE X (.Compare a [.Is] [b] pos) (t2 (isN false) ta tb) := q_cmpR op_isN br_isN ha hb (nomark _)
theorem q_notN (ha : QE X a ta) (hb : QE X b tb) : QE X (.Compare a [.IsNot] [b] pos) (t2 (isN true) ta tb) := q_cmpR op_notN br_notN ha hb (nomark _)
theorem q_tisN (ha : QE X a ta) (hb : QE X b tb) : QT X (.Compare a [.Is] [b] pos) (tB (t2 (isN false) ta tb)) := q_tcmpR op_isN br_isN ha hb (nomark _)
theorem q_tnotN (ha : QE X a ta) (hb : QE X b tb) : QT X (.Compare a [.IsNot] [b] pos) (tB (t2 (isN true) ta tb)) := q_tcmpR op_notN br_notN ha hb (nomark _)
/-- -a -/
def negI : C1 := fun x R => match x with
  | .int i => R (.int (-i))
  | _ => False
def t1 (C : C1) (ta : TQ) : TQ := fun ρ R => ta ρ fun x ρ1 => C x fun z => R z ρ1
abbrev Br1 (K : PySem.W.Frag) (r : V → Hp → VK → Prop) (C : C1) : Prop := ∀ x v H Q R, Fz K H v x → C x R → (∀ z w H', R z → Fz K H' w z → Same H H' → Q w H') → r v H Q
theorem up_un {K : PySem.W.Frag} {r : V → Hp → VK → Prop} {C : C1} {dk : Dk} {H0 : Hp} (br : Br1 K r C) (σ : L2.St) (H : Hp) (Q : VK) (h : up K dk H0 (t1 C ta) σ H Q) : up K dk H0 ta σ H fun x H1 => r x H1 Q := by
  obtain ⟨ρ, R, rel, h, k⟩ := h
  exact ⟨ρ, _, rel, h, fun x ρ1 v H1 hx fz rel1 ex1 => br x v H1 Q _ fz hx fun z w H' hz fz' sm => k z ρ1 w H' hz fz' (rel1.same sm) (ex1.trans (ex_same sm))⟩
theorem q_un {op : UnaryOp} {r : V → Hp → VK → Prop} {C : C1} (ho : UnR X (unaryOp op) r) (br : Br1 X.K r C) (ha : QE X a ta) : QE X (.UnaryOp op a pos) (t1 C ta) :=
  ⟨fun dk H0 => PE.imp (pe_un ho (ha.run dk H0)) (up_un br)⟩
theorem br_neg {K : PySem.W.Frag} : Br1 K (rU fun i => .int (-i)) negI := by
  intro x v H Q R h1 c k
  cases h1 <;> first | exact c.elim | exact ⟨_, rfl, k _ _ H c (.int _) (Same.refl H)⟩
theorem q_neg (ha : QE X a ta) : QE X (.UnaryOp .USub a pos) (t1 negI ta) := q_un un_neg br_neg ha

/-! ### and, or, not, if -/
variable {rest : List Expr} {tA tB' : TQB}
def qAnd (t u : TQB) : TQB := fun ρ R => t ρ fun c ρ1 => if c = true then u ρ1 R else R false ρ1
def qOr (t u : TQB) : TQB := fun ρ R => t ρ fun c ρ1 => if c = true then R true ρ1 else u ρ1 R
def qNot (t : TQB) : TQB := fun ρ R => t ρ fun c ρ1 => R (!c) ρ1
theorem qw_and1 (ha : QT X a tA) : QW X (.BoolOp .And [a] pos) tA := ⟨fun dk H0 => pw_and1 (ha.run dk H0)⟩
theorem qw_or1 (ha : QT X a tA) : QW X (.BoolOp .Or [a] pos) tA := ⟨fun dk H0 => pw_or1 (ha.run dk H0)⟩
theorem qw_and (ha : QT X a tA) (hb : QW X (.BoolOp .And (b :: rest) pos) tB') : QW X (.BoolOp .And (a :: b :: rest) pos) (qAnd tA tB') :=
  ⟨fun dk H0 => PW.imp (pw_and (ha.run dk H0) (hb.run dk H0)) fun σ H Q ⟨ρ, R, rel, h, k⟩ => ⟨ρ, _, rel, h, fun c ρ1 H1 hc rel1 ex1 => by
    cases c with
    | true => rw [if_pos rfl] at hc ⊢; exact ⟨ρ1, R, rel1, hc, fun b ρ2 H2 hb rel2 ex2 => k b ρ2 H2 hb rel2 (ex1.trans ex2)⟩
    | false => rw [if_neg (by decide)] at hc ⊢; exact k false ρ1 H1 hc rel1 ex1⟩⟩
theorem qw_or (ha : QT X a tA) (hb : QW X (.BoolOp .Or (b :: rest) pos) tB') : QW X (.BoolOp .Or (a :: b :: rest) pos) (qOr tA tB') :=
  ⟨fun dk H0 => PW.imp (pw_or (ha.run dk H0) (hb.run dk H0)) fun σ H Q ⟨ρ, R, rel, h, k⟩ => ⟨ρ, _, rel, h, fun c ρ1 H1 hc rel1 ex1 => by
    cases c with
    | false => rw [if_neg (by decide)] at hc ⊢; exact ⟨ρ1, R, rel1, hc, fun b ρ2 H2 hb rel2 ex2 => k b ρ2 H2 hb rel2 (ex1.trans ex2)⟩
    | true => rw [if_pos rfl] at hc ⊢; exact k true ρ1 H1 hc rel1 ex1⟩⟩
theorem QW.qt {e : Expr} {t : TQB} (h : QW X e t) : QT X e t := ⟨fun dk H0 => (h.run dk H0).pt⟩
theorem qt_not (ha : QT X a tA) : QT X (.UnaryOp .Not a pos) (qNot tA) :=
  ⟨fun dk H0 => PT.imp (pt_not (ha.run dk H0)) fun σ H Q ⟨ρ, R, rel, h, k⟩ => ⟨ρ, _, rel, h, fun c ρ1 H1 hc rel1 ex1 => k (!c) ρ1 H1 hc rel1 ex1⟩⟩
def vAnd (ta tb : TQ) : TQ := fun ρ R => ta ρ fun x ρ1 => match x with
  | .bool c => if c = true then tb ρ1 R else R (.bool false) ρ1
  | _ => False
def vOr (ta tb : TQ) : TQ := fun ρ R => ta ρ fun x ρ1 => match x with
  | .bool c => if c = true then R (.bool true) ρ1 else tb ρ1 R
  | _ => False
def vNot (ta : TQ) : TQ := fun ρ R => ta ρ fun x ρ1 => match x with
  | .bool c => R (.bool (!c)) ρ1
  | _ => False
theorem q_one {op} (h : QE X a t) : QE X (.BoolOp op [a] pos) t := ⟨fun dk H0 => pe_one (h.run dk H0)⟩
theorem q_and (ha : QE X a ta) (hb : QE X (.BoolOp .And (b :: rest) pos) tb) : QE X (.BoolOp .And (a :: b :: rest) pos) (vAnd ta tb) :=
  ⟨fun dk H0 => PE.imp (pe_and (ha.run dk H0) (hb.run dk H0)) fun σ H Q ⟨ρ, R, rel, h, k⟩ => ⟨ρ, _, rel, h, fun x ρ1 v H1 hc fz rel1 ex1 => by
    cases fz <;> first | exact hc.elim | skip
    rename_i c
    refine ⟨c, rfl, ?_⟩
    cases c with
    | true => simp only [if_true] at hc ⊢; exact ⟨ρ1, R, rel1, hc, fun b ρ2 v2 H2 hb fz2 rel2 ex2 => k b ρ2 v2 H2 hb fz2 rel2 (ex1.trans ex2)⟩
    | false => simp only [Bool.false_eq_true, if_false] at hc ⊢; exact k _ ρ1 _ H1 hc (.bl _) rel1 ex1⟩⟩
theorem q_or (ha : QE X a ta) (hb : QE X (.BoolOp .Or (b :: rest) pos) tb) : QE X (.BoolOp .Or (a :: b :: rest) pos) (vOr ta tb) :=
  ⟨fun dk H0 => PE.imp (pe_or (ha.run dk H0) (hb.run dk H0)) fun σ H Q ⟨ρ, R, rel, h, k⟩ => ⟨ρ, _, rel, h, fun x ρ1 v H1 hc fz rel1 ex1 => by
    cases fz <;> first | exact hc.elim | skip
    rename_i c
    refine ⟨c, rfl, ?_⟩
    cases c with
    | false => simp only [Bool.false_eq_true, if_false] at hc ⊢; exact ⟨ρ1, R, rel1, hc, fun b ρ2 v2 H2 hb fz2 rel2 ex2 => k b ρ2 v2 H2 hb fz2 rel2 (ex1.trans ex2)⟩
    | true => simp only [if_true] at hc ⊢; exact k _ ρ1 _ H1 hc (.bl _) rel1 ex1⟩⟩
theorem q_not (ha : QE X a ta) : QE X (.UnaryOp .Not a pos) (vNot ta) :=
  ⟨fun dk H0 => PE.imp (pe_not (ha.run dk H0)) fun σ H Q ⟨ρ, R, rel, h, k⟩ => ⟨ρ, _, rel, h, fun x ρ1 v H1 hc fz rel1 ex1 => by
    cases fz <;> first | exact hc.elim | skip
    exact ⟨_, rfl, k _ ρ1 _ H1 hc (.bl _) rel1 ex1⟩⟩⟩
def qIf (t : TQB) (ta tb : TQ) : TQ := fun ρ R => t ρ fun c ρ1 => if c = true then ta ρ1 R else tb ρ1 R
theorem q_ifExp (hc : QT X c tA) (ha : QE X a ta) (hb : QE X b tb) : QE X (.IfExp c a b pos) (qIf tA ta tb) :=
  ⟨fun dk H0 => PE.imp (pe_ifExp (hc.run dk H0) (ha.run dk H0) (hb.run dk H0)) fun σ H Q ⟨ρ, R, rel, h, k⟩ => ⟨ρ, _, rel, h, fun c ρ1 H1 hc rel1 ex1 => by
    cases c with
    | true => rw [if_pos rfl] at hc ⊢; exact ⟨ρ1, R, rel1, hc, fun b ρ2 v2 H2 hb fz2 rel2 ex2 => k b ρ2 v2 H2 hb fz2 rel2 (ex1.trans ex2)⟩
    | false => rw [if_neg (by decide)] at hc ⊢; exact ⟨ρ1, R, rel1, hc, fun b ρ2 v2 H2 hb fz2 rel2 ex2 => k b ρ2 v2 H2 hb fz2 rel2 (ex1.trans ex2)⟩⟩⟩
/-- a <= b <= c of whole numbers -/
def chI (p q : Int → Int → Bool) (ta tb tc : TQ) : TQ := fun ρ R => ta ρ fun x ρ1 => tb ρ1 fun y ρ2 => match x, y with
  | .int i, .int j => if p i j = true then tc ρ2 fun z ρ3 => (match z with | .int l => R (.bool (q j l)) ρ3 | _ => False) else R (.bool false) ρ2
  | _, _ => False
theorem up_ch {K : PySem.W.Frag} {dk : Dk} {H0 : Hp} {p q : Int → Int → Bool} (σ : L2.St) (H : Hp) (Q : VK) (h : up K dk H0 (chI p q ta tb tc) σ H Q) :
    tChain (rI0 fun i j => .bl (p i j)) (rI0 fun i j => .bl (q i j)) (up K dk H0 ta) (up K dk H0 tb) (up K dk H0 tc) σ H Q := by
  obtain ⟨ρ, R, rel, h, k⟩ := h
  refine ⟨ρ, _, rel, h, fun x ρ1 v H1 hx fz rel1 ex1 => ⟨ρ1, _, rel1, hx, fun y ρ2 u H2 hy fz2 rel2 ex2 => ?_⟩⟩
  cases fz <;> cases fz2 <;> first | exact hy.elim | skip
  rename_i i j
  refine ⟨i, j, rfl, rfl, p i j, rfl, ?_⟩
  cases e : p i j with
  | true =>
    simp only [e, if_true] at hy ⊢
    refine ⟨ρ2, _, rel2, hy, fun z ρ3 w H3 hz fz3 rel3 ex3 => ?_⟩
    cases fz3 <;> first | exact hz.elim | skip
    exact ⟨j, _, rfl, rfl, k _ ρ3 _ H3 hz (.bl _) rel3 (ex1.trans (ex2.trans ex3))⟩
  | false =>
    simp only [e, Bool.false_eq_true, if_false] at hy ⊢
    exact k _ ρ2 _ H2 hy (.bl _) rel2 (ex1.trans ex2)
theorem q_chain {op op' : CmpOp} {p q : Int → Int → Bool} (ho : OpR X (compareOp op) (rI0 fun i j => .bl (p i j))) (ho' : OpR X (compareOp op') (rI0 fun i j => .bl (q i j)))
    (ha : QE X a ta) (hb : QE X b tb) (hc : QE X c tc) (hm : lastMarks [op, op'] [b, c] = false := by with_unfolding_all rfl) : QE X (.Compare a [op, op'] [b, c] pos) (chI p q ta tb tc) :=
  ⟨fun dk H0 => PE.imp (pe_chain ho ho' (ha.run dk H0) (hb.run dk H0) (hc.run dk H0) hm) up_ch⟩
theorem q_tchain {op op' : CmpOp} {p q : Int → Int → Bool} (ho : OpR X (compareOp op) (rI0 fun i j => .bl (p i j))) (ho' : OpR X (compareOp op') (rI0 fun i j => .bl (q i j)))
    (ha : QE X a ta) (hb : QE X b tb) (hc : QE X c tc) (hm : lastMarks [op, op'] [b, c] = false := by with_unfolding_all rfl) : QT X (.Compare a [op, op'] [b, c] pos) (tB (chI p q ta tb tc)) :=
  ⟨fun dk H0 => PT.imp (pt_chain ho ho' (ha.run dk H0) (hb.run dk H0) (hc.run dk H0) hm) (up_tst up_ch)⟩
end
end Q
end P2
section P3
namespace Q
open PySem PySem.Spec PyProof.Rows L2

/-! ### another entry heap: what is in flight stays -/
open Classical in
noncomputable def reb (ρ : En) (σ : L2.St) (H : Hp) : Hp := fun a => if ∃ j, OwnAt ρ σ j a then none else H a
section
variable {K : PySem.W.Frag} {dk : Dk} {H0 H H' : Hp} {ρ ρ' : En} {σ σ' : L2.St}
theorem reb_own {a : Addr} {j : Nat} (h : OwnAt ρ σ j a) : reb ρ σ H a = none := by unfold reb; rw [if_pos ⟨j, h⟩]
theorem reb_not {a : Addr} (h : ∀ j, ¬ OwnAt ρ σ j a) : reb ρ σ H a = H a := by unfold reb; rw [if_neg fun ⟨j, q⟩ => h j q]
theorem Rel.own0 (r : Rel K dk H0 ρ σ H) {a : Addr} {j : Nat} (h : OwnAt ρ σ j a) : H0 a = none := by
  obtain ⟨s, h1, h2, h3⟩ := h
  have q := r.sl j s h1
  cases s with
  | own xs => obtain ⟨b, vs, e1, e2, e3, e4⟩ := q; rw [h3] at e1; cases e1; exact e4
  | owd xs => obtain ⟨b, vs, e1, e2, e3, e4⟩ := q; rw [h3] at e1; cases e1; exact e4
  | _ => cases h2
theorem Rel.dkNot (r : Rel K dk H0 ρ σ H) : (∀ j, ¬ OwnAt ρ σ j dk.1) ∧ ∀ j, ¬ OwnAt ρ σ j dk.2 := ⟨fun j h => r.dk1 (r.own0 h), fun j h => r.dk2 (r.own0 h)⟩
theorem Rel.reb (r : Rel K dk H0 ρ σ H) : Rel K dk (reb ρ σ H) ρ σ H := by
  refine ⟨r.len, fun i s e => ?_, r.ap, r.dok, ?_, ?_, fun a o e _ _ => ?_⟩
  · have q := r.sl i s e
    cases s with
    | own xs => obtain ⟨b, vs, e1, e2, e3, e4⟩ := q; exact ⟨b, vs, e1, e2, e3, reb_own ⟨_, e, rfl, e1⟩⟩
    | owd xs => obtain ⟨b, vs, e1, e2, e3, e4⟩ := q; exact ⟨b, vs, e1, e2, e3, reb_own ⟨_, e, rfl, e1⟩⟩
    | _ => exact q
  · rw [reb_not r.dkNot.1]
    obtain ⟨_, cs, m, k, h1, _⟩ := r.dok
    rw [h1]; intro z; cases z
  · rw [reb_not r.dkNot.2]
    obtain ⟨_, cs, m, k, _, h2, _⟩ := r.dok
    rw [h2]; intro z; cases z
  · unfold Q.reb at e
    split at e
    · cases e
    · exact e
theorem Rel.back (r : Rel K dk H0 ρ σ H) (r' : Rel K dk (Q.reb ρ σ H) ρ' σ' H') : Rel K dk H0 ρ' σ' H' := by
  have n0 : ∀ a, Q.reb ρ σ H a = none → H0 a = none := fun a e => by
    by_cases h : ∃ j, OwnAt ρ σ j a
    · obtain ⟨j, h⟩ := h; exact r.own0 h
    · rw [reb_not fun j q => h ⟨j, q⟩] at e; exact r.fresh0 e
  refine ⟨r'.len, fun i s e => ?_, r'.ap, r'.dok, r.dk1, r.dk2, fun a o e h1 h2 => ?_⟩
  · have q := r'.sl i s e
    cases s with
    | own xs => obtain ⟨b, vs, e1, e2, e3, e4⟩ := q; exact ⟨b, vs, e1, e2, e3, n0 b e4⟩
    | owd xs => obtain ⟨b, vs, e1, e2, e3, e4⟩ := q; exact ⟨b, vs, e1, e2, e3, n0 b e4⟩
    | _ => exact q
  · refine r'.keep a o ?_ h1 h2
    rw [reb_not fun j q => by rw [r.own0 q] at e; cases e]
    exact r.keep a o e h1 h2
theorem Rel.flight (r : Rel K dk H0 ρ σ H) (r' : Rel K dk (Q.reb ρ σ H) ρ' σ' H') {a : Addr} {o : HO} (e : H a = some o) (n : ∀ j, ¬ OwnAt ρ σ j a) (h1 : a ≠ dk.1) (h2 : a ≠ dk.2) : H' a = some o ∧ ∀ j, ¬ OwnAt ρ' σ' j a := by
  have e' : Q.reb ρ σ H a = some o := by rw [reb_not n]; exact e
  exact ⟨r'.keep a o e' h1 h2, fun j q => by rw [r'.own0 q] at e'; cases e'⟩

/-! ### slots forgotten -/
def wipeQ (ρ : En) : List Nat → En
  | [] => ρ
  | v :: vs => (wipeQ ρ vs).set v .un
theorem wipeQ_length (ρ : En) : ∀ vs : List Nat, (wipeQ ρ vs).length = ρ.length
  | [] => rfl
  | v :: vs => by unfold wipeQ; rw [List.length_set, wipeQ_length ρ vs]
theorem wipeQ_some {i : Nat} {s : Sl} : ∀ {vs : List Nat}, (wipeQ ρ vs)[i]? = some s → s = .un ∨ (ρ[i]? = some s ∧ i ∉ vs)
  | [], h => .inr ⟨h, by simp⟩
  | v :: vs, h => by
    unfold wipeQ at h
    by_cases hi : v = i
    · subst hi
      have hv : v < (wipeQ ρ vs).length := by
        have := (List.getElem?_eq_some_iff.mp h).1
        rwa [List.length_set] at this
      rw [List.getElem?_set_self hv] at h; cases h; exact .inl rfl
    · rw [List.getElem?_set_ne hi] at h
      rcases wipeQ_some h with q | ⟨q1, q2⟩
      · exact .inl q
      · exact .inr ⟨q1, by simp only [List.mem_cons, not_or]; exact ⟨fun e => hi e.symm, q2⟩⟩
theorem wipe_out {i : Nat} : ∀ {vs : List Nat}, i ∉ vs → (wipe σ vs)[i]? = σ[i]?
  | [], _ => rfl
  | v :: vs, h => by
    simp only [List.mem_cons, not_or] at h
    unfold wipe
    rw [List.getElem?_set_ne (fun e => h.1 e.symm)]
    exact wipe_out h.2
theorem wipeQ_out {i : Nat} : ∀ {vs : List Nat}, i ∉ vs → (wipeQ ρ vs)[i]? = ρ[i]?
  | [], _ => rfl
  | v :: vs, h => by
    simp only [List.mem_cons, not_or] at h
    unfold wipeQ
    rw [List.getElem?_set_ne (fun e => h.1 e.symm)]
    exact wipeQ_out h.2
theorem wipe_set {i : Nat} {v : Option V} : ∀ {vs : List Nat}, i ∈ vs → wipe (σ.set i v) vs = wipe σ vs
  | [], h => by cases h
  | w :: vs, h => by
    unfold wipe
    by_cases hi : i ∈ vs
    · rw [wipe_set hi]
    · have e : i = w := by
        rcases List.mem_cons.mp h with q | q
        · exact q
        · exact absurd q hi
      subst e
      apply List.ext_getElem?
      intro j
      by_cases hj : i = j
      · subst hj
        by_cases hl : i < σ.length
        · rw [List.getElem?_set_self (by rw [wipe_length, List.length_set]; exact hl), List.getElem?_set_self (by rw [wipe_length]; exact hl)]
        · rw [List.getElem?_eq_none (by rw [List.length_set, wipe_length, List.length_set]; omega), List.getElem?_eq_none (by rw [List.length_set, wipe_length]; omega)]
      · rw [List.getElem?_set_ne hj, List.getElem?_set_ne hj]
        by_cases hjv : j ∈ vs
        · have w1 : ∀ (τ τ' : L2.St), τ.length = τ'.length → (wipe τ vs)[j]? = (wipe τ' vs)[j]? := by
            intro τ τ' hl
            clear hi h hj
            induction vs with
            | nil => cases hjv
            | cons w ws ih =>
              unfold wipe
              by_cases hw : w = j
              · subst hw
                by_cases hq : w < τ.length
                · rw [List.getElem?_set_self (by rw [wipe_length]; exact hq), List.getElem?_set_self (by rw [wipe_length, ← hl]; exact hq)]
                · rw [List.getElem?_eq_none (by rw [List.length_set, wipe_length]; omega), List.getElem?_eq_none (by rw [List.length_set, wipe_length]; omega)]
              · rw [List.getElem?_set_ne hw, List.getElem?_set_ne hw]
                refine ih ?_
                rcases List.mem_cons.mp hjv with q | q
                · exact absurd q.symm hw
                · exact q
          exact w1 _ _ (by rw [List.length_set])
        · rw [wipe_out hjv, wipe_out hjv, List.getElem?_set_ne hj]
theorem Rel.wipe (r : Rel K dk H0 ρ σ H) (vs : List Nat) : Rel K dk H0 (wipeQ ρ vs) (wipe σ vs) H := by
  have back : ∀ {j a}, OwnAt (wipeQ ρ vs) (L2.wipe σ vs) j a → OwnAt ρ σ j a := by
    rintro j a ⟨s, e, h1, h2⟩
    rcases wipeQ_some e with rfl | ⟨e1, e2⟩
    · cases h1
    · rw [wipe_out e2] at h2
      exact ⟨s, e1, h1, h2⟩
  refine ⟨by rw [wipeQ_length, wipe_length]; exact r.len, fun i s e => ?_, fun i j a h1 h2 => r.ap i j a (back h1) (back h2), r.dok, r.dk1, r.dk2, r.keep⟩
  rcases wipeQ_some e with rfl | ⟨e1, e2⟩
  · exact True.intro
  · rw [wipe_out e2]
    exact r.sl i s e1
/-- the slots vs as they were -/
def rstQ : List Nat → En → En → En
  | [], _, ρ' => ρ'
  | v :: vs, ρ, ρ' => (rstQ vs ρ ρ').set v (ρ.getD v .un)
theorem rstQ_length (ρ ρ' : En) : ∀ vs : List Nat, (rstQ vs ρ ρ').length = ρ'.length
  | [] => rfl
  | v :: vs => by unfold rstQ; rw [List.length_set, rstQ_length ρ ρ' vs]
theorem rstQ_some {i : Nat} {s : Sl} : ∀ {vs : List Nat}, (rstQ vs ρ ρ')[i]? = some s → (i ∈ vs ∧ s = ρ.getD i .un) ∨ (i ∉ vs ∧ ρ'[i]? = some s)
  | [], h => .inr ⟨by simp, h⟩
  | v :: vs, h => by
    unfold rstQ at h
    by_cases hi : v = i
    · subst hi
      have hv : v < (rstQ vs ρ ρ').length := by
        have := (List.getElem?_eq_some_iff.mp h).1
        rwa [List.length_set] at this
      rw [List.getElem?_set_self hv] at h; cases h
      exact .inl ⟨List.mem_cons_self, rfl⟩
    · rw [List.getElem?_set_ne hi] at h
      rcases rstQ_some h with ⟨q1, q2⟩ | ⟨q1, q2⟩
      · exact .inl ⟨List.mem_cons_of_mem _ q1, q2⟩
      · exact .inr ⟨by simp only [List.mem_cons, not_or]; exact ⟨fun e => hi e.symm, q1⟩, q2⟩
def noOwn (ρ : En) (vs : List Nat) : Bool := vs.all fun v => !(ρ.getD v .un).isOwn
theorem Rel.rst {H1 : Hp} {vs : List Nat} (r1 : Rel K dk H0 ρ σ H1) (no : noOwn ρ vs = true) (ex : Ex H1 H) (r : Rel K dk H0 ρ' (L2.wipe σ vs) H) : Rel K dk H0 (rstQ vs ρ ρ') σ H := by
  have hl : ρ'.length = σ.length := by rw [r.len, wipe_length]
  have no' : ∀ v ∈ vs, (ρ.getD v .un).isOwn = false := fun v hv => by
    have := List.all_eq_true.mp no v hv
    simpa using this
  have back : ∀ {j a}, OwnAt (rstQ vs ρ ρ') σ j a → OwnAt ρ' (L2.wipe σ vs) j a := by
    rintro j a ⟨s, e, h1, h2⟩
    rcases rstQ_some e with ⟨q1, rfl⟩ | ⟨q1, q2⟩
    · rw [no' j q1] at h1; cases h1
    · exact ⟨s, q2, h1, by rw [wipe_out q1]; exact h2⟩
  refine ⟨by rw [rstQ_length, hl], fun i s e => ?_, fun i j a h1 h2 => r.ap i j a (back h1) (back h2), r.dok, r.dk1, r.dk2, r.keep⟩
  rcases rstQ_some e with ⟨q1, rfl⟩ | ⟨q1, q2⟩
  · rw [List.getD_eq_getElem?_getD]
    cases e2 : ρ[i]? with
    | none => exact True.intro
    | some s =>
      have q := (r1.sl i s e2).ex ex fun a o w1 _ _ => by
        have := no' i q1
        rw [List.getD_eq_getElem?_getD, e2] at this
        rw [show s.isOwn = false from this] at w1
        cases w1
      exact q
  · have q := r.sl i s q2
    rw [wipe_out q1] at q
    exact q
end

/-! ### several expressions -/
section
variable {X : Cx} {pos : Pos} {a b c e : Expr} {ta tb tc t : TQ} {es : List Expr}
def upD (K : PySem.W.Frag) (dk : Dk) (H0 : Hp) (t : TQL) : TA := fun σ H Q => ∃ ρ R, Rel K dk H0 ρ σ H ∧ t ρ R ∧ ∀ xs ρ' vs H', R xs ρ' → FzAll K H' vs xs → Rel K dk H0 ρ' σ H' → Ex H H' → Q vs H'
structure QDs (X : Cx) (es : List Expr) (t : TQL) : Prop where
  run : ∀ dk H0, PA X es (upD X.K dk H0 t)
def dNil : TQL := fun ρ R => R [] ρ
def dCons (te : TQ) (t : TQL) : TQL := fun ρ R => te ρ fun x ρ1 => t ρ1 fun xs ρ2 => R (x :: xs) ρ2
theorem qd_nil : QDs X [] dNil := ⟨fun dk H0 => PA.imp pa_nil fun σ H Q ⟨ρ, R, rel, h, k⟩ => k [] ρ [] H h .nil rel (Ex.refl H)⟩
theorem qd_cons {te : TQ} {t : TQL} (he : QE X e te) (ht : QDs X es t) (hs : starEach (e :: es) X.env = (false, eval e X.env) :: starEach es X.env := by rfl) : QDs X (e :: es) (dCons te t) :=
  ⟨fun dk H0 => PA.imp (pa_cons (he.run dk H0) (ht.run dk H0) hs) fun σ H Q ⟨ρ, R, rel, h, k⟩ =>
    ⟨ρ, _, rel, h, fun x ρ1 v H1 hx fz rel1 ex1 => ⟨ρ1, _, rel1, hx, fun xs ρ2 vs H2 hxs fzs rel2 ex2 => k (x :: xs) ρ2 (v :: vs) H2 hxs (.cons (fz.mono ex2) fzs) rel2 (ex1.trans ex2)⟩⟩⟩
/-- (a, b, ..) -/
def tTupQ (t : TQL) : TQ := fun ρ R => t ρ fun xs ρ1 => xs.length ≤ 1000 ∧ R (.tuple xs) ρ1
theorem q_tup {t : TQL} {k} (h : QDs X es t) : QE X (.Tuple es k pos) (tTupQ t) :=
  ⟨fun dk H0 => PE.imp (pe_tup (h.run dk H0)) fun σ H Q ⟨ρ, R, rel, h, k⟩ =>
    ⟨ρ, _, rel, h, fun xs ρ1 vs H1 hxs fz rel1 ex1 => ⟨by have := fz.length; have := small1000 hxs.1; omega, fun p hp =>
      have sm := same_upd (o := .tup vs) hp
      k _ ρ1 _ _ hxs.2 (.tup (.inl (.inl upd_same)) (fz.mono (ex_same sm))) (rel1.same sm) (ex1.trans (ex_same sm))⟩⟩⟩
/-- [a, b, ..], a list that no one holds yet -/
def tLstQ (t : TQL) : TQL := fun ρ R => t ρ fun xs ρ1 => xs.length ≤ 1000 ∧ R xs ρ1
theorem ql_lst {t : TQL} (h : QDs X es t) : QL X (.List es pos) (tLstQ t) :=
  ⟨fun dk H0 => PE.imp (pe_lst (h.run dk H0)) fun σ H Q ⟨ρ, R, rel, h, k⟩ =>
    ⟨ρ, _, rel, h, fun xs ρ1 vs H1 hxs fz rel1 ex1 => ⟨by have := fz.length; have := small1000 hxs.1; omega, fun p hp =>
      have sm := same_upd (o := .lst vs) hp
      k _ ρ1 _ _ _ hxs.2 upd_same (fz.mono (ex_same sm)) (rel1.fresh0 hp) (rel1.freshOwn hp) (rel1.same sm) (ex1.trans (ex_same sm))⟩⟩⟩
/-- a new list, frozen at once -/
def tFz (t : TQL) : TQ := fun ρ R => t ρ fun xs ρ1 => R (.list xs) ρ1
theorem Rel.freeze {K : PySem.W.Frag} {dk : Dk} {H0 H : Hp} {ρ : En} {σ : L2.St} {p : Addr} {vs : List V} {o : HO} (r : Rel K dk H0 ρ σ H) (h : H p = some (.lst vs)) (n0 : H0 p = none) (no : ∀ j, ¬ OwnAt ρ σ j p) : Rel K dk H0 ρ σ (upd H p o) ∧ Ex H (upd H p o) := by
  have ex : Ex H (upd H p o) := ex_own h (.inl ⟨_, rfl⟩)
  refine ⟨⟨r.len, fun i s e => (r.sl i s e).ex ex fun a ob w1 w2 w3 => ?_, r.ap, ?_, r.dk1, r.dk2, fun a ob e h1 h2 => ?_⟩, ex⟩
  · rw [upd_ne]; exact w3
    rintro rfl
    exact no i ⟨s, e, w1, w2⟩
  · obtain ⟨n, cs, m, k, g1, g2, g3⟩ := r.dok
    refine ⟨n, cs, m, k, ?_, ?_, g3⟩
    · rw [upd_ne]; exact g1
      intro z; exact r.dk1 (by rw [z]; exact n0)
    · rw [upd_ne]; exact g2
      intro z; exact r.dk2 (by rw [z]; exact n0)
  · rw [upd_ne]; exact r.keep a ob e h1 h2
    rintro rfl; rw [n0] at e; cases e
theorem q_frz {t : TQL} (h : QL X e t) : QE X e (tFz t) := by
  refine ⟨fun dk H0 => ⟨fun pins s σ H Q I ⟨ρ, R, rel, h0, k⟩ => ?_⟩⟩
  let Q1 : VK := fun v H1 => ∃ xs ρ1 p vs, v = .ref p ∧ R (.list xs) ρ1 ∧ H1 p = some (.lst vs) ∧ FzAll X.K H1 vs xs ∧ H0 p = none ∧ (∀ j, ¬ OwnAt ρ1 σ j p) ∧ Rel X.K dk H0 ρ1 σ H1 ∧ Ex H H1
  refine thn ((h.run dk H0).run pins s σ H Q1 I ⟨ρ, _, rel, h0, fun xs ρ1 p vs H1 q1 q2 q3 q4 q5 q6 q7 => ⟨xs, ρ1, p, vs, rfl, q1, q2, q3, q4, q5, q6, q7⟩⟩) fun u s1 ⟨v, H1, I1, rv, xs, ρ1, p, vs, e, q1, q2, q3, q4, q5, q6, q7⟩ => ?_
  subst e
  obtain ⟨od, I2⟩ := I1.lock q2 True.intro
  obtain ⟨r2, ex⟩ := q6.freeze (o := .frz od (.lst vs)) q2 q4 q5
  exact ⟨.ref p, _, I2, rv, k (.list xs) ρ1 (.ref p) _ q1 (.lst upd_same (q3.mono ex)) r2 (q7.trans ex)⟩

/-! ### items and slices -/
/-- x[i] -/
def ixD : C2 := fun x y R => match x, y with
  | .list xs, .int i => ∃ v, atI xs i = some v ∧ R v
  | .tuple xs, .int i => ∃ v, atI xs i = some v ∧ R v
  | .str z, .int i => z.length ≤ sizeLine ∧ ∃ c, atI z.cps.toList i = some c ∧ R (.str ⟨#[c]⟩)
  | _, _ => False
theorem atI_fz {K : PySem.W.Frag} {H : Hp} {vs : List V} {xs : List PyData} {i : Int} {x : PyData} (f : FzAll K H vs xs) (h : atI xs i = some x) : ∃ v, atI vs i = some v ∧ Fz K H v x := by
  unfold atI at h ⊢
  rw [← f.length] at h
  cases e : ixN vs.length i with
  | none => rw [e] at h; cases h
  | some j =>
    rw [e] at h
    exact f.at h
theorem br_ix : Br2 X.K (rIx X.K) ixD := by
  intro x y v u H Q R h1 h2 c k
  cases h1 with
  | lst q t =>
    cases h2 <;> first | exact c.elim | skip
    obtain ⟨z, hz, c⟩ := c
    obtain ⟨w, hw, fw⟩ := atI_fz t hz
    exact .inl ⟨_, _, _, w, rfl, rfl, .inl (.inr ⟨_, q⟩), hw, k z w H c fw (Same.refl H)⟩
  | tup q t =>
    cases h2 <;> first | exact c.elim | skip
    obtain ⟨z, hz, c⟩ := c
    obtain ⟨w, hw, fw⟩ := atI_fz t hz
    exact .inr (.inl ⟨_, _, _, w, rfl, rfl, q, hw, k z w H c fw (Same.refl H)⟩)
  | str z =>
    cases h2 <;> first | exact c.elim | skip
    obtain ⟨c1, cc, c2, c3⟩ := c
    exact .inr (.inr ⟨_, _, cc, rfl, rfl, c1, c2, k _ _ H c3 (.str _) (Same.refl H)⟩)
  | _ => cases h2 <;> exact c.elim
theorem q_ix (ha : QE X a ta) (hb : QE X b tb) (hs : PlainIx b := by intro _ _; rfl) : QE X (.Subscript a b pos) (t2 ixD ta tb) :=
  ⟨fun dk H0 => PE.imp (pe_ix ix_seq (ha.run dk H0) (hb.run dk H0) hs) (up_op br_ix)⟩
end
end Q
end P3
section P4
namespace Q
open PySem PySem.Spec PyProof.Rows L2 HT

/-! ### t[::-1] of a tuple -/
section
variable {prog : Program} {w : World} {A : Around} {E : Value → Shared → Prop} {s : Shared}
theorem rev_pick (xs : Array Value) : ((List.range xs.size).filterMap fun (k : Nat) => xs[((xs.size : Int) - 1 + (k : Int) * (-1)).toNat]?).toArray = xs.toList.reverse.toArray := by
  have e : (fun (k : Nat) => xs[((xs.size : Int) - 1 + (k : Int) * (-1)).toNat]?) = (fun k => xs[k]?) ∘ fun k => xs.size - 1 - k := by
    funext k
    show xs[_]? = xs[_]?
    by_cases h : k < xs.size
    · rw [show ((xs.size : Int) - 1 + (k : Int) * (-1)).toNat = xs.size - 1 - k by omega]
    · rw [show ((xs.size : Int) - 1 + (k : Int) * (-1)).toNat = xs.size - 1 - k by omega]
  rw [e, ← List.filterMap_map, PySem.W.krv_range, List.filterMap_reverse, PySem.W.krv_all]
theorem sliceApplied_rev {sl : Addr} {u : Tok} {n : Nat} {Q : Int × Int × Nat → Shared → Prop} (hs : s.heap.IsSliceOf sl .none .none (.int (-1) u))
    (h : Q ((n : Int) - 1, -1, n) s) : wpAny (model prog w) A (Builtin.Slice.sliceApplied (.ref sl) (pure (n : Int))) Q E s := by
  obtain ⟨os, hos, hcs, hds⟩ := id hs
  unfold Builtin.Slice.sliceApplied Builtin.Slice.sliceFields
  refine wpAny_bind (wpAny_bind (wpAny_field hos hds (x := .none) rfl (wpAny_bind (wpAny_field hos hds (x := .none) rfl (wpAny_bind (wpAny_field hos hds (x := .int (-1) u) rfl (wpAny_pure ?_)))))))
  refine wpAny_bind (slicePart_int ?_)
  show wpAny _ _ (if ((-1 : Int) == 0) = true then _ else _) _ _ s
  rw [if_neg (by decide)]
  refine wpAny_bind (slicePart_none (wpAny_bind (slicePart_none (wpAny_bind (wpAny_pure ?_)))))
  have e : Builtin.Slice.sliceAdjust none none (-1) (n : Int) = ((n : Int) - 1, -1) := rfl
  show wpAny _ _ (match Builtin.Slice.sliceAdjust none none (-1) (n : Int) with | (lo, hi) => pure (lo, (-1 : Int), Builtin.Slice.slicePlaces lo hi (-1))) _ _ s
  rw [e]
  show wpAny _ _ (pure ((n : Int) - 1, (-1 : Int), Builtin.Slice.slicePlaces ((n : Int) - 1) (-1) (-1))) _ _ s
  have e2 : Builtin.Slice.slicePlaces ((n : Int) - 1) (-1) (-1) = n := by
    unfold Builtin.Slice.slicePlaces
    have h1 : ¬ ((-1 : Int) > 0) := by omega
    simp only [h1, if_false]
    split
    · show (((n : Int) - 1 - -1 - 1) / (- -1) + 1).toNat = n
      rw [show (- (-1) : Int) = 1 from rfl, Int.ediv_one]; omega
    · show (0 : Int).toNat = n
      omega
  rw [e2]
  exact wpAny_pure h
theorem getItem_tuple_rev {t sl : Addr} {items : Array Value} {u : Tok} {Q : Value → Shared → Prop} (ht : IsTup s.heap t items) (hs : s.heap.IsSliceOf sl .none .none (.int (-1) u))
    (h : Q (.ref s.heap.objs.size) { s with heap := s.heap.push { cls := .type "tuple", data := .seq items.toList.reverse.toArray } })
    (hsz : items.size ≤ sizeLine) : wpAny (model prog w) A (getItem (.ref t) (.ref sl)) Q E s := by
  have htake : sizeOk (.seq items.toList.reverse.toArray) := by
    show items.toList.reverse.toArray.size ≤ sizeLine
    rw [List.size_toArray, List.length_reverse, Array.length_toList]
    omega
  obtain ⟨os, hos, hcs, hds⟩ := id hs
  have hTs : s.TypeIs (.ref sl) "slice" := ⟨os, hos, hcs⟩
  unfold getItem
  try with_reducible refine wpAny_holding ?_
  first | refine wpAny_bind (wpAny_pure ?_) | skip
  refine wpAny_bind (wpAny_sequenceKey ht.typeIs (by decide) ?_)
  refine wpAny_bind (wpAny_callSpecial?_slot (name := Str.ofString "__getitem__") ht.typeIs PyProof.Rows.slot_tuple_getitem
    (wpAny_call_entry PyProof.Rows.slot_tuple_getitem ht.typeIs entry_tuple_getitem ?_ (args_tuple_getitem _ _)))
  show wpAny _ _ (Builtin.Tuple.tupleItemsOf (.ref t) >>= _) _ _ s
  refine wpAny_bind (tupleItemsOf_ ht ?_)
  refine wpAny_bind (wpAny_typeOf hTs ?_)
  rw [if_pos (by decide)]
  refine wpAny_bind (sliceApplied_rev hs ?_)
  have hno : ¬ ((((items.size : Int) - 1) == 0 && (-1 : Int) == 1 && items.size == items.size) = true) := by
    intro q
    rw [Bool.and_eq_true, Bool.and_eq_true] at q
    exact absurd (eq_of_beq q.1.2) (by decide)
  show wpAny _ _ (if (((items.size : Int) - 1) == 0 && (-1 : Int) == 1 && items.size == items.size) = true then _ else _) _ _ s
  rw [if_neg hno, rev_pick]
  first
    | exact wpAny_bind (m := Builtin.Tuple.tupleExact _) (wpAny_newObj_type (wpAny_pure ⟨_, rfl, wpAny_pure h⟩) htake)
    | exact wpAny_bind (m := Builtin.Tuple.tupleExact _) (wpAny_newObj_type (wpAny_bind (wpAny_pure (wpAny_pure ⟨_, rfl, wpAny_pure h⟩))) htake)
    | exact wpAny_bind (wpAny_bind (m := Builtin.Tuple.tupleExact _) (wpAny_newObj_type (wpAny_pure (wpAny_pure ⟨_, rfl, wpAny_pure h⟩)) htake))
    | exact wpAny_bind (wpAny_bind (m := Builtin.Tuple.tupleExact _) (wpAny_newObj_type (wpAny_pure ⟨_, rfl, wpAny_pure h⟩) htake))
end
section
variable {X : Cx} {pos : Pos} {a b c e : Expr} {ta tb tc t te : TQ} {es : List Expr}
/-- a new list among the answers is frozen at once -/
theorem pe_fz {t : TE} (h : PE X e t) : PE X e (fun σ H Q => t σ H fun v H1 => Q v H1 ∨ ∃ p vs, v = .ref p ∧ H1 p = some (.lst vs) ∧ ∀ od, Q v (upd H1 p (.frz od (.lst vs)))) := by
  refine ⟨fun pins s σ H Q I h0 => ?_⟩
  refine thn (h.run pins s σ H _ I h0) fun u s1 ⟨v, H1, I1, rv, q⟩ => ?_
  rcases q with q | ⟨p, vs, rfl, hp, q⟩
  · exact ⟨v, H1, I1, rv, q⟩
  · obtain ⟨od, I2⟩ := I1.lock hp True.intro
    exact ⟨.ref p, _, I2, rv, q od⟩
theorem ex_new {H : Hp} {p : Addr} {o : HO} (n : H p = none) : Ex H (upd H p o) := ex_same (same_upd n)
theorem frz_new {K : PySem.W.Frag} {H : Hp} {p : Addr} {vs : List V} {xs : List PyData} (n : H p = none) (f : FzAll K H vs xs) (od : Obj) : Fz K (upd (upd H p (.lst vs)) p (.frz od (.lst vs))) (.ref p) (.list xs) ∧ Same H (upd (upd H p (.lst vs)) p (.frz od (.lst vs))) := by
  rw [upd_upd]
  exact ⟨.lst upd_same (f.mono (ex_new n)), same_upd n⟩
/-- x[::-1] -/
def revD : C1 := fun x R => match x with
  | .list xs => R (.list xs.reverse)
  | .tuple xs => R (.tuple xs.reverse)
  | _ => False
theorem pe_revA {e : Expr} {te : TE} {k : Nat} {p1 p2 p3 pos : Pos} (he : PE X e te) : PE X (.Subscript e (.Slice none none (some (.UnaryOp .USub (.Constant (.int 1) k p1) p2)) p3) pos)
    (fun σ H Q => te σ H fun x H1 => ∃ a xs, x = .ref a ∧ ((SqL X.K H1 a xs ∧ ∀ p, H1 p = none → Q (.ref p) (upd H1 p (.lst xs.reverse))) ∨ (SqT X.K H1 a xs ∧ ∀ p, H1 p = none → Q (.ref p) (upd H1 p (.tup xs.reverse))))) := by
  refine ⟨fun pins s σ H Q I h => ?_⟩
  refine Subscript_ (thn (he.run pins s σ H _ I h) fun v s1 ⟨x, H1, I1, r1, q1⟩ => ?_)
  obtain ⟨a, xs, ex, q1⟩ := q1
  subst ex
  cases r1
  have hst : PO X (some (.UnaryOp .USub (.Constant (.int 1) k p1) p2)) (tPart (tUn (rU fun i => .int (-i)) (tC (.int 1)))) := po_some (pe_un un_neg pe_int)
  refine wpAny_Slice (thn (po_none.run pins s1 σ H1 (fun o H2 => o = none ∧ H2 = H1) I1 ⟨rfl, rfl⟩) fun vl s2 ⟨l, H2, I2, pl, el, e2⟩ => ?_)
  subst el e2
  refine thn (po_none.run pins s2 σ H2 (fun o H3 => o = none ∧ H3 = H2) I2 ⟨rfl, rfl⟩) fun vu s3 ⟨u, H3, I3, pu, eu, e3⟩ => ?_
  subst eu e3
  refine thn (hst.run pins s3 σ H3 (fun o H4 => o = some (-1) ∧ H4 = H3) I3 ⟨1, rfl, -1, rfl, rfl, rfl⟩) fun vs s4 ⟨o, H4, I4, ps, eo, e4⟩ => ?_
  subst eo e4
  have I5 : Inv X pins σ H4 { s4 with heap := s4.heap.push { cls := .type "slice", data := .fields #[vl, vu, vs] } } := I4.kept (t' := s4.toks) fun b ob q => Heap.get?_push_of_some _ q
  show wpAny (model X.prog X.w) X.A (subscriptTail e (.Slice none none (some (.UnaryOp .USub (.Constant (.int 1) k p1) p2)) p3) (.ref a) (.ref s4.heap.objs.size)) (EP X pins σ Q) X.xe { s4 with heap := s4.heap.push { cls := .type "slice", data := .fields #[vl, vu, vs] } }
  rcases q1 with ⟨hx, q⟩ | ⟨hx, q⟩
  · obtain ⟨its, r, ht, hz⟩ := I5.list hx
    have hlen := r.length
    refine tail_any (ops := [.ref a, .ref s4.heap.objs.size]) ht.isList.typeIs (PySem.slot_list_getitem.lookup) ?_ (by with_unfolding_all rfl)
    refine wpAny_getItem_list_slice ht.isList (Heap.IsSliceOf.new _ vl vu vs) pl pu ps (by decide) ?_ (by rw [List.size_toArray]; omega)
    rw [PySem.W.krv_pick]
    refine ⟨.ref _, _, I5.laid (t' := s4.toks) (o := .lst xs.reverse) (fun b ob q => Heap.get?_push_of_some _ q) (Nat.le_refl _) ?_, rfl, q _ (I5.hok.fresh (Nat.le_refl _))⟩
    exact ⟨by rw [List.length_reverse]; exact hz, _, 0, r.reverse, Heap.get?_push_size _ rfl⟩
  · obtain ⟨its, r, ht, hz⟩ := I5.tuple hx
    have hlen := r.length
    cases pl
    cases pu
    cases ps
    refine tail_any (ops := [.ref a, .ref s4.heap.objs.size]) ht.typeIs (PyProof.Rows.slot_tuple_getitem.lookup) ?_ (by with_unfolding_all rfl)
    refine getItem_tuple_rev ht (Heap.IsSliceOf.new _ .none .none _) ?_ (by rw [List.size_toArray]; omega)
    refine ⟨.ref _, _, I5.laid (t' := s4.toks) (o := .tup xs.reverse) (fun b ob q => Heap.get?_push_of_some _ q) (Nat.le_refl _) ?_, rfl, q _ (I5.hok.fresh (Nat.le_refl _))⟩
    exact ⟨by rw [List.length_reverse]; exact hz, _, r.reverse, IsTup.new _ _⟩
theorem q_rev {k : Nat} {p1 p2 p3 pos : Pos} (he : QE X e te) : QE X (.Subscript e (.Slice none none (some (.UnaryOp .USub (.Constant (.int 1) k p1) p2)) p3) pos) (t1 revD te) :=
  ⟨fun dk H0 => PE.imp (pe_fz (pe_revA (he.run dk H0))) fun σ H Q ⟨ρ, R, rel, h, k⟩ => ⟨ρ, _, rel, h, fun x ρ1 v H1 hx fz rel1 ex1 => by
    cases fz with
    | lst q t =>
      refine ⟨_, _, rfl, .inl ⟨.inl (.inr ⟨_, q⟩), fun p hp => .inr ⟨p, _, rfl, upd_same, fun od => ?_⟩⟩⟩
      obtain ⟨f, sm⟩ := frz_new hp t.reverse od
      exact k _ ρ1 _ _ hx f (rel1.same sm) (ex1.trans (ex_same sm))
    | @tup a xs ds q t =>
      refine ⟨_, _, rfl, .inr ⟨q, fun p hp => .inl ?_⟩⟩
      have sm := same_upd (o := .tup xs.reverse) hp
      exact k _ ρ1 _ _ hx (.tup (.inl (.inl upd_same)) (t.reverse.mono (ex_same sm))) (rel1.same sm) (ex1.trans (ex_same sm))
    | _ => exact hx.elim⟩⟩
/-- slices -/
abbrev TQO := En → (Option Int → En → Prop) → Prop
def upO (K : PySem.W.Frag) (dk : Dk) (H0 : Hp) (t : TQO) : TO := fun σ H Q => ∃ ρ R, Rel K dk H0 ρ σ H ∧ t ρ R ∧ ∀ o ρ' H', R o ρ' → Rel K dk H0 ρ' σ H' → Ex H H' → Q o H'
structure QO (X : Cx) (e : Option Expr) (t : TQO) : Prop where
  run : ∀ dk H0, PO X e (upO X.K dk H0 t)
theorem PO.imp {e : Option Expr} {t t' : TO} (h : PO X e t) (w : ∀ σ H Q, t' σ H Q → t σ H Q) : PO X e t' := ⟨fun pins s σ H Q I q => h.run pins s σ H Q I (w _ _ _ q)⟩
def oNone : TQO := fun ρ R => R none ρ
def oSome (te : TQ) : TQO := fun ρ R => te ρ fun x ρ1 => match x with
  | .int i => R (some i) ρ1
  | _ => False
theorem qo_none : QO X none oNone := ⟨fun dk H0 => PO.imp po_none fun σ H Q ⟨ρ, R, rel, h, k⟩ => k none ρ H h rel (Ex.refl H)⟩
theorem qo_some (he : QE X e te) : QO X (some e) (oSome te) :=
  ⟨fun dk H0 => PO.imp (po_some (he.run dk H0)) fun σ H Q ⟨ρ, R, rel, h, k⟩ => ⟨ρ, _, rel, h, fun x ρ1 v H1 hx fz rel1 ex1 => by
    cases fz with
    | int i => exact ⟨i, rfl, k _ ρ1 H1 hx rel1 ex1⟩
    | _ => exact hx.elim⟩⟩
def cutD (xs : List PyData) (lo hi : Option Int) : List PyData := (xs.drop (HT.sIx xs.length 0 lo)).take (HT.sIx xs.length xs.length hi - HT.sIx xs.length 0 lo)
theorem cut_fz {K : PySem.W.Frag} {H : Hp} {vs : List V} {xs : List PyData} (f : FzAll K H vs xs) (lo hi : Option Int) : FzAll K H (cutV vs lo hi) (cutD xs lo hi) := by
  unfold cutV cutD
  rw [f.length]
  exact (f.drop _).take _
def slD (x : PyData) (lo hi : Option Int) (R : PyData → Prop) : Prop := match x with
  | .list xs => R (.list (cutD xs lo hi))
  | .tuple xs => R (.tuple (cutD xs lo hi))
  | .str z => z.length ≤ sizeLine ∧ R (.str (cutS z lo hi))
  | _ => False
def tSlQ (te : TQ) (tl th : TQO) : TQ := fun ρ R => te ρ fun x ρ1 => tl ρ1 fun lo ρ2 => th ρ2 fun hi ρ3 => slD x lo hi fun z => R z ρ3
theorem q_slice {lo hi : Option Expr} {tl th : TQO} {p2 : Pos} (he : QE X e te) (hl : QO X lo tl) (hu : QO X hi th) : QE X (.Subscript e (.Slice lo hi none p2) pos) (tSlQ te tl th) := by
  refine ⟨fun dk H0 => PE.imp (pe_fz (pe_slice (sl_list.or (sl_tupA.or sl_str)) (he.run dk H0) (hl.run dk H0) (hu.run dk H0))) fun σ H Q ⟨ρ, R, rel, h, k⟩ =>
    ⟨ρ, _, rel, h, fun x ρ1 v H1 hx fz rel1 ex1 => ⟨ρ1, _, rel1, hx, fun lo ρ2 H2 hlo rel2 ex2 => ⟨ρ2, _, rel2, hlo, fun hi ρ3 H3 hhi rel3 ex3 => ?_⟩⟩⟩⟩
  have ex := ex1.trans (ex2.trans ex3)
  have fz := fz.mono (ex2.trans ex3)
  cases fz with
  | lst q t =>
    refine .inl ⟨_, _, rfl, .inl (.inr ⟨_, q⟩), fun p hp => .inr ⟨p, _, rfl, upd_same, fun od => ?_⟩⟩
    obtain ⟨f, sm⟩ := frz_new hp (cut_fz t lo hi) od
    exact k _ ρ3 _ _ hhi f (rel3.same sm) (ex.trans (ex_same sm))
  | @tup a xs ds q t =>
    refine .inr (.inl ⟨_, _, rfl, q, fun w => .inl ?_, fun w p hp => .inl ?_⟩)
    · have e : cutD ds lo hi = ds := by
        unfold cutD
        rw [← t.length, w.1, w.2]
        simp [t.length]
      have hhi : R (.tuple (cutD ds lo hi)) ρ3 := hhi
      rw [e] at hhi
      exact k _ ρ3 _ _ hhi (.tup q t) rel3 ex
    · have sm := same_upd (o := .tup (cutV xs lo hi)) hp
      exact k _ ρ3 _ _ hhi (.tup (.inl (.inl upd_same)) ((cut_fz t lo hi).mono (ex_same sm))) (rel3.same sm) (ex.trans (ex_same sm))
  | str z => exact .inr (.inr ⟨_, rfl, hhi.1, .inl (k _ ρ3 _ _ hhi.2 (.str _) rel3 ex)⟩)
  | _ => exact hhi.elim
end
end Q
end P4
section P5
namespace Q
open PySem PySem.Spec PyProof.Rows L2 HT

/-! ### targets -/
abbrev TGQ := PyData → En → (En → Prop) → Prop
abbrev TGsQ := List PyData → En → (En → Prop) → Prop
def upG (K : PySem.W.Frag) (dk : Dk) (H0 : Hp) (is : List Nat) (g : TGQ) : TG := fun v σ H Q => ∃ x ρ R, Fz K H v x ∧ Rel K dk H0 ρ σ H ∧ g x ρ R ∧ ∀ ρ' σ', R ρ' → Rel K dk H0 ρ' σ' H → (∀ vs : List Nat, (∀ i ∈ is, i ∈ vs) → wipe σ' vs = wipe σ vs) → Q σ' H
def upGs (K : PySem.W.Frag) (dk : Dk) (H0 : Hp) (is : List Nat) (g : TGsQ) : TGs := fun v σ H Q => ∃ x ρ R, FzAll K H v x ∧ Rel K dk H0 ρ σ H ∧ g x ρ R ∧ ∀ ρ' σ', R ρ' → Rel K dk H0 ρ' σ' H → (∀ vs : List Nat, (∀ i ∈ is, i ∈ vs) → wipe σ' vs = wipe σ vs) → Q σ' H
structure QG (X : Cx) (tg : Expr) (is : List Nat) (g : TGQ) : Prop where
  run : ∀ dk H0, PG X tg (upG X.K dk H0 is g)
structure QGs (X : Cx) (tgs : List Expr) (is : List Nat) (g : TGsQ) : Prop where
  run : ∀ dk H0, PGs X tgs (upGs X.K dk H0 is g)
section
variable {X : Cx} {pos : Pos}
theorem PG.imp {tg : Expr} {g g' : TG} (h : PG X tg g) (w : ∀ v σ H Q, g' v σ H Q → g v σ H Q) : PG X tg g' := ⟨fun pins s σ H v u Q I r q => h.run pins s σ H v u Q I r (w _ _ _ _ q)⟩
theorem PGs.imp {tg : List Expr} {g g' : TGs} (h : PGs X tg g) (w : ∀ v σ H Q, g' v σ H Q → g v σ H Q) : PGs X tg g' := ⟨fun pins s σ H v u Q I r q => h.run pins s σ H v u Q I r (w _ _ _ _ q)⟩
def gN (i : Nat) : TGQ := fun x ρ R => R (ρ.set i (.d x))
theorem qg_name (i : Nat) {x : Str} (hN : X.N.Nodup) (hi : X.N[i]? = some x := by rfl) (hx : Loc X.env.scope x := by first | exact Or.inl rfl | exact Or.inr rfl)
    (hf : X.fn x = true ∨ X.env.scope.names.lookup x = some .local := by first | exact .inl rfl | exact .inr rfl) : QG X (.Name x pos) [i] (gN i) :=
  ⟨fun dk H0 => PG.imp (pg_name hN hi hx hf) fun v σ H Q ⟨x, ρ, R, fz, rel, h, k⟩ => k _ _ h (rel.set ⟨v, rfl, fz⟩ fun a z => nomatch z) fun vs hv => wipe_set (hv i (by simp))⟩
def gsNil : TGsQ := fun xs ρ R => xs = [] ∧ R ρ
def gsCons (g : TGQ) (gs : TGsQ) : TGsQ := fun xs ρ R => match xs with
  | [] => False
  | x :: xs => g x ρ fun ρ1 => gs xs ρ1 R
theorem qgs_nil : QGs X [] [] gsNil := ⟨fun dk H0 => PGs.imp pgs_nil fun v σ H Q ⟨x, ρ, R, fz, rel, h, k⟩ => by
  obtain ⟨rfl, h⟩ := h
  cases fz
  exact ⟨rfl, k ρ σ h rel fun _ _ => rfl⟩⟩
theorem qgs_cons {e : Expr} {es : List Expr} {is js : List Nat} {g : TGQ} {gs : TGsQ} (h1 : QG X e is g) (h2 : QGs X es js gs)
    (hs : (assignEach (e :: es) X.env).map (·.2) = assign e X.env :: (assignEach es X.env).map (·.2) := by rfl) : QGs X (e :: es) (is ++ js) (gsCons g gs) :=
  ⟨fun dk H0 => PGs.imp (pgs_cons (h1.run dk H0) (h2.run dk H0) hs) fun v σ H Q ⟨x, ρ, R, fz, rel, h, k⟩ => by
    cases fz with
    | nil => exact h.elim
    | cons fa fb =>
      refine ⟨_, _, rfl, _, ρ, _, fa, rel, h, fun ρ1 σ1 h1 rel1 w1 => ⟨_, ρ1, R, fb, rel1, h1, fun ρ2 σ2 hr rel2 w2 => k ρ2 σ2 hr rel2 fun vs hv => ?_⟩⟩
      rw [w2 vs fun i hi => hv i (List.mem_append_right _ hi), w1 vs fun i hi => hv i (List.mem_append_left _ hi)]⟩
def gT (n : Nat) (gs : TGsQ) : TGQ := fun x ρ R => match x with
  | .tuple xs => xs.length = n ∧ gs xs ρ R
  | _ => False
theorem qg_tup {es : List Expr} {k n : Nat} {is : List Nat} {gs : TGsQ} (hc : X.calm = true) (h : QGs X es is gs)
    (hn : (assignEach es X.env).length = n := by rfl) (hst : (assignEach es X.env).findIdx? (·.1) = none := by rfl) : QG X (.Tuple es k pos) is (gT n gs) :=
  ⟨fun dk H0 => PG.imp (pg_tup hc (h.run dk H0) hn hst) fun v σ H Q ⟨x, ρ, R, fz, rel, h, k⟩ => by
    cases fz with
    | tup q t => exact ⟨_, _, rfl, q, by rw [t.length]; exact h.1, _, ρ, R, t, rel, h.2, k⟩
    | _ => exact h.elim⟩
end

/-! ### what is walked -/
structure WalkD (K : PySem.W.Frag) (J : It) (ds : List PyData) (G : Hp → Prop) : Prop where
  goes : ∀ i H, i < ds.length → G H → J.go i H
  stops : ∀ H, G H → J.stop ds.length H
  yields : ∀ i H x H', i < ds.length → G H → J.yld i H x H' → ∃ d, ds[i]? = some d ∧ Fz K H' x d ∧ Same H H'
  stay : ∀ H H', G H → Ex H H' → G H'
def upI (K : PySem.W.Frag) (dk : Dk) (H0 : Hp) (t : TQL) : TI := fun σ H Q => ∃ ρ R, Rel K dk H0 ρ σ H ∧ t ρ R ∧ ∀ ds ρ' J G H', R ds ρ' → ds.length ≤ sizeLine → WalkD K J ds G → G H' → Rel K dk H0 ρ' σ H' → Ex H H' → Q J H'
structure QI (X : Cx) (tg iter : Expr) (t : TQL) : Prop where
  run : ∀ dk H0, PI X tg iter (upI X.K dk H0 t)
section
variable {X : Cx} {pos : Pos} {tg e a b : Expr} {te ta tb : TQ}
theorem PI.imp {tg iter : Expr} {g g' : TI} (h : PI X tg iter g) (w : ∀ σ H Q, g' σ H Q → g σ H Q) : PI X tg iter g' := ⟨fun pins s σ H Q I q => h.run pins s σ H Q I (w _ _ _ q)⟩
def G1 (K : PySem.W.Frag) (a : Addr) (o : Obj) (vs : List V) (ds : List PyData) : Hp → Prop := fun H => H a = some (.frz o (.lst vs)) ∧ FzAll K H vs ds
def G2 (K : PySem.W.Frag) (a : Addr) (vs : List V) (ds : List PyData) : Hp → Prop := fun H => SqT K H a vs ∧ FzAll K H vs ds
theorem wd_list {K : PySem.W.Frag} {a : Addr} {o : Obj} {vs : List V} {ds : List PyData} : WalkD K (Itl K a) ds (G1 K a o vs ds) := by
  refine ⟨fun i H hi ⟨q, f⟩ => ?_, fun H ⟨q, f⟩ => ?_, fun i H x H' hi ⟨q, f⟩ y => ?_, fun H H' ⟨q, f⟩ ex => ⟨ex.frz _ _ _ q, f.mono ex⟩⟩
  · exact ⟨vs, vs[i]'(by rw [f.length]; exact hi), .inl (.inr ⟨o, q⟩), by simp [f.length, hi]⟩
  · exact ⟨vs, .inl (.inr ⟨o, q⟩), by rw [f.length]; exact Nat.le_refl _⟩
  · obtain ⟨rfl, y⟩ := y
    obtain ⟨d, hd, fd⟩ := f.get (y vs (.inl (.inr ⟨o, q⟩)))
    exact ⟨d, hd, fd, Same.refl _⟩
theorem wd_tup {K : PySem.W.Frag} {a : Addr} {vs : List V} {ds : List PyData} : WalkD K (Itt K a) ds (G2 K a vs ds) := by
  refine ⟨fun i H hi ⟨q, f⟩ => ?_, fun H ⟨q, f⟩ => ?_, fun i H x H' hi ⟨q, f⟩ y => ?_, fun H H' ⟨q, f⟩ ex => ⟨ex.sqT q, f.mono ex⟩⟩
  · exact ⟨vs, vs[i]'(by rw [f.length]; exact hi), q, by simp [f.length, hi]⟩
  · exact ⟨vs, q, by rw [f.length]; exact Nat.le_refl _⟩
  · obtain ⟨rfl, y⟩ := y
    obtain ⟨d, hd, fd⟩ := f.get (y vs q)
    exact ⟨d, hd, fd, Same.refl _⟩
def chars (z : Str) : List PyData := z.cps.toList.map fun c => .str ⟨#[c]⟩
theorem wd_str {K : PySem.W.Frag} {z : Str} : WalkD K (Its z) (chars z) (fun _ => True) := by
  have hl : (chars z).length = z.cps.size := by simp [chars]
  refine ⟨fun i H hi _ => by rw [hl] at hi; exact hi, fun H _ => by show z.cps.size ≤ _; rw [hl]; exact Nat.le_refl _, fun i H x H' hi _ y => ?_, fun _ _ _ _ => True.intro⟩
  obtain ⟨rfl, c, hc, rfl⟩ := y
  refine ⟨.str ⟨#[c]⟩, ?_, .str _, Same.refl _⟩
  rw [Array.getElem?_eq_some_iff] at hc
  obtain ⟨h1, h2⟩ := hc
  simp [chars, h1, h2]
/-- any list, tuple or text -/
def itD (x : PyData) (R : List PyData → Prop) : Prop := match x with
  | .list ds => R ds
  | .tuple ds => R ds
  | .str z => z.length ≤ sizeLine ∧ R (chars z)
  | _ => False
def iQ (te : TQ) : TQL := fun ρ R => te ρ fun x ρ1 => itD x fun ds => R ds ρ1
/-- pyIter of a list, a tuple -/
theorem iter_l {pins : List (Addr × Obj)} {s1 : Shared} {σ : L2.St} {H1 : Hp} {a : Addr} {xs : List V} {R : It → Hp → Prop} (I1 : Inv X pins σ H1 s1) (hq : SqL X.K H1 a xs) (q : R (Itl X.K a) H1) :
    wpAny (model X.prog X.w) X.A (pyIter (.ref a)) (PIE X pins σ tg R) X.xe s1 := by
  obtain ⟨its, rv, p, hz⟩ := I1.list hq
  refine wpAny_pyIter_list p.isList ?_
  refine ⟨s1.heap.objs.size, [s1.heap.objs.size], _, _, H1, rfl, I1.kept (t' := s1.toks) fun b o e => Heap.get?_push_of_some _ e, turn_list a _, ⟨_, Heap.get?_push_size _ rfl, rfl, rfl⟩, fun b hb => ?_, q⟩
  have e : b = s1.heap.objs.size := by simpa using hb
  subst e
  exact I1.fpOk (Nat.le_refl _) (I1.hok.fresh (Nat.le_refl _))
theorem iter_t {pins : List (Addr × Obj)} {s1 : Shared} {σ : L2.St} {H1 : Hp} {a : Addr} {xs : List V} {R : It → Hp → Prop} (I1 : Inv X pins σ H1 s1) (hq : SqT X.K H1 a xs) (q : R (Itt X.K a) H1) :
    wpAny (model X.prog X.w) X.A (pyIter (.ref a)) (PIE X pins σ tg R) X.xe s1 := by
  obtain ⟨its, rv, p, hz⟩ := I1.tuple hq
  refine wpAny_pyIter_tuple (show s1.heap.IsTuple a its.toArray from p) ?_
  refine ⟨s1.heap.objs.size, [s1.heap.objs.size], _, _, H1, rfl, I1.kept (t' := s1.toks) fun b o e => Heap.get?_push_of_some _ e, turn_tuple a _, ⟨_, Heap.get?_push_size _ rfl, rfl, rfl⟩, fun b hb => ?_, q⟩
  have e : b = s1.heap.objs.size := by simpa using hb
  subst e
  exact I1.fpOk (Nat.le_refl _) (I1.hok.fresh (Nat.le_refl _))
theorem qi_e (he : QE X e te) : QI X tg e (iQ te) := by
  refine ⟨fun dk H0 => ⟨fun pins s σ H R I ⟨ρ, R0, rel, h, k⟩ => ?_⟩⟩
  refine thn ((he.run dk H0).run pins s σ H (fun v H1 => ∃ x ρ1, itD x (fun ds => R0 ds ρ1) ∧ Fz X.K H1 v x ∧ Rel X.K dk H0 ρ1 σ H1 ∧ Ex H H1) I ⟨ρ, _, rel, h, fun x ρ1 v H1 hx fz rel1 ex1 => ⟨x, ρ1, hx, fz, rel1, ex1⟩⟩) fun u s1 ⟨v, H1, I1, rv, x, ρ1, hx, fz, rel1, ex1⟩ => ?_
  cases fz with
  | lst q t =>
    cases rv
    obtain ⟨_, _, _, hz⟩ := I1.list (.inl (.inr ⟨_, q⟩))
    exact iter_l I1 (.inl (.inr ⟨_, q⟩)) (k _ ρ1 _ _ H1 hx (by rw [← t.length]; exact hz) wd_list ⟨q, t⟩ rel1 ex1)
  | tup q t =>
    cases rv
    obtain ⟨_, _, _, hz⟩ := I1.tuple q
    exact iter_t I1 q (k _ ρ1 _ _ H1 hx (by rw [← t.length]; exact hz) wd_tup ⟨q, t⟩ rel1 ex1)
  | str z =>
    obtain ⟨tk, rfl⟩ := rv
    have q := k (chars z) ρ1 _ _ H1 hx.2 (by rw [show (chars z).length = z.length by simp [chars, Str.length]]; exact hx.1) wd_str True.intro rel1 ex1
    cases ha : z.cps.all (· < 128)
    · exact wpAny_pyIter_wide ha (pi_one (tk := s1.toks) I1 _ (turn_str _ z tk "str_iterator" (.inr rfl)) ⟨_, Heap.get?_push_size _ rfl, rfl, rfl⟩ q)
    · exact wpAny_pyIter_ascii ha (pi_one (tk := s1.toks) I1 _ (turn_str _ z tk "str_ascii_iterator" (.inl rfl)) ⟨_, Heap.get?_push_size _ rfl, rfl, rfl⟩ q)
  | _ => exact hx.elim
end
end Q
end P5
section P6
namespace Q
open PySem PySem.Spec PyProof.Rows L2 HT

/-! ### enumerate of a tuple -/
theorem meets_enumerate_newT (l : Addr) (items : Array Value) :
    Meets (Builtin.«enumerate.__new__» ⟨[.type "enumerate", .ref l], []⟩) (fun _ R s => s.heap.IsTuple l items ∧
      R (.ok (.ret (.ref (s.heap.push { cls := .type "tuple_iterator", data := .fields #[.ref l, .int 0 0] }).objs.size)))
        { s with heap := (s.heap.push { cls := .type "tuple_iterator", data := .fields #[.ref l, .int 0 0] }).push { cls := .type "enumerate", data := .fields #[.none, .bool false, .ref s.heap.objs.size, rawInt 0, .none, .none] } }) :=
  .of_wp fun prog w A R s h => by
    obtain ⟨hp, g, d, tk, os⟩ := s; obtain ⟨hl, h⟩ := h
    have hsub := sub_enumerate
    have hL : Heap.IsTuple (Shared.heap ⟨hp, g, d, tk, os⟩) l items := hl
    wp_walk using wpAny_pyIter_tuple hL
    refine wpAny_stack_any fun st => wpAny_pure ?_
    split
    · rename_i c _ _ _ _ _
      cases (c == Value.type "enumerate")
      · wp_walk using wpAny_pyIter_tuple hL
        exact ⟨_, rfl, h⟩
      · wp_walk using wpAny_pyIter_tuple hL
        exact ⟨_, rfl, h⟩
    · wp_walk using wpAny_pyIter_tuple hL
      exact ⟨_, rfl, h⟩
theorem call_enumerate_tup {prog : Program} {w : World} {A : Around} {E : Value → Shared → Prop} {s : Shared} {l : Addr} {items : Array Value} {Q : Value → Shared → Prop} (hL : s.heap.IsTuple l items)
    (h : ∀ h', IsEnum h' (s.heap.objs.size + 1) s.heap.objs.size 0 .none → h'.IsTupleIter s.heap.objs.size l 0 → h'.objs.size = s.heap.objs.size + 2 →
      (∀ b o, s.heap.get? b = some o → h'.get? b = some o) → Q (.ref (s.heap.objs.size + 1)) { s with heap := h' }) :
    wpAny (model prog w) A (call (.type "enumerate") [.ref l]) Q E s := by
  refine callType_new F.called_enumerate (by decide) (F.typeCall_enumerate_1 _) (F.newCall_enumerate_1 _) (fun obj => F.args_object_init_2 obj _) F.entry_enumerate_new
    (meets_enumerate_newT l items) ⟨hL, ?_⟩
  have hz : (s.heap.push { cls := .type "tuple_iterator", data := .fields #[.ref l, .int 0 0] }).objs.size = s.heap.objs.size + 1 := Heap.size_push ..
  show _ ∧ _
  rw [hz]
  have he : IsEnum ((s.heap.push { cls := .type "tuple_iterator", data := .fields #[.ref l, .int 0 0] }).push
      { cls := .type "enumerate", data := .fields #[.none, .bool false, .ref s.heap.objs.size, rawInt 0, .none, .none] }) (s.heap.objs.size + 1) s.heap.objs.size 0 .none := by
    have := Heap.get?_push_size (s.heap.push { cls := .type "tuple_iterator", data := .fields #[.ref l, .int 0 0] })
      (o := { cls := .type "enumerate", data := .fields #[.none, .bool false, .ref s.heap.objs.size, rawInt 0, .none, .none] }) rfl
    rw [hz] at this; exact this
  refine ⟨⟨_, he, rfl⟩, h _ he ⟨_, Heap.get?_push_of_some _ (Heap.get?_push_size _ rfl), rfl, rfl⟩ (by rw [Heap.size_push, hz]) fun b o x => Heap.get?_push_of_some _ (Heap.get?_push_of_some _ x)⟩
def IteT (K : PySem.W.Frag) (a : Addr) : It :=
  ⟨fun i H => ∃ (xs : List V) (x : V), SqT K H a xs ∧ xs[i]? = some x, fun i H v H' => ∃ T x, v = .ref T ∧ H T = none ∧ H' = upd H T (.tup [.int (i : Nat), x]) ∧ ∀ xs, SqT K H a xs → xs[i]? = some x, fun i H => ∃ xs : List V, SqT K H a xs ∧ xs.length ≤ i⟩
theorem turn_enumT {P : Program} {w : World} {K : PySem.W.Frag} {elts : List Expr} {kk : Nat} {tpos : Pos} (a e it : Addr) (hea : e ≠ a) (hia : it ≠ a) :
    Turn P w K (.Tuple elts kk tpos) (IteT K a) [e, it] e (fun i h => (∃ old, IsEnum h e it ((i : Nat) : Int) old) ∧ h.IsTupleIter it a i ∧ e ≠ it) where
  mem := by simp
  obj := fun i h st b hb => by
    obtain ⟨⟨old, he⟩, ⟨o, ho, hc, hd⟩, _⟩ := st
    have e' : b = e ∨ b = it := by simpa using hb
    rcases e' with z | z
    · rw [z]; exact ⟨_, he, fun v q => nomatch q⟩
    · rw [z]; exact ⟨o, ho, fun v q => by rw [hd] at q; cases q⟩
  keep := fun i h h' st k => let ⟨⟨old, he⟩, hi, hne⟩ := st; ⟨⟨old, k e (by simp) _ he⟩, hi.at fun o q => k it (by simp) o q, hne⟩
  item := by
    intro X hP hw hK hc i pins s σ H E I hf st hg
    subst hP hw hK
    obtain ⟨⟨old, he⟩, hit, hne⟩ := st
    obtain ⟨xs, x, hq, hx⟩ := hg
    obtain ⟨its, rv, p, hz⟩ := I.tuple hq
    obtain ⟨u, hu, ru⟩ := rv.get hx
    have hel : e < s.heap.objs.size := Heap.lt_size he
    have hil : it < s.heap.objs.size := by obtain ⟨_, q, _⟩ := hit; exact Heap.lt_size q
    have hlt : i < its.toArray.size := by
      have := (List.getElem?_eq_some_iff.mp hu).1
      simpa using this
    refine wpAny_pyNext_enum_itemD (n := its.toArray.size) (fp := [it, a]) (Draws.tuple (show X.A.in1.handled = none from I.ok.hd hc) it a (Ne.symm hia) its.toArray) he ⟨hit, p⟩ hlt hne (by simp [hne, hea]) fun x' h' tk hPx ho hit' hT hsz hk => ?_
    have ex' : x' = u := by
      have h2 : its.toArray[i]? = some u := by simpa using hu
      rw [h2] at hPx
      exact (Option.some.inj hPx).symm
    subst ex'
    refine ⟨_, rfl, wpAny_letOwnedTupleGo_enum (s := { s with heap := h', toks := tk + 1 }) ho fun h'' he' sb => ?_⟩
    have hT2 : h''.get? s.heap.objs.size = some { cls := .type "tuple", data := .seq #[.int i tk, x'] } := (sb.2 _ (Nat.ne_of_gt hel)).trans hT
    have new : ObjOk X.prog X.w (upd H s.heap.objs.size (.tup [.int (i : Nat), x])) h'' s.heap.objs.size (.tup [.int (i : Nat), x]) :=
      ⟨by show 2 ≤ sizeLine; decide, [.int i tk, x'], .cons ⟨_, rfl⟩ (.cons ru .nil), ⟨_, hT2, rfl, _, rfl⟩⟩
    have I1 : Inv X pins σ (upd H s.heap.objs.size (.tup [.int (i : Nat), x])) { s with heap := h'', toks := tk + 1 } :=
      I.turnedNew (ch := [e, it]) (fun b ob hb q => (sb.2 b (fun z => hb (by simp [z]))).trans (hk b ob (fun z => hb (by simp [z])) (fun z => hb (by simp [z])) q)) hf (Nat.le_refl _) new
    refine ⟨.ref s.heap.objs.size, _, I1, rfl, ⟨_, x, rfl, I.hok.fresh (Nat.le_refl _), rfl, fun ys hy => by rw [I.tuple_inj hy hq]; exact hx⟩, ⟨⟨x', ?_⟩, hit'.1.at fun o q => (sb.2 it (Ne.symm hne)).trans q, hne⟩, fun b hb => ?_⟩
    · have e1 : ((i + 1 : Nat) : Int) = (i : Int) + 1 := by omega
      rw [e1]; exact he'
    · have hb' : b < s.heap.objs.size := by
        have e' : b = e ∨ b = it := by simpa using hb
        rcases e' with z | z
        · rw [z]; exact hel
        · rw [z]; exact hil
      rw [upd_ne (Nat.ne_of_lt hb')]
      exact (hf b hb).1
  done := by
    intro X hP hw hK hc i pins s σ H E I hf st hg
    subst hP hw hK
    obtain ⟨⟨old, he⟩, hit, hne⟩ := st
    obtain ⟨xs, hq, hx⟩ := hg
    obtain ⟨its, rv, p, hz⟩ := I.tuple hq
    obtain ⟨f0, f1, f2, f3, f4, f5⟩ := hf it (by simp)
    have hl := rv.length
    have hT : s.TypeIs (.ref e) "enumerate" := ⟨_, he, rfl⟩
    unfold pyNext
    refine wpAny_bind (wpAny_attempt (wpAny_callSpecial?_slot (name := Str.ofString "__next__") hT F.slot_enumerate_next
      (wpAny_call_entry F.slot_enumerate_next hT F.entry_enumerate_next ?_ (F.args_enumerate_next_1 _))))
    show wpAny _ _ (field (.ref e) 2 >>= _) _ _ _
    refine wpAny_bind (wpAny_field he rfl (x := .ref it) rfl ?_)
    refine wpAny_bind (wpAny_nextOf_tuple_end (show X.A.in1.handled = none from I.ok.hd hc) hit (show s.heap.IsTuple a its.toArray from p) (by simp; omega) fun h' x he' hx' => ?_)
    obtain ⟨o, ho, hc⟩ := hx'
    refine wpAny_bind (wpAny_isInstance (T := "StopIteration") (b := true) ⟨o, ho, hc⟩ isSubtype_stop ?_)
    exact wpAny_pure ⟨rfl, I.turned (t' := s.toks) (fun b o hb q => he' b o hb q) f0 f1 f3 f4 f5⟩
  self := fun A i s Q E st h => let ⟨⟨_, he⟩, _⟩ := st; wpAny_pyIter_enum he h
section
variable {X : Cx} {pos : Pos} {tg e a b : Expr} {te ta tb : TQ}
/-- pairs (place, item) -/
def enumFrom : Nat → List PyData → List PyData
  | _, [] => []
  | i, d :: ds => .tuple [.int (i : Nat), d] :: enumFrom (i + 1) ds
theorem enumFrom_length : ∀ (i : Nat) (ds : List PyData), (enumFrom i ds).length = ds.length
  | _, [] => rfl
  | i, d :: ds => by rw [enumFrom, List.length_cons, List.length_cons, enumFrom_length (i + 1) ds]
theorem enumFrom_at : ∀ {ds : List PyData} {k i : Nat} {d : PyData}, ds[i]? = some d → (enumFrom k ds)[i]? = some (.tuple [.int ((k + i : Nat) : Int), d])
  | [], _, _, _, h => by simp at h
  | d :: ds, k, 0, _, h => by simp at h; subst h; rfl
  | d :: ds, k, i + 1, _, h => by
    have := enumFrom_at (ds := ds) (k := k + 1) (i := i) (by simpa using h)
    rw [enumFrom, List.getElem?_cons_succ, this, show k + 1 + i = k + (i + 1) by omega]
theorem wd_enumL {K : PySem.W.Frag} {a : Addr} {o : Obj} {vs : List V} {ds : List PyData} : WalkD K (Ite K a) (enumFrom 0 ds) (G1 K a o vs ds) := by
  have ql : ∀ {H : Hp}, H a = some (.frz o (.lst vs)) → SqL K H a vs := fun q => .inl (.inr ⟨o, q⟩)
  refine ⟨fun i H hi ⟨q, f⟩ => ?_, fun H ⟨q, f⟩ => ?_, fun i H x H' hi ⟨q, f⟩ y => ?_, fun H H' ⟨q, f⟩ ex => ⟨ex.frz _ _ _ q, f.mono ex⟩⟩
  · rw [enumFrom_length] at hi
    exact ⟨vs, vs[i]'(by rw [f.length]; exact hi), ql q, by simp [f.length, hi]⟩
  · exact ⟨vs, ql q, by rw [enumFrom_length, f.length]; exact Nat.le_refl _⟩
  · obtain ⟨T, z, rfl, hT, rfl, hz⟩ := y
    obtain ⟨d, hd, fd⟩ := f.get (hz vs (ql q))
    have sm := same_upd (o := .tup [.int (i : Nat), z]) hT
    refine ⟨_, enumFrom_at hd, .tup (.inl (.inl upd_same)) (.cons ?_ (.cons (fd.mono (ex_same sm)) .nil)), sm⟩
    rw [Nat.zero_add]
    exact .int _
theorem wd_enumT {K : PySem.W.Frag} {a : Addr} {vs : List V} {ds : List PyData} : WalkD K (IteT K a) (enumFrom 0 ds) (G2 K a vs ds) := by
  refine ⟨fun i H hi ⟨q, f⟩ => ?_, fun H ⟨q, f⟩ => ?_, fun i H x H' hi ⟨q, f⟩ y => ?_, fun H H' ⟨q, f⟩ ex => ⟨ex.sqT q, f.mono ex⟩⟩
  · rw [enumFrom_length] at hi
    exact ⟨vs, vs[i]'(by rw [f.length]; exact hi), q, by simp [f.length, hi]⟩
  · exact ⟨vs, q, by rw [enumFrom_length, f.length]; exact Nat.le_refl _⟩
  · obtain ⟨T, z, rfl, hT, rfl, hz⟩ := y
    obtain ⟨d, hd, fd⟩ := f.get (hz vs q)
    have sm := same_upd (o := .tup [.int (i : Nat), z]) hT
    refine ⟨_, enumFrom_at hd, .tup (.inl (.inl upd_same)) (.cons ?_ (.cons (fd.mono (ex_same sm)) .nil)), sm⟩
    rw [Nat.zero_add]
    exact .int _
def itE (x : PyData) (R : List PyData → Prop) : Prop := match x with
  | .list ds => R (enumFrom 0 ds)
  | .tuple ds => R (enumFrom 0 ds)
  | _ => False
def iEn (te : TQ) : TQL := fun ρ R => te ρ fun x ρ1 => itE x fun ds => R ds ρ1
theorem qi_enum {p tpos : Pos} {elts : List Expr} {kk : Nat} (hg : Gl X "enumerate") (hm : X.mg "enumerate" = none) (he : QE X e te) (hs : starEach [e] X.env = [(false, eval e X.env)] := by rfl) :
    QI X (.Tuple elts kk tpos) (.Call (.Name "enumerate" p) [e] [] pos) (iEn te) := by
  refine ⟨fun dk H0 => ⟨fun pins s σ H R I ⟨ρ, R0, rel, h, k⟩ => ?_⟩⟩
  have ha : PA X [e] (upD X.K dk H0 (dCons te dNil)) := (qd_cons he qd_nil hs).run dk H0
  refine Call_ (ld_blt I hg hm boot_enumerate (PyProof.Rows.callWith_type1 (thn (ha.run pos pins s σ H (fun vs H1 => ∃ x ρ1, itE x (fun ds => R0 ds ρ1) ∧ FzAll X.K H1 vs [x] ∧ Rel X.K dk H0 ρ1 σ H1 ∧ Ex H H1) I
    ⟨ρ, fun xs ρ1 => ∃ x, xs = [x] ∧ itE x (fun ds => R0 ds ρ1), rel, ?_, fun xs ρ' vs H' hx fz rel1 ex1 => ?_⟩) fun us s1 ⟨vs, H1, I1, r1, q1⟩ => ?_) hs rfl))
  · show te ρ _
    have h : te ρ _ := h
    have e2 : (fun x ρ1 => dNil ρ1 fun xs ρ2 => ∃ y, x :: xs = [y] ∧ itE y (fun ds => R0 ds ρ2)) = fun x ρ1 => itE x (fun ds => R0 ds ρ1) := by
      funext x ρ1
      apply propext
      constructor
      · rintro ⟨y, e, q⟩
        cases e
        exact q
      · intro q
        exact ⟨x, rfl, q⟩
    exact Eq.mp (congrArg (te ρ) e2.symm) h
  · obtain ⟨x, rfl, hx⟩ := hx
    exact ⟨x, ρ', hx, fz, rel1, ex1⟩
  · obtain ⟨x, ρ1, hx, fz, rel1, ex1⟩ := q1
    cases fz with
    | cons fa fb =>
      cases fb
      cases r1 with
      | cons r rr =>
        cases rr
        have fr : ∀ b ∈ [s1.heap.objs.size + 1, s1.heap.objs.size], FpOk X pins H1 b := fun b hb => by
          have e' : b = s1.heap.objs.size + 1 ∨ b = s1.heap.objs.size := by simpa using hb
          have hle : s1.heap.objs.size ≤ b := by
            rcases e' with z | z
            · rw [z]; exact Nat.le_add_right _ _
            · rw [z]; exact Nat.le_refl _
          exact I1.fpOk hle (I1.hok.fresh hle)
        cases fa with
        | @lst a o vs ds q t =>
          cases r
          obtain ⟨its, rv, p', hz⟩ := I1.list (show SqL X.K H1 a vs from .inl (.inr ⟨_, q⟩))
          refine call_enumerate_list p'.isList fun h' he hit hsz hk => wpAny_pyIter_enum he ?_
          have I2 : Inv X pins σ H1 { s1 with heap := h' } := I1.kept (t' := s1.toks) hk
          exact ⟨s1.heap.objs.size + 1, [s1.heap.objs.size + 1, s1.heap.objs.size], _, _, H1, rfl, I2, turn_enum a (s1.heap.objs.size + 1) s1.heap.objs.size, ⟨⟨.none, he⟩, hit, Nat.succ_ne_self _⟩, fr,
            k _ ρ1 _ _ H1 hx (by rw [enumFrom_length, ← t.length]; exact hz) wd_enumL ⟨q, t⟩ rel1 ex1⟩
        | @tup a vs ds q t =>
          cases r
          obtain ⟨its, rv, p', hz⟩ := I1.tuple q
          have hal : a < s1.heap.objs.size := p'.lt
          refine call_enumerate_tup (show s1.heap.IsTuple a its.toArray from p') fun h' he hit hsz hk => wpAny_pyIter_enum he ?_
          have I2 : Inv X pins σ H1 { s1 with heap := h' } := I1.kept (t' := s1.toks) hk
          exact ⟨s1.heap.objs.size + 1, [s1.heap.objs.size + 1, s1.heap.objs.size], _, _, H1, rfl, I2, turn_enumT a (s1.heap.objs.size + 1) s1.heap.objs.size (Nat.ne_of_gt (Nat.lt_succ_of_lt hal)) (Nat.ne_of_gt hal), ⟨⟨.none, he⟩, hit, Nat.succ_ne_self _⟩, fr,
            k _ ρ1 _ _ H1 hx (by rw [enumFrom_length, ← t.length]; exact hz) wd_enumT ⟨q, t⟩ rel1 ex1⟩
        | _ => exact hx.elim
end
end Q
end P6
section P7
namespace Q
open PySem PySem.Spec PyProof.Rows L2 HT

/-! ### ranges -/
def rg (lo : Int) (n : Nat) : List PyData := (List.range n).map fun (i : Nat) => .int (lo + (i : Int))
theorem rg_length (lo : Int) (n : Nat) : (rg lo n).length = n := by simp [rg]
theorem wd_range {K : PySem.W.Frag} {lo : Int} {n : Nat} : WalkD K (Itr lo n) (rg lo n) (fun _ => True) := by
  refine ⟨fun i H hi _ => by rw [rg_length] at hi; exact hi, fun H _ => by show n ≤ _; rw [rg_length]; exact Nat.le_refl _, fun i H x H' hi _ y => ?_, fun _ _ _ _ => True.intro⟩
  obtain ⟨rfl, rfl⟩ := y
  rw [rg_length] at hi
  exact ⟨.int (lo + i), by simp [rg, hi], .int _, Same.refl _⟩
section
variable {X : Cx} {pos : Pos} {tg e a b : Expr} {te ta tb : TQ}
def rg1 (te : TQ) : TQL := fun ρ R => te ρ fun x ρ1 => match x with
  | .int n => -1000000 ≤ n ∧ n ≤ 1000000 ∧ R (rg 0 n.toNat) ρ1
  | _ => False
def rg2 (ta tb : TQ) : TQL := fun ρ R => ta ρ fun x ρ1 => tb ρ1 fun y ρ2 => match x, y with
  | .int i, .int j => -1000000 ≤ i ∧ i ≤ 1000000 ∧ -1000000 ≤ j ∧ j ≤ 1000000 ∧ R (rg i (j - i).toNat) ρ2
  | _, _ => False
theorem size_mil {n : Nat} (h : n ≤ 2000000) : n ≤ sizeLine := by rw [sizeLine_eq]; omega
theorem qi_range1 {p : Pos} (hg : Gl X "range") (hm : X.mg "range" = none) (he : QE X a ta) (hs : starEach [a] X.env = [(false, eval a X.env)] := by rfl) : QI X tg (.Call (.Name "range" p) [a] [] pos) (rg1 ta) :=
  ⟨fun dk H0 => PI.imp (pi_range1 hg hm ((qd_cons he qd_nil hs).run dk H0) hs) fun σ H R ⟨ρ, R0, rel, h, k⟩ =>
    ⟨ρ, fun xs ρ1 => ∃ n : Int, xs = [.int n] ∧ -1000000 ≤ n ∧ n ≤ 1000000 ∧ R0 (rg 0 n.toNat) ρ1, rel, by
      have h : ta ρ _ := h
      refine Eq.mp (congrArg (ta ρ) ?_) h
      funext x ρ1
      apply propext
      constructor
      · intro q
        cases x <;> first | exact q.elim | exact ⟨_, rfl, q⟩
      · rintro ⟨n, e, q⟩
        cases e
        exact q, fun xs ρ' vs H' hx fz rel1 ex1 => by
      obtain ⟨n, rfl, h1, h2, hr⟩ := hx
      cases fz with
      | cons fa fb =>
        cases fb
        cases fa
        exact ⟨n, rfl, by omega, by omega, k _ ρ' _ _ H' hr (by rw [rg_length]; exact size_mil (by omega)) wd_range True.intro rel1 ex1⟩⟩⟩
theorem qi_range2 {p : Pos} (hg : Gl X "range") (hm : X.mg "range" = none) (ha : QE X a ta) (hb : QE X b tb) (hs : starEach [a, b] X.env = [(false, eval a X.env), (false, eval b X.env)] := by rfl) (hs2 : starEach [b] X.env = [(false, eval b X.env)] := by rfl) :
    QI X tg (.Call (.Name "range" p) [a, b] [] pos) (rg2 ta tb) :=
  ⟨fun dk H0 => PI.imp (pi_range2 hg hm ((qd_cons ha (qd_cons hb qd_nil hs2) (by rw [hs, hs2])).run dk H0) hs hs2) fun σ H R ⟨ρ, R0, rel, h, k⟩ =>
    ⟨ρ, fun xs ρ1 => ∃ i j : Int, xs = [.int i, .int j] ∧ -1000000 ≤ i ∧ i ≤ 1000000 ∧ -1000000 ≤ j ∧ j ≤ 1000000 ∧ R0 (rg i (j - i).toNat) ρ1, rel, by
      have h : ta ρ _ := h
      refine Eq.mp (congrArg (ta ρ) ?_) h
      funext x ρ1
      show tb ρ1 _ = tb ρ1 _
      refine congrArg (tb ρ1) ?_
      funext y ρ2
      apply propext
      constructor
      · intro q
        cases x <;> cases y <;> first | exact q.elim | exact ⟨_, _, rfl, q⟩
      · rintro ⟨i, j, e, q⟩
        cases e
        exact q, fun xs ρ' vs H' hx fz rel1 ex1 => by
      obtain ⟨i, j, rfl, h1, h2, h3, h4, hr⟩ := hx
      cases fz with
      | cons fa fb =>
        cases fb with
        | cons fb fc =>
          cases fc
          cases fa
          cases fb
          exact ⟨i, j, rfl, ⟨by omega, by omega, by omega, by omega⟩, k _ ρ' _ _ H' hr (by rw [rg_length]; exact size_mil (by omega)) wd_range True.intro rel1 ex1⟩⟩⟩
end

/-! ### comprehensions -/
theorem wipe_in {i : Nat} {σ : L2.St} : ∀ {vs : List Nat}, i ∈ vs → (wipe σ vs)[i]? = if i < σ.length then some none else none
  | [], h => by cases h
  | w :: vs, h => by
    unfold wipe
    by_cases hw : w = i
    · subst hw
      by_cases hq : w < σ.length
      · rw [List.getElem?_set_self (by rw [wipe_length]; exact hq), if_pos hq]
      · rw [List.getElem?_eq_none (by rw [List.length_set, wipe_length]; omega), if_neg hq]
    · rw [List.getElem?_set_ne hw]
      refine wipe_in ?_
      rcases List.mem_cons.mp h with q | q
      · exact absurd q.symm hw
      · exact q
theorem wipe_idem {σ : L2.St} {vs : List Nat} : wipe (wipe σ vs) vs = wipe σ vs := by
  apply List.ext_getElem?
  intro i
  by_cases h : i ∈ vs
  · rw [wipe_in h, wipe_in h, wipe_length]
  · rw [wipe_out h]
section
variable {X : Cx} {pos : Pos} {tg iter elt c : Expr}
structure QTs (X : Cx) (ifs : List Expr) (t : TQB) : Prop where
  run : ∀ dk H0, PTs X ifs (upB X.K dk H0 t)
theorem PTs.imp {ifs : List Expr} {t t' : TT} (h : PTs X ifs t) (w : ∀ σ H Q, t' σ H Q → t σ H Q) : PTs X ifs t' := ⟨fun pins s σ H Q I q => h.run pins s σ H Q I (w _ _ _ q)⟩
def tY : TQB := fun ρ R => R true ρ
theorem qts_nil : QTs X [] tY := ⟨fun dk H0 => PTs.imp pts_nil fun σ H Q ⟨ρ, R, rel, h, k⟩ => k true ρ H h rel (Ex.refl H)⟩
theorem qts_one {t : TQB} (h : QT X c t) : QTs X [c] t := ⟨fun dk H0 => pts_one (h.run dk H0)⟩
def compQ (g : TGQ) (tt : TQB) (te : TQ) (vs : List Nat) : List PyData → List PyData → En → (List PyData → En → Prop) → Prop
  | [], acc, ρ, R => R acc ρ
  | x :: xs, acc, ρ, R => g x ρ fun ρ2 => tt ρ2 fun b ρ3 => if b = true then te ρ3 fun y ρ4 => compQ g tt te vs xs (acc ++ [y]) (wipeQ ρ4 vs) R else compQ g tt te vs xs acc (wipeQ ρ3 vs) R
def tLcQ (ti : TQL) (g : TGQ) (tt : TQB) (te : TQ) (vs : List Nat) : TQL := fun ρ R => ti ρ fun ds ρ1 => noOwn ρ1 vs = true ∧ compQ g tt te vs ds [] (wipeQ ρ1 vs) fun out ρ2 => R out (rstQ vs ρ1 ρ2)
variable {ifs : List Expr} {scope : Scope} {own : List (Str × Nat)} {ti : TQL} {is : List Nat} {g : TGQ} {tt : TQB} {te : TQ}
abbrev exG (K : PySem.W.Frag) (dk : Dk) (is : List Nat) (g : TGQ) : TG := fun v σ H Q => ∃ H0, upG K dk H0 is g v σ H Q
abbrev exB (K : PySem.W.Frag) (dk : Dk) (t : TQB) : TT := fun σ H Q => ∃ H0, upB K dk H0 t σ H Q
abbrev exE (K : PySem.W.Frag) (dk : Dk) (t : TQ) : TE := fun σ H Q => ∃ H0, up K dk H0 t σ H Q
theorem ite_ff' {A B : Prop} (h : if false = true then A else B) : B := by rwa [if_neg (by decide)] at h
theorem ite_tt' {A B : Prop} (h : if true = true then A else B) : A := by rwa [if_pos rfl] at h
theorem lc_read {dk : Dk} {H0 : Hp} (hsub : ∀ i ∈ is, i ∈ own.map (·.2)) (σ : L2.St) (H : Hp) (Q : VK) (h : upL X.K dk H0 (tLcQ ti g tt te (own.map (·.2))) σ H Q) :
    tLc (upI X.K dk H0 ti) (exG X.K dk is g) (exB X.K dk tt) (exE X.K dk te) (own.map (·.2)) σ H Q := by
  generalize hvs : own.map (·.2) = vs at *
  obtain ⟨ρ, R, rel, h, k⟩ := h
  refine ⟨ρ, _, rel, h, fun ds ρ1 J G H1 hds hlen W hG rel1 ex1 => fun D nD => ?_⟩
  obtain ⟨no, hc⟩ := hds
  have sm0 := same_upd (o := .lst []) nD
  have WW : Walk J ds.length G (fun i H x H' => ∃ d, ds[i]? = some d ∧ Fz X.K H' x d ∧ Same H H') := ⟨W.goes, W.stops, W.yields⟩
  refine lc_it WW (fun i H => ∃ acc vacc ρ', Rel X.K dk H0 ρ' (wipe σ vs) H ∧ H D = some (.lst vacc) ∧ FzAll X.K H vacc acc ∧ acc.length ≤ i ∧
      (compQ g tt te vs (ds.drop i) acc ρ' fun out ρ2 => R out (rstQ vs ρ1 ρ2)) ∧ G H ∧ Ex H1 H ∧ (∀ j, ¬ OwnAt ρ' (wipe σ vs) j D) ∧ H0 D = none)
    ⟨[], [], wipeQ ρ1 vs, (rel1.same sm0).wipe vs, upd_same, .nil, Nat.le_refl _, hc, W.stay _ _ hG (ex_same sm0), ex_same sm0, fun j q => ?_, rel1.fresh0 nD⟩ (fun i H _ ⟨_, _, _, _, _, _, _, _, q, _⟩ => q) ?_ ?_
  · obtain ⟨s, e, h1, h2⟩ := q
    rcases wipeQ_some e with rfl | ⟨e1, e2⟩
    · cases h1
    · rw [wipe_out e2] at h2
      exact rel1.freshOwn nD j ⟨s, e1, h1, h2⟩
  · rintro i x H2 H3 hi ⟨acc, vacc, ρ', r2, hD, facc, lacc, hcomp, hG2, ex2, no2, n0⟩ ⟨d, hd, fd, sm⟩
    have hdrop : ds.drop i = d :: ds.drop (i + 1) := by
      have := List.drop_eq_getElem_cons hi
      rw [this]
      congr 1
      exact Option.some.inj ((List.getElem?_eq_getElem hi).symm.trans hd)
    rw [hdrop] at hcomp
    have r3 := r2.same sm
    have hD3 := sm _ _ hD
    have dn1 : D ≠ dk.1 := fun z => r3.dk1 (by rw [← z]; exact n0)
    have dn2 : D ≠ dk.2 := fun z => r3.dk2 (by rw [← z]; exact n0)
    have keepD : ∀ {ρ4 : En} {σ4 : L2.St} {H4 : Hp}, Rel X.K dk (reb ρ' (wipe σ vs) H3) ρ4 σ4 H4 → H4 D = some (.lst vacc) ∧ ∀ j, ¬ OwnAt ρ4 σ4 j D := fun r4 => r3.flight r4 hD3 no2 dn1 dn2
    refine ⟨reb ρ' (wipe σ vs) H3, d, ρ', _, fd, r3.reb, hcomp, fun ρ2 σ2 hr rel2 w2 => ?_⟩
    have w2' : wipe σ2 vs = wipe σ vs := by rw [w2 vs hsub, wipe_idem]
    refine ⟨w2', reb ρ' (wipe σ vs) H3, ρ2, _, rel2, hr, fun bb ρ3 H4 hb rel3 ex3 => ?_⟩
    have ex3' : Ex H1 H4 := ex2.trans ((ex_same sm).trans ex3)
    cases bb with
    | false =>
      refine iteF ?_
      have hb := ite_ff' hb
      obtain ⟨k1, k2⟩ := keepD rel3
      have rw4 := (r3.back rel3).wipe vs
      rw [w2'] at rw4
      refine ⟨acc, vacc, _, rw4, k1, facc.mono ((ex_same sm).trans ex3), Nat.le_succ_of_le lacc, hb, W.stay _ _ hG2 ((ex_same sm).trans ex3), ex3', fun j q => ?_, n0⟩
      obtain ⟨s, e, h1, h2⟩ := q
      rcases wipeQ_some e with rfl | ⟨e1, e2⟩
      · cases h1
      · rw [← w2', wipe_out e2] at h2
        exact k2 j ⟨s, e1, h1, h2⟩
    | true =>
      refine iteT ?_
      have hb := ite_tt' hb
      refine ⟨reb ρ' (wipe σ vs) H3, ρ3, _, rel3, hb, fun y ρ4 v H5 hy fy rel4 ex4 => ?_⟩
      obtain ⟨k1, k2⟩ := keepD rel4
      have exx := (ex_same sm).trans (ex3.trans ex4)
      have rb := r3.back rel4
      obtain ⟨rf, exf⟩ := rb.freeze (o := .lst (vacc ++ [v])) k1 n0 k2
      have rw5 := rf.wipe vs
      rw [w2'] at rw5
      refine ⟨vacc, k1, by rw [facc.length]; omega, acc ++ [y], vacc ++ [v], _, rw5, upd_same, ((facc.mono exx).append (.one fy)).mono exf, by rw [List.length_append]; exact Nat.succ_le_succ lacc, hy,
        W.stay _ _ hG2 (exx.trans exf), ex3'.trans (ex4.trans exf), fun j q => ?_, n0⟩
      obtain ⟨s, e, h1, h2⟩ := q
      rcases wipeQ_some e with rfl | ⟨e1, e2⟩
      · cases h1
      · rw [← w2', wipe_out e2] at h2
        exact k2 j ⟨s, e1, h1, h2⟩
  · rintro H2 ⟨acc, vacc, ρ', r2, hD, facc, lacc, hcomp, hG2, ex2, no2, n0⟩
    rw [List.drop_length] at hcomp
    have rr := rel1.rst no ex2 r2
    refine k acc _ D vacc H2 hcomp hD facc n0 (fun j q => ?_) rr (ex1.trans ex2)
    obtain ⟨s, e, h1, h2⟩ := q
    rcases rstQ_some e with ⟨q1, rfl⟩ | ⟨q1, q2⟩
    · have := List.all_eq_true.mp no j q1
      rw [h1] at this
      cases this
    · exact no2 j ⟨s, q2, h1, by rw [wipe_out q1]; exact h2⟩
theorem ql_lc (hc : X.calm = true) (hN : X.N.Nodup) (hi : QI X tg iter ti) (ok : BlkOk X.N X.env.scope scope own)
    (hg : ∀ (s : Shared) (H : Hp) (C : Addr) (cl : List (Str × Addr)) (fp : List Addr), QG (X.blk s H scope (compEnvC scope cl C X.env) fp) tg is g) (hsub : ∀ i ∈ is, i ∈ own.map (·.2))
    (ht : ∀ (s : Shared) (H : Hp) (C : Addr) (cl : List (Str × Addr)) (fp : List Addr), QTs (X.blk s H scope (compEnvC scope cl C X.env) fp) ifs tt)
    (he : ∀ (s : Shared) (H : Hp) (C : Addr) (cl : List (Str × Addr)) (fp : List Addr), QE (X.blk s H scope (compEnvC scope cl C X.env) fp) elt te) (hs : ∀ x, foldedSetIterable iter X.env x = pure x := by intro _; rfl) :
    QL X (.ListComp elt [⟨tg, iter, ifs, 0⟩] scope pos) (tLcQ ti g tt te (own.map (·.2))) :=
  ⟨fun dk H0 => PE.imp (pe_lc hc hN (hi.run dk H0) ok
    (fun s H C cl fp => ⟨fun pins s' σ H' v u Q I r ⟨H1, q⟩ => ((hg s H C cl fp).run dk H1).run pins s' σ H' v u Q I r q⟩)
    (fun s H C cl fp => ⟨fun pins s' σ H' Q I ⟨H1, q⟩ => ((ht s H C cl fp).run dk H1).run pins s' σ H' Q I q⟩)
    (fun s H C cl fp => ⟨fun pins s' σ H' Q I ⟨H1, q⟩ => ((he s H C cl fp).run dk H1).run pins s' σ H' Q I q⟩) hs) (lc_read hsub)⟩
end
end Q
end P7
section P8
namespace Q
open PySem PySem.Spec PyProof.Rows L2 HT

section
variable {X : Cx} {pos : Pos} {st : Stmt} {rest body orelse : List Stmt} {tg e a b c iter : Expr} {te ta tb : TQ} {t u : TQS}
theorem EndsOk.ex {K : PySem.W.Frag} {dk : Dk} {H0 H H1 : Hp} {R : EndsQ} {D : Ends} (k : EndsOk K dk H0 H R D) (ex : Ex H H1) : EndsOk K dk H0 H1 R D :=
  ⟨fun ρ σ H' h r e => k.nx ρ σ H' h r (ex.trans e), k.rt, fun ρ σ H' h r e => k.bk ρ σ H' h r (ex.trans e), fun ρ σ H' h r e => k.ct ρ σ H' h r (ex.trans e)⟩
theorem Rel.stp {K : PySem.W.Frag} {dk : Dk} {H0 H : Hp} {ρ : En} {σ : L2.St} (r : Rel K dk H0 ρ σ H) : Step dk H0 H := ⟨r.keep, r.dok⟩
/-! ### blocks -/
def sNil : TQS := fun R ρ => R.nx ρ
def sSeq (t u : TQS) : TQS := fun R ρ => t { R with nx := u R } ρ
theorem qss_nil : QSs X [] sNil := ⟨fun dk H0 => PSs.imp pss_nil fun D σ H ⟨ρ, R, rel, h, k⟩ => k.nx ρ σ H h rel (Ex.refl H)⟩
theorem qss_cons (h1 : QS X st t) (h2 : QSs X rest u) : QSs X (st :: rest) (sSeq t u) :=
  ⟨fun dk H0 => PSs.imp (pss_cons (h1.run dk H0) (h2.run dk H0)) fun D σ H ⟨ρ, R, rel, h, k⟩ =>
    ⟨ρ, _, rel, h, ⟨fun ρ' σ' H' hn rel' ex => ⟨ρ', R, rel', hn, k.ex ex⟩, k.rt, k.bk, k.ct⟩⟩⟩
theorem qss_one (h1 : QS X st t) : QSs X [st] t := ⟨fun dk H0 => pss_one (h1.run dk H0)⟩
theorem qs_pass : QS X (.Pass pos) sNil := ⟨fun dk H0 => PS.imp ps_pass fun D σ H ⟨ρ, R, rel, h, k⟩ => k.nx ρ σ H h rel (Ex.refl H)⟩
def sBrk : TQS := fun R ρ => R.bk ρ
def sCt : TQS := fun R ρ => R.ct ρ
theorem qs_break : QS X (.Break pos) sBrk := ⟨fun dk H0 => PS.imp ps_break fun D σ H ⟨ρ, R, rel, h, k⟩ => k.bk ρ σ H h rel (Ex.refl H)⟩
theorem qs_continue : QS X (.Continue pos) sCt := ⟨fun dk H0 => PS.imp ps_continue fun D σ H ⟨ρ, R, rel, h, k⟩ => k.ct ρ σ H h rel (Ex.refl H)⟩
def sRet (te : TQ) : TQS := fun R ρ => te ρ fun x _ => R.rt x
theorem qs_ret (he : QE X e te) : QS X (.Return (some e) pos) (sRet te) :=
  ⟨fun dk H0 => PS.imp (ps_ret (he.run dk H0)) fun D σ H ⟨ρ, R, rel, h, k⟩ => ⟨ρ, _, rel, h, fun x ρ' v H' hx fz rel' ex => k.rt x v H' hx fz rel'.stp⟩⟩
def sRetN : TQS := fun R _ => R.rt .none
theorem qs_retN : QS X (.Return none pos) sRetN := ⟨fun dk H0 => PS.imp ps_retN fun D σ H ⟨ρ, R, rel, h, k⟩ => k.rt .none .non H h .non rel.stp⟩
def sNever : TQS := fun _ _ => False
theorem qs_never : QS X st sNever := ⟨fun dk H0 => PS.imp ps_never fun D σ H ⟨ρ, R, rel, h, k⟩ => h⟩
def sExpr (te : TQ) : TQS := fun R ρ => te ρ fun _ ρ1 => R.nx ρ1
theorem qs_expr (he : QE X e te) (hs : swapsWith e none pos.line X.env = pure false := by rfl) : QS X (.Expr e pos) (sExpr te) :=
  ⟨fun dk H0 => PS.imp (ps_expr (he.run dk H0) hs) fun D σ H ⟨ρ, R, rel, h, k⟩ => ⟨ρ, _, rel, h, fun x ρ' v H' hx fz rel' ex => k.nx ρ' σ H' hx rel' ex⟩⟩
def sIf (c : TQB) (t u : TQS) : TQS := fun R ρ => c ρ fun b ρ1 => if b = true then t R ρ1 else u R ρ1
theorem qs_if {tc : TQB} (hc : QT X c tc) (ha : QSs X body t) (hb : QSs X orelse u) : QS X (.If c body orelse pos) (sIf tc t u) :=
  ⟨fun dk H0 => PS.imp (ps_if (hc.run dk H0) (ha.run dk H0) (hb.run dk H0)) fun D σ H ⟨ρ, R, rel, h, k⟩ => ⟨ρ, _, rel, h, fun b ρ1 H1 hb rel1 ex1 => by
    cases b with
    | true => exact iteT ⟨ρ1, R, rel1, ite_tt' hb, k.ex ex1⟩
    | false => exact iteF ⟨ρ1, R, rel1, ite_ff' hb, k.ex ex1⟩⟩⟩
/-! ### assignments -/
def sAsg (te : TQ) (g : TGQ) : TQS := fun R ρ => te ρ fun x ρ1 => g x ρ1 R.nx
theorem qs_asg {is : List Nat} {g : TGQ} (he : QE X e te) (hg : QG X tg is g) (hs : swapsWithSole [tg] e pos.line X.env = pure false := by rfl) (hw : swappedStores [tg] e X.env = pure none := by rfl)
    (h1 : (assignEach [tg] X.env).map (·.2) = [assign tg X.env] := by rfl) : QS X (.Assign [tg] e pos) (sAsg te g) :=
  ⟨fun dk H0 => PS.imp (ps_asg (he.run dk H0) (hg.run dk H0) hs hw h1) fun D σ H ⟨ρ, R, rel, h, k⟩ => ⟨ρ, _, rel, h, fun x ρ1 v H1 hx fz rel1 ex1 =>
    ⟨x, ρ1, _, fz, rel1, hx, fun ρ' σ' hr rel' _ => k.nx ρ' σ' H1 hr rel' ex1⟩⟩⟩
def sSet (i : Nat) (te : TQ) : TQS := fun R ρ => te ρ fun x ρ1 => R.nx (ρ1.set i (.d x))
theorem qs_set (i : Nat) {x : Str} {pos' : Pos} (hN : X.N.Nodup) (he : QE X e te) (hi : X.N[i]? = some x := by rfl) (hx : Loc X.env.scope x := by first | exact Or.inl rfl | exact Or.inr rfl) (hs : swapsWith e (some (.Name x pos')) pos.line X.env = pure false := by rfl)
    (hf : X.fn x = true ∨ X.env.scope.names.lookup x = some .local := by first | exact .inl rfl | exact .inr rfl) : QS X (.Assign [.Name x pos'] e pos) (sSet i te) :=
  ⟨fun dk H0 => PS.imp (ps_set hN hi hx (he.run dk H0) hs hf) fun D σ H ⟨ρ, R, rel, h, k⟩ => ⟨ρ, _, rel, h, fun x ρ1 v H1 hx fz rel1 ex1 =>
    k.nx _ _ H1 hx (rel1.set ⟨v, rfl, fz⟩ fun a z => nomatch z) ex1⟩⟩
def sSetL (i : Nat) (t : TQL) : TQS := fun R ρ => t ρ fun xs ρ1 => R.nx (ρ1.set i (.own xs))
theorem qs_setL (i : Nat) {x : Str} {pos' : Pos} {t : TQL} (hN : X.N.Nodup) (he : QL X e t) (hi : X.N[i]? = some x := by rfl) (hx : Loc X.env.scope x := by first | exact Or.inl rfl | exact Or.inr rfl) (hs : swapsWith e (some (.Name x pos')) pos.line X.env = pure false := by rfl)
    (hf : X.fn x = true ∨ X.env.scope.names.lookup x = some .local := by first | exact .inl rfl | exact .inr rfl) : QS X (.Assign [.Name x pos'] e pos) (sSetL i t) :=
  ⟨fun dk H0 => PS.imp (ps_set hN hi hx (he.run dk H0) hs hf) fun D σ H ⟨ρ, R, rel, h, k⟩ => ⟨ρ, _, rel, h, fun xs ρ1 p vs H1 hx e1 fz n0 no rel1 ex1 =>
    k.nx _ _ H1 hx (rel1.set ⟨p, vs, rfl, e1, fz, n0⟩ fun a _ z => by cases z; exact no) ex1⟩⟩
/-- y = [.. for ..], y a plain local -/
theorem qs_setLc (i : Nat) {y : Str} {py spos : Pos} {elt : Expr} {ifs : List Expr} {scope : Scope} {own : List (Str × Nat)} {ti : TQL} {is : List Nat} {g : TGQ} {tt : TQB} (hc : X.calm = true) (hN : X.N.Nodup) (hyl : X.env.scope.names.lookup y = some .local)
    (hsw : swapsWith (.ListComp elt [⟨tg, iter, ifs, 0⟩] scope pos) (some (.Name y py)) spos.line X.env = pure true)
    (hi : QI X tg iter ti) (ok : BlkOk X.N X.env.scope scope own)
    (hg : ∀ (s : Shared) (H : Hp) (C : Addr) (cl : List (Str × Addr)) (fp : List Addr), QG (X.blk s H scope (compEnvC scope cl C X.env) fp) tg is g) (hsub : ∀ i ∈ is, i ∈ own.map (·.2))
    (ht : ∀ (s : Shared) (H : Hp) (C : Addr) (cl : List (Str × Addr)) (fp : List Addr), QTs (X.blk s H scope (compEnvC scope cl C X.env) fp) ifs tt)
    (he : ∀ (s : Shared) (H : Hp) (C : Addr) (cl : List (Str × Addr)) (fp : List Addr), QE (X.blk s H scope (compEnvC scope cl C X.env) fp) elt te) (hy : X.N[i]? = some y := by rfl) (hs : ∀ x, foldedSetIterable iter X.env x = pure x := by intro _; rfl) :
    QS X (.Assign [.Name y py] (.ListComp elt [⟨tg, iter, ifs, 0⟩] scope pos) spos) (sSetL i (tLcQ ti g tt te (own.map (·.2)))) :=
  ⟨fun dk H0 => PS.imp (ps_setLc hc hN hy hyl hsw (hi.run dk H0) ok
    (fun s H C cl fp => ⟨fun pins s' σ H' v u Q I r ⟨H1, q⟩ => ((hg s H C cl fp).run dk H1).run pins s' σ H' v u Q I r q⟩)
    (fun s H C cl fp => ⟨fun pins s' σ H' Q I ⟨H1, q⟩ => ((ht s H C cl fp).run dk H1).run pins s' σ H' Q I q⟩)
    (fun s H C cl fp => ⟨fun pins s' σ H' Q I ⟨H1, q⟩ => ((he s H C cl fp).run dk H1).run pins s' σ H' Q I q⟩) hs) fun D σ H ⟨ρ, R, rel, h, k⟩ =>
    lc_read (X := X) (dk := dk) (H0 := H0) hsub σ H _ ⟨ρ, _, rel, h, fun xs ρ1 p vs H1 hx e1 fz n0 no rel1 ex1 =>
      k.nx _ _ H1 hx (rel1.set ⟨p, vs, rfl, e1, fz, n0⟩ fun a _ z => by cases z; exact no) ex1⟩⟩
/-! ### for, while -/
def forQ (g : TGQ) (tb : TQS) (R : EndsQ) : List PyData → En → Prop
  | [], ρ => R.nx ρ
  | x :: xs, ρ => g x ρ fun ρ1 => tb { nx := forQ g tb R xs, rt := R.rt, bk := R.nx, ct := forQ g tb R xs } ρ1
def sFor (ti : TQL) (g : TGQ) (tb : TQS) : TQS := fun R ρ => ti ρ fun ds ρ1 => forQ g tb R ds ρ1
theorem qs_for {ti : TQL} {is : List Nat} {g : TGQ} {tb : TQS} (hp : PassesOwn (model X.prog X.w) X.A X.env X.xe) (hc : X.calm = true) (hi : QI X tg iter ti) (hg : QG X tg is g) (hb : QSs X body tb)
    (hs : ∀ x, foldedSetIterable iter X.env x = pure x := by intro _; rfl) : QS X (.For tg iter body [] pos) (sFor ti g tb) := by
  refine ⟨fun dk H0 => PS.imp (ps_for hp hc (hi.run dk H0) (hg.run dk H0) (hb.run dk H0) hs) fun D σ H ⟨ρ, R, rel, h, k⟩ => ⟨ρ, _, rel, h, fun ds ρ1 J G H1 hds hlen W hG rel1 ex1 => ?_⟩⟩
  have WW : Walk J ds.length G (fun i H x H' => ∃ d, ds[i]? = some d ∧ Fz X.K H' x d ∧ Same H H') := ⟨W.goes, W.stops, W.yields⟩
  refine for_it WW (fun i σ H => ∃ ρ', Rel X.K dk H0 ρ' σ H ∧ forQ g tb R (ds.drop i) ρ' ∧ G H ∧ Ex H1 H) ⟨ρ1, rel1, hds, hG, Ex.refl _⟩ (fun i σ H _ ⟨_, _, _, q, _⟩ => q) ?_ ?_
  · rintro i x σ2 H2 H3 hi ⟨ρ', r2, hf, hG2, ex2⟩ ⟨d, hd, fd, sm⟩
    have hdrop : ds.drop i = d :: ds.drop (i + 1) := by
      have := List.drop_eq_getElem_cons hi
      rw [this]
      congr 1
      exact Option.some.inj ((List.getElem?_eq_getElem hi).symm.trans hd)
    rw [hdrop] at hf
    refine ⟨d, ρ', _, fd, r2.same sm, hf, fun ρ3 σ3 h3 rel3 _ => ⟨ρ3, _, rel3, h3, ?_⟩⟩
    have e3 : Ex H1 H3 := ex2.trans (ex_same sm)
    exact ⟨fun ρ4 σ4 H4 h4 rel4 ex4 => ⟨ρ4, rel4, h4, W.stay _ _ hG2 ((ex_same sm).trans ex4), e3.trans ex4⟩, k.rt,
      fun ρ4 σ4 H4 h4 rel4 ex4 => k.nx ρ4 σ4 H4 h4 rel4 (ex1.trans (e3.trans ex4)),
      fun ρ4 σ4 H4 h4 rel4 ex4 => ⟨ρ4, rel4, h4, W.stay _ _ hG2 ((ex_same sm).trans ex4), e3.trans ex4⟩⟩
  · rintro σ2 H2 ⟨ρ', r2, hf, hG2, ex2⟩
    rw [List.drop_length] at hf
    exact k.nx ρ' σ2 H2 hf r2 (ex1.trans ex2)
def sWhile (c : TQB) (tb : TQS) : TQS := fun R ρ => ∃ W : Nat → En → Prop, (∃ m, W m ρ) ∧ ∀ m ρ, W m ρ → c ρ fun b ρ1 =>
  if b = true then tb { nx := fun ρ' => ∃ m', m' < m ∧ W m' ρ', rt := R.rt, bk := R.nx, ct := fun ρ' => ∃ m', m' < m ∧ W m' ρ' } ρ1 else R.nx ρ1
theorem qs_while {tc : TQB} {tb : TQS} (hp : PassesOwn (model X.prog X.w) X.A X.env X.xe) (hc : QT X c tc) (hb : QSs X body tb) : QS X (.While c body [] pos) (sWhile tc tb) := by
  refine ⟨fun dk H0 => PS.imp (ps_while hp (hc.run dk H0) (hb.run dk H0)) fun D σ H ⟨ρ, R, rel, ⟨W, ⟨m0, w0⟩, step⟩, k⟩ => ?_⟩
  refine ⟨fun m σ' H' => ∃ ρ', Rel X.K dk H0 ρ' σ' H' ∧ W m ρ' ∧ Ex H H', ⟨m0, ρ, rel, w0, Ex.refl H⟩, fun m σ1 H1 ⟨ρ1, rel1, w1, ex1⟩ => ⟨ρ1, _, rel1, step m ρ1 w1, fun b ρ2 H2 hb rel2 ex2 => ?_⟩⟩
  cases b with
  | true =>
    refine iteT ⟨fun σ' H' => ∃ m', m' < m ∧ ∃ ρ', Rel X.K dk H0 ρ' σ' H' ∧ W m' ρ' ∧ Ex H H', fun σ' H' ⟨m', h1, h2⟩ => ⟨m', h1, h2⟩, ρ2, _, rel2, ite_tt' hb, ?_⟩
    exact ⟨fun ρ3 σ3 H3 ⟨m', h1, h2⟩ rel3 ex3 => ⟨m', h1, ρ3, rel3, h2, ex1.trans (ex2.trans ex3)⟩, k.rt, fun ρ3 σ3 H3 h3 rel3 ex3 => k.nx ρ3 σ3 H3 h3 rel3 (ex1.trans (ex2.trans ex3)),
      fun ρ3 σ3 H3 ⟨m', h1, h2⟩ rel3 ex3 => ⟨m', h1, ρ3, rel3, h2, ex1.trans (ex2.trans ex3)⟩⟩
  | false => exact iteF (k.nx ρ2 σ1 H2 (ite_ff' hb) rel2 (ex1.trans ex2))
end

/-! ### a, b = e1, e2 with plain local names -/
inductive PsOk (K : PySem.W.Frag) (dk : Dk) (H0 H : Hp) (ρ : En) (σ : L2.St) : List V → List Sl → Prop
  | nil : PsOk K dk H0 H ρ σ [] []
  | cons {v : V} {s : Sl} {vs : List V} {ss : List Sl} : SlOk K dk H0 H (some (some v)) s → (∀ a, s.isOwn = true → v = .ref a → (∀ j, ¬ OwnAt ρ σ j a) ∧ ∀ (j : Nat) s', vs[j]? = some (.ref a) → ss[j]? = some s' → s'.isOwn = false) →
      PsOk K dk H0 H ρ σ vs ss → PsOk K dk H0 H ρ σ (v :: vs) (s :: ss)
abbrev TQP := En → (List Sl → En → Prop) → Prop
def upP (K : PySem.W.Frag) (dk : Dk) (H0 : Hp) (t : TQP) : TA := fun σ H Q => ∃ ρ R, Rel K dk H0 ρ σ H ∧ t ρ R ∧ ∀ ss ρ' vs H', R ss ρ' → PsOk K dk H0 H' ρ' σ vs ss → Rel K dk H0 ρ' σ H' → Ex H H' → Q vs H'
structure QPs (X : Cx) (es : List Expr) (t : TQP) : Prop where
  run : ∀ dk H0, PA X es (upP X.K dk H0 t)
section
variable {X : Cx} {pos : Pos} {e a b c : Expr} {es : List Expr} {te : TQ}
def pNil : TQP := fun ρ R => R [] ρ
def pD (te : TQ) (t : TQP) : TQP := fun ρ R => te ρ fun x ρ1 => t ρ1 fun ss ρ2 => R (.d x :: ss) ρ2
def pO (te : TQL) (t : TQP) : TQP := fun ρ R => te ρ fun xs ρ1 => t ρ1 fun ss ρ2 => R (.own xs :: ss) ρ2
theorem qp_nil : QPs X [] pNil := ⟨fun dk H0 => PA.imp pa_nil fun σ H Q ⟨ρ, R, rel, h, k⟩ => k [] ρ [] H h .nil rel (Ex.refl H)⟩
theorem qp_d {t : TQP} (he : QE X e te) (ht : QPs X es t) (hs : starEach (e :: es) X.env = (false, eval e X.env) :: starEach es X.env := by rfl) : QPs X (e :: es) (pD te t) :=
  ⟨fun dk H0 => PA.imp (pa_cons (he.run dk H0) (ht.run dk H0) hs) fun σ H Q ⟨ρ, R, rel, h, k⟩ =>
    ⟨ρ, _, rel, h, fun x ρ1 v H1 hx fz rel1 ex1 => ⟨ρ1, _, rel1, hx, fun ss ρ2 vs H2 hxs ps rel2 ex2 => k _ ρ2 (v :: vs) H2 hxs (.cons ⟨v, rfl, fz.mono ex2⟩ (fun a z => nomatch z) ps) rel2 (ex1.trans ex2)⟩⟩⟩
theorem PsOk.back {K : PySem.W.Frag} {dk : Dk} {H0 H H' : Hp} {ρ ρ' : En} {σ σ' : L2.St} (r : Rel K dk H0 ρ σ H) : ∀ {vs : List V} {ss : List Sl}, PsOk K dk (reb ρ σ H) H' ρ' σ' vs ss → PsOk K dk H0 H' ρ' σ' vs ss
  | _, _, .nil => .nil
  | _, _, .cons (s := s) h1 h2 t => by
    have n0 : ∀ a, reb ρ σ H a = none → H0 a = none := fun a e => by
      by_cases h : ∃ j, OwnAt ρ σ j a
      · obtain ⟨j, h⟩ := h; exact r.own0 h
      · rw [reb_not fun j q => h ⟨j, q⟩] at e; exact r.fresh0 e
    refine .cons ?_ h2 (PsOk.back r t)
    cases s with
    | own xs => obtain ⟨a, w, e1, e2, e3, e4⟩ := h1; exact ⟨a, w, e1, e2, e3, n0 a e4⟩
    | owd xs => obtain ⟨a, w, e1, e2, e3, e4⟩ := h1; exact ⟨a, w, e1, e2, e3, n0 a e4⟩
    | _ => exact h1
theorem PsOk.none0 {K : PySem.W.Frag} {dk : Dk} {H0 H : Hp} {ρ : En} {σ : L2.St} : ∀ {vs : List V} {ss : List Sl}, PsOk K dk H0 H ρ σ vs ss → ∀ (j : Nat) s' a, vs[j]? = some (.ref a) → ss[j]? = some s' → s'.isOwn = true → H0 a = none
  | _, _, .nil, j, s', a, h, _, _ => by simp at h
  | _, _, .cons (s := s) h1 h2 t, 0, s', a, h, h', o => by
    simp at h h'
    subst h h'
    cases s with
    | own xs => obtain ⟨b, w, e1, e2, e3, e4⟩ := h1; cases e1; exact e4
    | owd xs => obtain ⟨b, w, e1, e2, e3, e4⟩ := h1; cases e1; exact e4
    | _ => cases o
  | _, _, .cons h1 h2 t, j + 1, s', a, h, h', o => PsOk.none0 t j s' a (by simpa using h) (by simpa using h') o
theorem qp_o {tl : TQL} {t : TQP} (he : QL X e tl) (ht : QPs X es t) (hs : starEach (e :: es) X.env = (false, eval e X.env) :: starEach es X.env := by rfl) : QPs X (e :: es) (pO tl t) := by
  refine ⟨fun dk H0 => ?_⟩
  have ht' : PA X es (fun σ H Q => ∃ H1, upP X.K dk H1 t σ H Q) := ⟨fun pos pins s σ H Q I ⟨H1, q⟩ => (ht.run dk H1).run pos pins s σ H Q I q⟩
  refine PA.imp (pa_cons (he.run dk H0) ht' hs) fun σ H Q ⟨ρ, R, rel, h, k⟩ => ⟨ρ, _, rel, h, fun xs ρ1 p vs H1 hx e1 fz n0 no rel1 ex1 => ?_⟩
  refine ⟨reb ρ1 σ H1, ρ1, _, rel1.reb, hx, fun ss ρ2 ws H2 hxs ps rel2 ex2 => ?_⟩
  have dn1 : p ≠ dk.1 := fun z => rel1.dk1 (by rw [← z]; exact n0)
  have dn2 : p ≠ dk.2 := fun z => rel1.dk2 (by rw [← z]; exact n0)
  obtain ⟨e2, no2⟩ := rel1.flight rel2 e1 no dn1 dn2
  refine k _ ρ2 (.ref p :: ws) H2 hxs (.cons ⟨p, vs, rfl, e2, fz.mono ex2, n0⟩ (fun a _ z => ?_) (ps.back rel1)) (rel1.back rel2) (ex1.trans ex2)
  cases z
  refine ⟨no2, fun j s' h1 h2 => ?_⟩
  cases ho : s'.isOwn with
  | false => rfl
  | true =>
    have := ps.none0 j s' p h1 h2 ho
    rw [reb_not no, e1] at this
    cases this
def sPar2 (i j : Nat) (t : TQP) : TQS := fun R ρ => t ρ fun ss ρ1 => match ss with
  | [s1, s2] => R.nx ((ρ1.set i s1).set j s2)
  | _ => False
theorem own_set {ρ : En} {σ : L2.St} {i k : Nat} {s : Sl} {v : V} {a : Addr} (h : OwnAt (ρ.set i s) (σ.set i (some v)) k a) : (s.isOwn = true ∧ v = .ref a) ∨ OwnAt ρ σ k a := by
  obtain ⟨t, e, w1, w2⟩ := h
  by_cases hj : i = k
  · subst hj
    have il : i < (ρ.set i s).length := (List.getElem?_eq_some_iff.mp e).1
    rw [List.length_set] at il
    rw [List.getElem?_set_self il] at e
    cases e
    have il2 : i < (σ.set i (some v)).length := (List.getElem?_eq_some_iff.mp w2).1
    rw [List.length_set] at il2
    rw [List.getElem?_set_self il2] at w2
    exact .inl ⟨w1, Option.some.inj (Option.some.inj w2)⟩
  · rw [List.getElem?_set_ne hj] at e w2
    exact .inr ⟨t, e, w1, w2⟩
theorem qs_par2 (i j : Nat) {x y : Str} {px py pt : Pos} {t : TQP} {kt k2 pt2} (hc : X.calm = true) (hN : X.N.Nodup) (ha : QPs X [a, b] t)
    (hi : X.N[i]? = some x := by rfl) (hj : X.N[j]? = some y := by rfl) (hij : i ≠ j := by decide)
    (hx : X.env.scope.names.lookup x = some .local := by rfl) (hy : X.env.scope.names.lookup y = some .local := by rfl)
    (hw : swappedStores [.Tuple [.Name x px, .Name y py] kt pt] (.Tuple [a, b] k2 pt2) X.env = pure (some [x, y]) := by rfl)
    (hs : swapsWithSole [.Tuple [.Name x px, .Name y py] kt pt] (.Tuple [a, b] k2 pt2) pos.line X.env = pure false := by rfl) :
    QS X (.Assign [.Tuple [.Name x px, .Name y py] kt pt] (.Tuple [a, b] k2 pt2) pos) (sPar2 i j t) :=
  ⟨fun dk H0 => PS.imp (ps_par hc hN hi hj hij hx hy (ha.run dk H0) hw hs) fun D σ H ⟨ρ, R, rel, h, k⟩ => ⟨ρ, _, rel, h, fun ss ρ1 vs H1 hss ps rel1 ex1 => by
    cases ps with
    | nil => exact hss.elim
    | cons h1 h2 ps =>
      cases ps with
      | nil => exact hss.elim
      | cons h3 h4 ps =>
        cases ps with
        | cons _ _ _ => exact hss.elim
        | nil =>
          refine ⟨_, _, rfl, k.nx _ _ H1 hss ((rel1.set h1 fun a o z => (h2 a o z).1).set h3 fun a o z l q => ?_) ex1⟩
          rcases own_set q with ⟨o1, z1⟩ | q
          · have := (h2 a o1 z1).2 0 _ (by rw [z]; rfl) rfl
            rw [o] at this; cases this
          · exact (h4 a o z).1 l q⟩⟩
def sPar3 (i j l : Nat) (t : TQP) : TQS := fun R ρ => t ρ fun ss ρ1 => match ss with
  | [s1, s2, s3] => R.nx (((ρ1.set i s1).set j s2).set l s3)
  | _ => False
theorem qs_par3 (i j l : Nat) {x y z : Str} {px py pz pt : Pos} {t : TQP} {kt k2 pt2} (hc : X.calm = true) (hN : X.N.Nodup) (ha : QPs X [a, b, c] t)
    (hi : X.N[i]? = some x := by rfl) (hj : X.N[j]? = some y := by rfl) (hl : X.N[l]? = some z := by rfl) (hij : i ≠ j := by decide) (hil : i ≠ l := by decide) (hjl : j ≠ l := by decide)
    (hx : X.env.scope.names.lookup x = some .local := by rfl) (hy : X.env.scope.names.lookup y = some .local := by rfl) (hz : X.env.scope.names.lookup z = some .local := by rfl)
    (hw : swappedStores [.Tuple [.Name x px, .Name y py, .Name z pz] kt pt] (.Tuple [a, b, c] k2 pt2) X.env = pure (some [x, y, z]) := by rfl)
    (hs : swapsWithSole [.Tuple [.Name x px, .Name y py, .Name z pz] kt pt] (.Tuple [a, b, c] k2 pt2) pos.line X.env = pure false := by rfl) :
    QS X (.Assign [.Tuple [.Name x px, .Name y py, .Name z pz] kt pt] (.Tuple [a, b, c] k2 pt2) pos) (sPar3 i j l t) :=
  ⟨fun dk H0 => PS.imp (ps_par3 hc hN hi hj hl hij hil hjl hx hy hz (ha.run dk H0) hw hs) fun D σ H ⟨ρ, R, rel, h, k⟩ => ⟨ρ, _, rel, h, fun ss ρ1 vs H1 hss ps rel1 ex1 => by
    cases ps with
    | nil => exact hss.elim
    | cons h1 h2 ps =>
      cases ps with
      | nil => exact hss.elim
      | cons h3 h4 ps =>
        cases ps with
        | nil => exact hss.elim
        | cons h5 h6 ps =>
          cases ps with
          | cons _ _ _ => exact hss.elim
          | nil =>
            refine ⟨_, _, _, rfl, k.nx _ _ H1 hss (((rel1.set h1 fun a o z => (h2 a o z).1).set h3 fun a o z l q => ?_).set h5 fun a o z l q => ?_) ex1⟩
            · rcases own_set q with ⟨o1, z1⟩ | q
              · have := (h2 a o1 z1).2 0 _ (by rw [z]; rfl) rfl
                rw [o] at this; cases this
              · exact (h4 a o z).1 l q
            · rcases own_set q with ⟨o1, z1⟩ | q
              · have := (h4 a o1 z1).2 0 _ (by rw [z]; rfl) rfl
                rw [o] at this; cases this
              · rcases own_set q with ⟨o1, z1⟩ | q
                · have := (h2 a o1 z1).2 1 _ (by rw [z]; rfl) rfl
                  rw [o] at this; cases this
                · exact (h6 a o z).1 l q⟩⟩
end
end Q
end P8
section P9
namespace Q
open PySem PySem.Spec PyProof.Rows L2 HT

/-! ### built-ins by their values -/
abbrev CA := List PyData → (PyData → Prop) → Prop
abbrev BrA (K : PySem.W.Frag) (r : List V → Hp → VK → Prop) (C : CA) : Prop := ∀ ds vs H Q R, FzAll K H vs ds → C ds R → (∀ z w H', R z → Fz K H' w z → Same H H' → Q w H') → r vs H Q
def tCA (C : CA) (t : TQL) : TQ := fun ρ R => t ρ fun ds ρ1 => C ds fun z => R z ρ1
section
variable {X : Cx} {pos p : Pos} {e a b : Expr} {es : List Expr} {te ta tb : TQ} {t : TQL} {x : Str} {id T : String} {r : List V → Hp → VK → Prop} {C : CA}
theorem up_ca {K : PySem.W.Frag} {dk : Dk} {H0 : Hp} (br : BrA K r C) (σ : L2.St) (H : Hp) (Q : VK) (h : up K dk H0 (tCA C t) σ H Q) : tCB r (upD K dk H0 t) σ H Q := by
  obtain ⟨ρ, R, rel, h, k⟩ := h
  exact ⟨ρ, _, rel, h, fun ds ρ1 vs H1 hds fz rel1 ex1 => br ds vs H1 Q _ fz hds fun z w H' hz fz' sm => k z ρ1 w H' hz fz' (rel1.same sm) (ex1.trans (ex_same sm))⟩
theorem q_callB (hc : CallR X (.builtin id) r) (br : BrA X.K r C) (hg : Gl X x) (hm : X.mg x = none) (hv : bootBuiltins x = some (.builtin id)) (ha : QDs X (e :: es) t) (hn : x ≠ "__name__" := by decide) (hdb : (x == ("__debug__" : Str)) = false := by decide)
    (he : starEach (e :: es) X.env = (false, eval e X.env) :: starEach es X.env := by rfl) (hpl : (backTo pos (starEach es X.env)).any (·.1) = false := by rfl) : QE X (.Call (.Name x p) (e :: es) [] pos) (tCA C t) :=
  ⟨fun dk H0 => PE.imp (pe_callB hc hg hm hv (ha.run dk H0) hn hdb he hpl) (up_ca br)⟩
theorem q_callTy (hc : CallR X (.type T) r) (br : BrA X.K r C) (hg : Gl X x) (hm : X.mg x = none) (hv : bootBuiltins x = some (.type T)) (ha : QDs X (e :: es) t) (hn : x ≠ "__name__" := by decide) (hdb : (x == ("__debug__" : Str)) = false := by decide)
    (he : starEach (e :: es) X.env = (false, eval e X.env) :: starEach es X.env := by rfl) (hpl : (backTo pos (starEach es X.env)).any (·.1) = false := by rfl) : QE X (.Call (.Name x p) (e :: es) [] pos) (tCA C t) :=
  ⟨fun dk H0 => PE.imp (pe_callTy hc hg hm hv (ha.run dk H0) hn hdb he hpl) (up_ca br)⟩
/-- len(x) -/
def lenD : CA := fun ds R => match ds with
  | [.list xs] => R (.int (xs.length : Nat))
  | [.tuple xs] => R (.int (xs.length : Nat))
  | [.str z] => z.length ≤ sizeLine ∧ R (.int (z.length : Nat))
  | _ => False
theorem fz1 {K : PySem.W.Frag} {H : Hp} {vs : List V} {x : PyData} (f : FzAll K H vs [x]) : ∃ v, vs = [v] ∧ Fz K H v x := by
  cases f with
  | cons a b => cases b; exact ⟨_, rfl, a⟩
theorem fz2 {K : PySem.W.Frag} {H : Hp} {vs : List V} {x y : PyData} (f : FzAll K H vs [x, y]) : ∃ v w, vs = [v, w] ∧ Fz K H v x ∧ Fz K H w y := by
  cases f with
  | cons a b =>
    obtain ⟨w, rfl, c⟩ := fz1 b
    exact ⟨_, _, rfl, a, c⟩
theorem br_len {K : PySem.W.Frag} : BrA K (fun xs H Q => (∃ p ys, xs = [.ref p] ∧ (SqL K H p ys ∨ SqT K H p ys) ∧ Q (.int ys.length) H) ∨ ∃ z, xs = [.str z] ∧ z.length ≤ sizeLine ∧ Q (.int z.length) H) lenD := by
  intro ds vs H Q R f c k
  unfold lenD at c
  split at c
  · obtain ⟨v, rfl, fv⟩ := fz1 f
    cases fv with
    | lst q t => refine .inl ⟨_, _, rfl, .inl (.inl (.inr ⟨_, q⟩)), ?_⟩; rw [t.length]; exact k _ _ H c (.int _) (Same.refl H)
  · obtain ⟨v, rfl, fv⟩ := fz1 f
    cases fv with
    | tup q t => refine .inl ⟨_, _, rfl, .inr q, ?_⟩; rw [t.length]; exact k _ _ H c (.int _) (Same.refl H)
  · obtain ⟨v, rfl, fv⟩ := fz1 f
    cases fv
    exact .inr ⟨_, rfl, c.1, k _ _ H c.2 (.int _) (Same.refl H)⟩
  · exact c.elim
theorem q_len (hg : Gl X "len") (hm : X.mg "len" = none) (ha : QE X e te) (hs : starEach [e] X.env = (false, eval e X.env) :: starEach [] X.env := by rfl) : QE X (.Call (.Name "len" p) [e] [] pos) (tCA lenD (dCons te dNil)) :=
  q_callB (call_len_seq.or call_len_str) br_len hg hm PySem.boot_len (qd_cons ha qd_nil hs) (he := hs)
/-- tuple(x) -/
def tupD : CA := fun ds R => match ds with
  | [.list xs] => R (.tuple xs)
  | [.tuple xs] => R (.tuple xs)
  | _ => False
theorem br_tup {K : PySem.W.Frag} : BrA K (fun xs H Q => ∃ p ys, xs = [.ref p] ∧ ((SqL K H p ys ∧ ∀ l, H l = none → Q (.ref l) (upd H l (.tup ys))) ∨ (SqT K H p ys ∧ Q (.ref p) H))) tupD := by
  intro ds vs H Q R f c k
  unfold tupD at c
  split at c
  · obtain ⟨v, rfl, fv⟩ := fz1 f
    cases fv with
    | @lst a o xs es q t =>
      refine ⟨_, _, rfl, .inl ⟨.inl (.inr ⟨_, q⟩), fun l hl => ?_⟩⟩
      have sm := same_upd (o := .tup xs) hl
      exact k _ _ _ c (.tup (.inl (.inl upd_same)) (t.mono (ex_same sm))) sm
  · obtain ⟨v, rfl, fv⟩ := fz1 f
    cases fv with
    | tup q t => exact ⟨_, _, rfl, .inr ⟨q, k _ _ H c (.tup q t) (Same.refl H)⟩⟩
  · exact c.elim
theorem q_tuple (hg : Gl X "tuple") (hm : X.mg "tuple" = none) (ha : QE X e te) (hs : starEach [e] X.env = (false, eval e X.env) :: starEach [] X.env := by rfl) : QE X (.Call (.Name "tuple" p) [e] [] pos) (tCA tupD (dCons te dNil)) :=
  q_callTy call_tuple_of br_tup hg hm boot_tuple (qd_cons ha qd_nil hs) (he := hs)
/-- all(x), any(x), sum(x), max(x), min(x), abs, int -/
def allD : CA := fun ds R => match ds with
  | [.list xs] => ∃ bs : List Bool, xs = bs.map .bool ∧ R (.bool (bs.all fun b => b))
  | _ => False
def anyD : CA := fun ds R => match ds with
  | [.list xs] => ∃ bs : List Bool, xs = bs.map .bool ∧ R (.bool (bs.any fun b => b))
  | _ => False
def sumD : CA := fun ds R => match ds with
  | [.list xs] => ∃ ns : List Int, xs = ns.map .int ∧ R (.int ns.sum)
  | _ => False
def maxD : CA := fun ds R => match ds with
  | [.list xs] => ∃ ns : List Int, xs = ns.map .int ∧ 0 < ns.length ∧ ∀ m, m ∈ ns → (∀ y, y ∈ ns → y ≤ m) → R (.int m)
  | [.int i, .int j] => R (.int (if j > i then j else i))
  | _ => False
def minD : CA := fun ds R => match ds with
  | [.list xs] => ∃ ns : List Int, xs = ns.map .int ∧ 0 < ns.length ∧ ∀ m, m ∈ ns → (∀ y, y ∈ ns → m ≤ y) → R (.int m)
  | [.int i, .int j] => R (.int (if j < i then j else i))
  | _ => False
theorem br_all {K : PySem.W.Frag} : BrA K (rAll K) allD := by
  intro ds vs H Q R f c k
  unfold allD at c
  split at c
  · obtain ⟨v, rfl, fv⟩ := fz1 f
    cases fv with
    | lst q t =>
      obtain ⟨bs, rfl, c⟩ := c
      exact ⟨_, bs, rfl, .inl (.inr ⟨_, by rw [t.bls] at q; exact q⟩), k _ _ H c (.bl _) (Same.refl H)⟩
  · exact c.elim
theorem br_any {K : PySem.W.Frag} : BrA K (rAny K) anyD := by
  intro ds vs H Q R f c k
  unfold anyD at c
  split at c
  · obtain ⟨v, rfl, fv⟩ := fz1 f
    cases fv with
    | lst q t =>
      obtain ⟨bs, rfl, c⟩ := c
      exact ⟨_, bs, rfl, .inl (.inr ⟨_, by rw [t.bls] at q; exact q⟩), k _ _ H c (.bl _) (Same.refl H)⟩
  · exact c.elim
theorem br_sum {K : PySem.W.Frag} : BrA K (rSum K) sumD := by
  intro ds vs H Q R f c k
  unfold sumD at c
  split at c
  · obtain ⟨v, rfl, fv⟩ := fz1 f
    cases fv with
    | lst q t =>
      obtain ⟨bs, rfl, c⟩ := c
      exact ⟨_, bs, rfl, .inl (.inr ⟨_, by rw [t.ints] at q; exact q⟩), k _ _ H c (.int _) (Same.refl H)⟩
  · exact c.elim
theorem br_max {K : PySem.W.Frag} : BrA K (fun xs H Q => rMax K xs H Q ∨ ∃ i j, xs = [.int i, .int j] ∧ Q (.int (if j > i then j else i)) H) maxD := by
  intro ds vs H Q R f c k
  unfold maxD at c
  split at c
  · obtain ⟨v, rfl, fv⟩ := fz1 f
    cases fv with
    | lst q t =>
      obtain ⟨bs, rfl, c1, c⟩ := c
      exact .inl ⟨_, bs, rfl, .inl (.inr ⟨_, by rw [t.ints] at q; exact q⟩), c1, fun m h1 h2 => k _ _ H (c m h1 h2) (.int _) (Same.refl H)⟩
  · obtain ⟨v, w, rfl, fv, fw⟩ := fz2 f
    cases fv
    cases fw
    exact .inr ⟨_, _, rfl, k _ _ H c (.int _) (Same.refl H)⟩
  · exact c.elim
theorem br_min {K : PySem.W.Frag} : BrA K (fun xs H Q => rMin K xs H Q ∨ ∃ i j, xs = [.int i, .int j] ∧ Q (.int (if j < i then j else i)) H) minD := by
  intro ds vs H Q R f c k
  unfold minD at c
  split at c
  · obtain ⟨v, rfl, fv⟩ := fz1 f
    cases fv with
    | lst q t =>
      obtain ⟨bs, rfl, c1, c⟩ := c
      exact .inl ⟨_, bs, rfl, .inl (.inr ⟨_, by rw [t.ints] at q; exact q⟩), c1, fun m h1 h2 => k _ _ H (c m h1 h2) (.int _) (Same.refl H)⟩
  · obtain ⟨v, w, rfl, fv, fw⟩ := fz2 f
    cases fv
    cases fw
    exact .inr ⟨_, _, rfl, k _ _ H c (.int _) (Same.refl H)⟩
  · exact c.elim
theorem q_all (hc : X.calm = true) (hg : Gl X "all") (hm : X.mg "all" = none) (ha : QE X e te) (hs : starEach [e] X.env = (false, eval e X.env) :: starEach [] X.env := by rfl) : QE X (.Call (.Name "all" p) [e] [] pos) (tCA allD (dCons te dNil)) :=
  q_callB (cr_all hc) br_all hg hm (by decide +kernel) (qd_cons ha qd_nil hs) (he := hs)
theorem q_any (hc : X.calm = true) (hg : Gl X "any") (hm : X.mg "any" = none) (ha : QE X e te) (hs : starEach [e] X.env = (false, eval e X.env) :: starEach [] X.env := by rfl) : QE X (.Call (.Name "any" p) [e] [] pos) (tCA anyD (dCons te dNil)) :=
  q_callB (cr_any hc) br_any hg hm (by decide +kernel) (qd_cons ha qd_nil hs) (he := hs)
theorem q_sum (hc : X.calm = true) (hg : Gl X "sum") (hm : X.mg "sum" = none) (ha : QE X e te) (hs : starEach [e] X.env = (false, eval e X.env) :: starEach [] X.env := by rfl) : QE X (.Call (.Name "sum" p) [e] [] pos) (tCA sumD (dCons te dNil)) :=
  q_callB (cr_sum hc) br_sum hg hm (by decide +kernel) (qd_cons ha qd_nil hs) (he := hs)
theorem q_max (hc : X.calm = true) (hg : Gl X "max") (hm : X.mg "max" = none) (ha : QDs X (e :: es) t) (hs : starEach (e :: es) X.env = (false, eval e X.env) :: starEach es X.env := by rfl) (hpl : (backTo pos (starEach es X.env)).any (·.1) = false := by rfl) : QE X (.Call (.Name "max" p) (e :: es) [] pos) (tCA maxD t) :=
  q_callB ((cr_max hc).or (call_max2 hc)) br_max hg hm (by decide +kernel) ha (he := hs) (hpl := hpl)
theorem q_min (hc : X.calm = true) (hg : Gl X "min") (hm : X.mg "min" = none) (ha : QDs X (e :: es) t) (hs : starEach (e :: es) X.env = (false, eval e X.env) :: starEach es X.env := by rfl) (hpl : (backTo pos (starEach es X.env)).any (·.1) = false := by rfl) : QE X (.Call (.Name "min" p) (e :: es) [] pos) (tCA minD t) :=
  q_callB ((cr_min hc).or (call_min2 hc)) br_min hg hm (by decide +kernel) ha (he := hs) (hpl := hpl)
/-- int(x) of a whole number or a bool -/
def intD : CA := fun ds R => match ds with
  | [.int i] => R (.int i)
  | [.bool b] => R (.int (if b then 1 else 0))
  | _ => False
theorem br_int {K : PySem.W.Frag} : BrA K (fun xs H Q => (∃ i, xs = [.int i] ∧ Q (.int i) H) ∨ ∃ k, xs = [.bl k] ∧ Q (.int (if k then 1 else 0)) H) intD := by
  intro ds vs H Q R f c k
  unfold intD at c
  split at c
  · obtain ⟨v, rfl, fv⟩ := fz1 f
    cases fv
    exact .inl ⟨_, rfl, k _ _ H c (.int _) (Same.refl H)⟩
  · obtain ⟨v, rfl, fv⟩ := fz1 f
    cases fv
    exact .inr ⟨_, rfl, k _ _ H c (.int _) (Same.refl H)⟩
  · exact c.elim
theorem q_int1 (hg : Gl X "int") (hm : X.mg "int" = none) (ha : QE X e te) (hs : starEach [e] X.env = (false, eval e X.env) :: starEach [] X.env := by rfl) : QE X (.Call (.Name "int" p) [e] [] pos) (tCA intD (dCons te dNil)) :=
  q_callTy call_int1 br_int hg hm (by decide +kernel) (qd_cons ha qd_nil hs) (he := hs)
/-- sorted(x) of few whole numbers: any arrangement that ascends -/
def sortD : CA := fun ds R => match ds with
  | [.list xs] => ∃ ns : List Int, xs = ns.map .int ∧ ns.length < 64 ∧ ∀ ms : List Int, ms.Perm ns → ms.Pairwise (· ≤ ·) → R (.list (ms.map .int))
  | _ => False
theorem q_sorted (hg : Gl X "sorted") (hm : X.mg "sorted" = none) (ha : QE X e te) (hs : starEach [e] X.env = (false, eval e X.env) :: starEach [] X.env := by rfl) : QE X (.Call (.Name "sorted" p) [e] [] pos) (tCA sortD (dCons te dNil)) := by
  refine ⟨fun dk H0 => PE.imp (pe_fz (pe_callB cr_sorted hg hm (by decide +kernel) ((qd_cons ha qd_nil hs).run dk H0) (he := hs))) fun σ H Q ⟨ρ, R, rel, h, k⟩ => ⟨ρ, _, rel, h, fun ds ρ1 vs H1 hds fz rel1 ex1 => ?_⟩⟩
  have hds : sortD ds fun z => R z ρ1 := hds
  unfold sortD at hds
  split at hds
  · obtain ⟨v, rfl, fv⟩ := fz1 fz
    cases fv with
    | lst q t =>
      obtain ⟨ns, rfl, h64, c⟩ := hds
      refine ⟨_, ns, rfl, .inl (.inr ⟨_, by rw [t.ints] at q; exact q⟩), h64, fun ms pn pm pw hp => .inr ⟨pn, _, rfl, upd_same, fun od => ?_⟩⟩
      obtain ⟨f, sm⟩ := frz_new (K := X.K) hp (FzAll.of_ints ms) od
      exact k _ ρ1 _ _ (c ms pm pw) f (rel1.same sm) (ex1.trans (ex_same sm))
  · exact hds.elim
/-- list(x): a new list -/
def listC (ds : List PyData) (R : List PyData → Prop) : Prop := match ds with
  | [.list xs] => R xs
  | [.tuple xs] => R xs
  | _ => False
def listD (t : TQL) : TQL := fun ρ R => t ρ fun ds ρ1 => listC ds fun xs => R xs ρ1
theorem ql_list (hg : Gl X "list") (hm : X.mg "list" = none) (ha : QE X e te) (hs : starEach [e] X.env = (false, eval e X.env) :: starEach [] X.env := by rfl) : QL X (.Call (.Name "list" p) [e] [] pos) (listD (dCons te dNil)) := by
  refine ⟨fun dk H0 => PE.imp (pe_callTy call_list_of hg hm (by decide +kernel) ((qd_cons ha qd_nil hs).run dk H0) (he := hs)) fun σ H Q ⟨ρ, R, rel, h, k⟩ => ⟨ρ, _, rel, h, fun ds ρ1 vs H1 hds fz rel1 ex1 => ?_⟩⟩
  have go : ∀ (a : Addr) (ys : List V) (xs : List PyData), vs = [.ref a] → (SqL X.K H1 a ys ∨ SqT X.K H1 a ys) → FzAll X.K H1 ys xs → R xs ρ1 → ∃ p ys, vs = [.ref p] ∧ (SqL X.K H1 p ys ∨ SqT X.K H1 p ys) ∧ ∀ l, H1 l = none → Q (.ref l) (upd H1 l (.lst ys)) := fun a ys xs e1 e2 t hr => by
    refine ⟨a, ys, e1, e2, fun l hl => ?_⟩
    have sm := same_upd (o := .lst ys) hl
    exact k xs ρ1 l ys _ hr upd_same (t.mono (ex_same sm)) (rel1.fresh0 hl) (rel1.freshOwn hl) (rel1.same sm) (ex1.trans (ex_same sm))
  have hds : listC ds fun xs => R xs ρ1 := hds
  unfold listC at hds
  split at hds
  · obtain ⟨v, rfl, fv⟩ := fz1 fz
    cases fv with
    | lst q t => exact go _ _ _ rfl (.inl (.inl (.inr ⟨_, q⟩))) t hds
  · obtain ⟨v, rfl, fv⟩ := fz1 fz
    cases fv with
    | tup q t => exact go _ _ _ rfl (.inr q) t hds
  · exact hds.elim
end
section
variable {X : Cx} {pos p : Pos} {e a b : Expr} {es : List Expr} {te ta tb : TQ}
/-- list(range(..)), tuple(range(..)) -/
theorem rgV_fz {K : PySem.W.Frag} {H : Hp} (i j : Int) : FzAll K H (rgV i j) (rg i (j - i).toNat) := by
  have e : rgV i j = ((List.range (j - i).toNat).map fun (k : Nat) => i + (k : Int)).map V.int := by
    rw [List.map_map]; rfl
  have e2 : rg i (j - i).toNat = ((List.range (j - i).toNat).map fun (k : Nat) => i + (k : Int)).map PyData.int := by
    rw [List.map_map]; rfl
  rw [e, e2]
  exact .of_ints _
def rgA1 (te : TQ) : TQL := rg1 te
/-- a range as an argument: what it gives -/
theorem prg1 {dk : Dk} {H0 : Hp} {p : Pos} (hg : Gl X "range") (hm : X.mg "range" = none) (ha : QE X a ta) (na : starEach [a] X.env = (false, eval a X.env) :: starEach [] X.env := by rfl) : PRg X (.Call (.Name "range" p) [a] [] pos) (tRg1 (up X.K dk H0 ta)) := prg_1 hg hm (ha.run dk H0) na
theorem ql_listRg1 {p2 pos2 : Pos} (hc : X.calm = true) (hg : Gl X "list") (hm : X.mg "list" = none) (hg2 : Gl X "range") (hm2 : X.mg "range" = none) (ha : QE X a ta) (na : starEach [a] X.env = (false, eval a X.env) :: starEach [] X.env := by rfl)
    (na2 : starEach [.Call (.Name "range" p2) [a] [] pos2] X.env = (false, eval (.Call (.Name "range" p2) [a] [] pos2) X.env) :: starEach [] X.env := by rfl) :
    QL X (.Call (.Name "list" p) [.Call (.Name "range" p2) [a] [] pos2] [] pos) (rg1 ta) :=
  ⟨fun dk H0 => PE.imp (pe_listRg hc hg hm (prg1 hg2 hm2 ha na) na2) fun σ H Q ⟨ρ, R, rel, h, k⟩ => ⟨ρ, _, rel, h, fun x ρ1 v H1 hx fz rel1 ex1 => by
    cases fz <;> first | exact hx.elim | skip
    rename_i n
    obtain ⟨h1, h2, hr⟩ := hx
    refine ⟨n, rfl, ?_, fun q hq => ?_⟩
    · exact ⟨by omega, by omega, by omega, by omega, by omega⟩
    · have sm := same_upd (o := .lst (rgV 0 n)) hq
      have f := rgV_fz (K := X.K) (H := upd H1 q (.lst (rgV 0 n))) 0 n
      rw [Int.sub_zero] at f
      exact k _ ρ1 q _ _ hr upd_same f (rel1.fresh0 hq) (rel1.freshOwn hq) (rel1.same sm) (ex1.trans (ex_same sm))⟩⟩
theorem q_tupRg1 {p2 pos2 : Pos} (hc : X.calm = true) (hg : Gl X "tuple") (hm : X.mg "tuple" = none) (hg2 : Gl X "range") (hm2 : X.mg "range" = none) (ha : QE X a ta) (na : starEach [a] X.env = (false, eval a X.env) :: starEach [] X.env := by rfl)
    (na2 : starEach [.Call (.Name "range" p2) [a] [] pos2] X.env = (false, eval (.Call (.Name "range" p2) [a] [] pos2) X.env) :: starEach [] X.env := by rfl) :
    QE X (.Call (.Name "tuple" p) [.Call (.Name "range" p2) [a] [] pos2] [] pos) (fun ρ R => rg1 ta ρ fun xs ρ1 => R (.tuple xs) ρ1) :=
  ⟨fun dk H0 => PE.imp (pe_tupRg hc hg hm (prg1 hg2 hm2 ha na) na2) fun σ H Q ⟨ρ, R, rel, h, k⟩ => ⟨ρ, _, rel, h, fun x ρ1 v H1 hx fz rel1 ex1 => by
    cases fz <;> first | exact hx.elim | skip
    rename_i n
    obtain ⟨h1, h2, hr⟩ := hx
    refine ⟨n, rfl, ?_, fun q hq => ?_⟩
    · exact ⟨by omega, by omega, by omega, by omega, by omega⟩
    · have sm := same_upd (o := .tup (rgV 0 n)) hq
      have f := rgV_fz (K := X.K) (H := upd H1 q (.tup (rgV 0 n))) 0 n
      rw [Int.sub_zero] at f
      exact k _ ρ1 _ _ hr (.tup (.inl (.inl upd_same)) f) (rel1.same sm) (ex1.trans (ex_same sm))⟩⟩
/-- len(set(x)) -/
def lenSetD : CA := fun ds R => match ds with
  | [.list xs] => ∃ ns : List Int, xs = ns.map .int ∧ ns.Nodup ∧ ns.length ≤ 4000 ∧ R (.int (ns.length : Nat))
  | _ => False
/-- isinstance -/
def isInt : PyData → Bool
  | .int _ => true
  | .bool _ => true
  | _ => false
def isBool : PyData → Bool
  | .bool _ => true
  | _ => false
def isTup : PyData → Bool
  | .tuple _ => true
  | _ => false
def isStr : PyData → Bool
  | .str _ => true
  | _ => false
def isLst : PyData → Bool
  | .list _ => true
  | _ => false
theorem tyX_of {K : PySem.W.Frag} {H : Hp} {v : V} {x : PyData} (f : Fz K H v x) (P : String → Bool → Prop) (hn : ∀ b, x = .none → P "NoneType" b → P "NoneType" b) : True := True.intro
def tyN : PyData → String
  | .none => "NoneType"
  | .bool _ => "bool"
  | .int _ => "int"
  | .str _ => "str"
  | .list _ => "list"
  | .tuple _ => "tuple"
  | .dict _ => "dict"
theorem ty_fz {K : PySem.W.Frag} {H : Hp} {v : V} {x : PyData} (f : Fz K H v x) : TyX K H v (.type (tyN x)) := by
  cases f with
  | non => exact .base .non
  | bl b => exact .base (.bl b)
  | int b => exact .base (.int b)
  | str b => exact .base (.str b)
  | lst q t => exact .base (.frz q)
  | tup q t =>
    rcases q with (q | ⟨o, q⟩) | ⟨o, its, n, q, h1, h2⟩
    · exact .base (.tup q)
    · exact .fTuple q
    · exact .kTuple q h1
def isD (f : PyData → Bool) (te : TQ) : TQ := fun ρ R => te ρ fun x ρ1 => R (.bool (f x)) ρ1
theorem q_isi {x : Str} {T : String} {f : PyData → Bool} {p2 : Pos} (hf : ∀ d, kitB (tyN d) T = some (f d)) (hv2 : bootBuiltins x = some (.type T)) (hg : Gl X "isinstance") (hm : X.mg "isinstance" = none) (hg2 : Gl X x) (hm2 : X.mg x = none) (ha : QE X e te)
    (hs : starEach [e, .Name x p2] X.env = (false, eval e X.env) :: starEach [.Name x p2] X.env := by rfl) (hs2 : starEach [.Name x p2] X.env = (false, eval (.Name x p2) X.env) :: starEach [] X.env := by rfl)
    (hpl : (backTo pos (starEach [.Name x p2] X.env)).any (·.1) = false := by rfl) (hn : x ≠ "__name__" := by decide) (hd : (x == ("__debug__" : Str)) = false := by decide) :
    QE X (.Call (.Name "isinstance" p) [e, .Name x p2] [] pos) (isD f te) :=
  ⟨fun dk H0 => PE.imp (pe_callB call_isi hg hm (by decide +kernel) (pa_cons (ha.run dk H0) (pa_cons (pe_bltn (v := .ty T) hg2 hm2 hv2 rfl hn hd) pa_nil hs2) hs) (he := hs) (hpl := hpl)) fun σ H Q ⟨ρ, R, rel, h, k⟩ =>
    ⟨ρ, _, rel, h, fun y ρ1 v H1 hy fz rel1 ex1 => ⟨v, .ty T, _, _, f y, rfl, .ty T, ty_fz fz, kit_ty (hf y), k _ ρ1 _ H1 hy (.bl _) rel1 ex1⟩⟩⟩
theorem kb_int : ∀ d, kitB (tyN d) "int" = some (isInt d) := by intro d; cases d <;> (dsimp only [tyN, isInt, isBool, isTup, isStr, isLst]; decide +kernel)
theorem kb_bool : ∀ d, kitB (tyN d) "bool" = some (isBool d) := by intro d; cases d <;> (dsimp only [tyN, isInt, isBool, isTup, isStr, isLst]; decide +kernel)
theorem kb_tup : ∀ d, kitB (tyN d) "tuple" = some (isTup d) := by intro d; cases d <;> (dsimp only [tyN, isInt, isBool, isTup, isStr, isLst]; decide +kernel)
theorem kb_str : ∀ d, kitB (tyN d) "str" = some (isStr d) := by intro d; cases d <;> (dsimp only [tyN, isInt, isBool, isTup, isStr, isLst]; decide +kernel)
theorem kb_lst : ∀ d, kitB (tyN d) "list" = some (isLst d) := by intro d; cases d <;> (dsimp only [tyN, isInt, isBool, isTup, isStr, isLst]; decide +kernel)
/-- repr(x) -/
structure RepOk (d : PyData) : Prop where
  sh : d.showable = true
  lay : d.canLay0 = true
  dp : d.depth ≤ 60
  sz : d.shown.length ≤ sizeLine
theorem call_reprD (hg : X.A.guards = some []) (hu : X.A.units + 64 < cLine) : CallR X (.builtin "repr") (fun xs H Q => ∃ v d, xs = [v] ∧ Dp X.K H v d ∧ RepOk d ∧ Q (.str d.shown) H) := by
  intro pins s σ H xs us Q I r h
  obtain ⟨v, d, rfl, hd, ok, q⟩ := h
  obtain ⟨u, rfl, ru⟩ := vals1 r
  obtain ⟨as, rd⟩ := Dp.reads I d v u hd ru
  have big : ∀ (a : Addr) (d : PyData) (as : List Addr), Reads s.heap (.ref a) d as → RepOk d → Q (.str d.shown) H → wpAny (model X.prog X.w) X.A (call (.builtin "repr") [.ref a]) (EP X pins σ Q) X.xe s := fun a d as rd ok q =>
    repr_of_reads' rd ok.sh (PyData.noDict_hsm (PyData.hasDict_of_canLay d ok.lay)) hg (by have := ok.dp; omega) (fun _ _ e => e) (fun h' u tk hk => ⟨.str _, H, I.kept (t' := tk) hk, ⟨_, rfl⟩, q⟩) ok.sz
  cases hd with
  | non =>
    cases ru
    exact PySem.P.repr_of_none ⟨.str _, H, I.tok _, ⟨_, rfl⟩, by simpa only [PyData.shown] using q⟩
  | bl b =>
    cases ru
    exact PySem.P.repr_of_bool ⟨.str _, H, I.tok _, ⟨_, rfl⟩, by simpa only [PyData.shown] using q⟩
  | int i =>
    obtain ⟨t, rfl⟩ := ru
    exact PySem.P.repr_of_int (by simpa [PyData.showable] using ok.sh) ⟨.str _, H, I.tok _, ⟨_, rfl⟩, by simpa only [PyData.shown] using q⟩
  | str z =>
    obtain ⟨t, rfl⟩ := ru
    exact PySem.P.repr_of_str ⟨.str _, H, I.tok _, ⟨_, rfl⟩, by simpa only [PyData.shown] using q⟩ (by simpa only [PyData.shown] using ok.sz)
  | lst h1 h2 => cases ru; exact big _ _ as rd ok q
  | tup h1 h2 => cases ru; exact big _ _ as rd ok q
def reprD : CA := fun ds R => match ds with
  | [x] => RepOk x ∧ R (.str x.shown)
  | _ => False
theorem br_repr {K : PySem.W.Frag} : BrA K (fun xs H Q => ∃ v d, xs = [v] ∧ Dp K H v d ∧ RepOk d ∧ Q (.str d.shown) H) reprD := by
  intro ds vs H Q R f c k
  unfold reprD at c
  split at c
  · obtain ⟨v, rfl, fv⟩ := fz1 f
    exact ⟨v, _, rfl, fv.dp, c.1, k _ _ H c.2 (.str _) (Same.refl H)⟩
  · exact c.elim
theorem q_repr (hG : X.A.guards = some []) (hu : X.A.units + 64 < cLine) (hg : Gl X "repr") (hm : X.mg "repr" = none) (ha : QE X e te) (hs : starEach [e] X.env = (false, eval e X.env) :: starEach [] X.env := by rfl) : QE X (.Call (.Name "repr" p) [e] [] pos) (tCA reprD (dCons te dNil)) :=
  q_callB (call_reprD hG hu) br_repr hg hm (by decide +kernel) (qd_cons ha qd_nil hs) (he := hs)
end
end Q
end P9
section P10
namespace Q
open PySem PySem.Spec PyProof.Rows L2 HT

/-! ### a def's promise over data -/
abbrev PSpec := List Ar → (PyData → Prop) → Prop
structure FnG (P : Program) (w : World) (K : PySem.W.Frag) (mg : Str → Option Value) (base : Heap) (k : Nat) (f : Addr) (fd : FuncData) (ps : List Str) (S : PSpec) : Prop where
  len : ∀ as R, S as R → as.length = ps.length
  run : ∀ (A : Around) (outer : List PySem.Env) (s : Shared) (H : Hp) (args : Args) (us : List Value) (vs : List V) (Q : VK) (dk : Dk) (as : List Ar) (R : PyData → Prop), A.guards = some [] → Room k A → Env0 P w K mg base A outer s H → BindsTo s fd args (ps.zip us) → Vals vs us →
    ArsOk K dk H vs as → DkOk H dk.1 dk.2 → S as R → (∀ x v H', R x → Fz K H' v x → Step dk H H' → Q v H') → codeAny (model P w) A (.call (.ref f) args) (CR CX0 outer P w H s Q E0) s
theorem FnG.imp {P : Program} {w : World} {K : PySem.W.Frag} {mg : Str → Option Value} {base : Heap} {k : Nat} {f : Addr} {fd : FuncData} {ps : List Str} {S S' : PSpec} (F : FnG P w K mg base k f fd ps S) (h : ∀ as R, S' as R → S as R) : FnG P w K mg base k f fd ps S' :=
  ⟨fun as R q => F.len as R (h as R q), fun A outer s H args us vs Q dk as R h1 h2 h3 h4 h5 h6 h7 h8 h9 => F.run A outer s H args us vs Q dk as R h1 h2 h3 h4 h5 h6 h7 (h as R h8) h9⟩
/-! ### arguments -/
def upA' (K : PySem.W.Frag) (dk : Dk) (H0 : Hp) (n : Nat) (t : TQA) : TA := fun σ H Q => ∃ ρ R, Rel K dk H0 ρ σ H ∧ t ρ R ∧ ∀ xs ρ' vs H', R xs ρ' → ArsOk K dk H' vs xs → vs.length = n → Rel K dk H0 ρ' σ H' → Ex H H' → Q vs H'
structure QAs (X : Cx) (es : List Expr) (t : TQA) : Prop where
  run : ∀ dk H0, PA X es (upA' X.K dk H0 es.length t)
section
variable {X : Cx} {pos p : Pos} {e a b : Expr} {es : List Expr} {te ta tb : TQ} {t tk : TQA} {x : Str}
def aNil : TQA := fun ρ R => R [] ρ
def aD (te : TQ) (t : TQA) : TQA := fun ρ R => te ρ fun x ρ1 => t ρ1 fun xs ρ2 => R (.d x :: xs) ρ2
def aK (i : Nat) (t : TQA) : TQA := fun ρ R => match ρ[i]? with
  | some .dk => t ρ fun xs ρ2 => R (.dk :: xs) ρ2
  | _ => False
theorem qa_nil : QAs X [] aNil := ⟨fun dk H0 => PA.imp pa_nil fun σ H Q ⟨ρ, R, rel, h, k⟩ => k [] ρ [] H h .nil rfl rel (Ex.refl H)⟩
theorem qa_d (he : QE X e te) (ht : QAs X es t) (hs : starEach (e :: es) X.env = (false, eval e X.env) :: starEach es X.env := by rfl) : QAs X (e :: es) (aD te t) :=
  ⟨fun dk H0 => PA.imp (pa_cons (he.run dk H0) (ht.run dk H0) hs) fun σ H Q ⟨ρ, R, rel, h, k⟩ =>
    ⟨ρ, _, rel, h, fun x ρ1 v H1 hx fz rel1 ex1 => ⟨ρ1, _, rel1, hx, fun xs ρ2 vs H2 hxs ok hl rel2 ex2 => k _ ρ2 (v :: vs) H2 hxs (.cons (fz.mono ex2) ok) (by rw [List.length_cons, List.length_cons, hl]) rel2 (ex1.trans ex2)⟩⟩⟩
theorem qa_k (i : Nat) (ht : QAs X es t) (hN : X.N[i]? = some x := by rfl) (hv : Vis X.env.scope x := by first | exact Or.inl rfl | exact Or.inr (Or.inl rfl) | exact Or.inr (Or.inr rfl)) (hd : (x == ("__debug__" : Str)) = false := by decide)
    (hcd : (x == ("__classdict__" : Str)) = false := by decide) (hs : starEach (.Name x p :: es) X.env = (false, eval (.Name x p) X.env) :: starEach es X.env := by rfl) : QAs X (.Name x p :: es) (aK i t) :=
  ⟨fun dk H0 => PA.imp (pa_cons (pe_var hN hv hd hcd) (ht.run dk H0) hs) fun σ H Q ⟨ρ, R, rel, h, k⟩ => by
    unfold aK at h
    split at h
    · rename_i e
      have q := rel.sl i _ e
      exact ⟨_, q, ρ, _, rel, h, fun xs ρ2 vs H2 hxs ok hl rel2 ex2 => k _ ρ2 _ H2 hxs (.cons rfl ok) (by rw [List.length_cons, List.length_cons, hl]) rel2 ex2⟩
    · exact h.elim⟩
/-! ### calls -/
variable {k : Nat} {f : Addr} {fd : FuncData} {ps : List Str} {S : PSpec}
def tCallQ (S : PSpec) (t : TQA) : TQ := fun ρ R => t ρ fun as ρ1 => S as fun x => R x ρ1
theorem run_g {pins : List (Addr × Obj)} {σ : L2.St} {H : Hp} {s : Shared} {Q : VK} {dk : Dk} {args : Args} {us : List Value} {vs : List V} {as : List Ar} {R : PyData → Prop} {kws : List (Str × Value)} (F : FnG X.prog X.w X.K X.mg X.base k f fd ps S) (hG : X.A.guards = some []) (hr : Room k X.A)
    (I : Inv X pins σ H s) (hb : BindsTo s fd ⟨us, kws⟩ (ps.zip us')) (r : Vals vs us') (ok : ArsOk X.K dk H vs as) (hd : DkOk H dk.1 dk.2) (h : S as R) (kk : ∀ x v H', R x → Fz X.K H' v x → Step dk H H' → Q v H') :
    wpAny (model X.prog X.w) X.A (call (.ref f) us kws) (EP X pins σ Q) X.xe s := by
  refine wpAny_call (codeAny_mono (F.run X.A X.stack s H ⟨us, kws⟩ us' vs Q dk as R hG hr I.env0 hb r ok hd h kk) fun r s' hq => ?_)
  cases r with
  | error e => exact False.elim hq
  | ok fl =>
    cases fl with
    | ret u => exact I.after hq
    | next => exact False.elim hq
    | brk => exact False.elim hq
    | cont => exact False.elim hq
theorem q_call (F : FnG X.prog X.w X.K X.mg X.base k f fd ps S) (hG : X.A.guards = some []) (hr : Room k X.A) (hg : Gl X x) (hm : X.mg x = some (.ref f)) (hk : PySem.W.keepIn X.K (.ref f) = true) (hb : Binds X.K fd ps [])
    (ha : QAs X (e :: es) t) (hdb : (x == ("__debug__" : Str)) = false := by decide) (he : starEach (e :: es) X.env = (false, eval e X.env) :: starEach es X.env := by rfl) (hpl : (backTo pos (starEach es X.env)).any (·.1) = false := by rfl) :
    QE X (.Call (.Name x p) (e :: es) [] pos) (tCallQ S t) := by
  refine ⟨fun dk H0 => ⟨fun pins s σ H Q I ⟨ρ, R, rel, h, kk⟩ => ?_⟩⟩
  refine wpAny_Call_Name_kw (ld_glob I hg hm ?_ hdb)
  let Q1 : List V → Hp → Prop := fun vs H1 => ∃ as ρ1, (S as fun x => R x ρ1) ∧ ArsOk X.K dk H1 vs as ∧ Rel X.K dk H0 ρ1 σ H1 ∧ Ex H H1
  refine PySem.W.callWith_K (h₀ := X.base) I.ok.mod.kin hk (thn ((ha.run dk H0).run pos pins s σ H Q1 I ⟨ρ, _, rel, h, fun as ρ1 vs H1 q1 q2 q3 q4 q5 => ⟨as, ρ1, q1, q2, q4, q5⟩⟩) fun us s1 ⟨vs, H1, I1, r, as, ρ1, q1, q2, q4, q5⟩ => ⟨I1.kIn, ?_⟩) he hpl
  have hl : us.length = ps.length := by rw [← r.length, q2.length]; exact F.len _ _ q1
  have hb' := hb s1 us I1.kIn (by rw [List.append_nil]; exact hl)
  rw [List.append_nil] at hb'
  exact run_g (args := ⟨us, []⟩) F hG hr I1 hb' r q2 q4.dok q1 fun y v H' hy fz st => kk y ρ1 v H' hy fz (q4.step st) (q5.trans (st.ex q4.dok))
theorem q_call0 (F : FnG X.prog X.w X.K X.mg X.base k f fd ps S) (hG : X.A.guards = some []) (hr : Room k X.A) (hg : Gl X x) (hm : X.mg x = some (.ref f)) (hk : PySem.W.keepIn X.K (.ref f) = true) (hb : Binds X.K fd ps [])
    (hdb : (x == ("__debug__" : Str)) = false := by decide) : QE X (.Call (.Name x p) [] [] pos) (tCallQ S aNil) := by
  refine ⟨fun dk H0 => ⟨fun pins s σ H Q I ⟨ρ, R, rel, h, kk⟩ => ?_⟩⟩
  refine wpAny_Call_Name_kw (ld_glob I hg hm ?_ hdb)
  have h : S [] fun x => R x ρ := h
  have hl : ([] : List Value).length = ps.length := by have := F.len _ _ h; exact this
  have hb' := hb s [] I.kIn (by rw [List.append_nil]; exact hl)
  rw [List.append_nil] at hb'
  exact PySem.W.callWith_K0 I.kIn hk (run_g (us := []) (args := ⟨[], []⟩) F hG hr I hb' .nil .nil rel.dok h fun y v H' hy fz st => kk y ρ v H' hy fz (rel.step st) (st.ex rel.dok))
/-- keywords -/
structure QK (X : Cx) (kws : List Keyword) (t : TQA) : Prop where
  run : ∀ dk H0, PK X kws (upA' X.K dk H0 kws.length t)
theorem PK.imp {X : Cx} {e : List Keyword} {t t' : TA} (h : PK X e t) (w : ∀ σ H Q, t' σ H Q → t σ H Q) : PK X e t' := ⟨fun pos pins s σ H Q I q => h.run pos pins s σ H Q I (w _ _ _ q)⟩
theorem qk_nil : QK X [] aNil := ⟨fun dk H0 => PK.imp pk_nil fun σ H Q ⟨ρ, R, rel, h, k⟩ => k [] ρ [] H h .nil rfl rel (Ex.refl H)⟩
theorem qk_d {nm : Option Str} {kpos : Pos} {kws : List Keyword} (he : QE X e te) (ht : QK X kws t) : QK X (⟨nm, e, kpos⟩ :: kws) (aD te t) :=
  ⟨fun dk H0 => PK.imp (pk_cons (he.run dk H0) (ht.run dk H0)) fun σ H Q ⟨ρ, R, rel, h, k⟩ =>
    ⟨ρ, _, rel, h, fun x ρ1 v H1 hx fz rel1 ex1 => ⟨ρ1, _, rel1, hx, fun xs ρ2 vs H2 hxs ok hl rel2 ex2 => k _ ρ2 (v :: vs) H2 hxs (.cons (fz.mono ex2) ok) (by rw [List.length_cons, List.length_cons, hl]) rel2 (ex1.trans ex2)⟩⟩⟩
def pick {α : Type} (ix : List Nat) (xs : List α) : List α := ix.filterMap (xs[·]?)
theorem pick_vals {vs : List V} {us : List Value} (r : Vals vs us) : ∀ ix : List Nat, Vals (pick ix vs) (pick ix us)
  | [] => .nil
  | i :: ix => by
    unfold pick
    rw [List.filterMap_cons, List.filterMap_cons]
    cases e : vs[i]? with
    | none => rw [r.none_of e]; exact pick_vals r ix
    | some v =>
      obtain ⟨u, hu, ru⟩ := r.get e
      rw [hu]
      exact .cons ru (pick_vals r ix)
theorem ArsOk.get {K : PySem.W.Frag} {dk : Dk} {H : Hp} : ∀ {vs : List V} {as : List Ar} {i : Nat}, ArsOk K dk H vs as → (vs[i]? = none ∧ as[i]? = none) ∨ ∃ v a, vs[i]? = some v ∧ as[i]? = some a ∧ ArOk K dk H v a
  | _, _, _, .nil => .inl ⟨by simp, by simp⟩
  | _, _, 0, .cons h _ => .inr ⟨_, _, rfl, rfl, h⟩
  | _, _, i + 1, .cons _ t => by
    rcases ArsOk.get (i := i) t with ⟨h1, h2⟩ | ⟨v, a, h1, h2, h3⟩
    · exact .inl ⟨by simpa using h1, by simpa using h2⟩
    · exact .inr ⟨v, a, by simpa using h1, by simpa using h2, h3⟩
theorem pick_ars {K : PySem.W.Frag} {dk : Dk} {H : Hp} {vs : List V} {as : List Ar} (r : ArsOk K dk H vs as) : ∀ ix : List Nat, ArsOk K dk H (pick ix vs) (pick ix as)
  | [] => .nil
  | i :: ix => by
    unfold pick
    rw [List.filterMap_cons, List.filterMap_cons]
    rcases r.get (i := i) with ⟨h1, h2⟩ | ⟨v, a, h1, h2, h3⟩
    · rw [h1, h2]; exact pick_ars r ix
    · rw [h1, h2]; exact .cons h3 (pick_ars r ix)
theorem ArsOk.append {K : PySem.W.Frag} {dk : Dk} {H : Hp} : ∀ {vs ws : List V} {as bs : List Ar}, ArsOk K dk H vs as → ArsOk K dk H ws bs → ArsOk K dk H (vs ++ ws) (as ++ bs)
  | _, _, _, _, .nil, s => s
  | _, _, _, _, .cons r t, s => .cons r (ArsOk.append t s)
def KwB (K : PySem.W.Frag) (fd : FuncData) (ps ks : List Str) (n : Nat) (ix : List Nat) : Prop := ∀ (s : Shared) (us ws : List Value), K.In s.heap → us.length = n → ws.length = ks.length → BindsTo s fd ⟨us, ks.zip ws⟩ (ps.zip (pick ix (us ++ ws)))
def tCallKQ (S : PSpec) (ix : List Nat) (t tk : TQA) : TQ := fun ρ R => t ρ fun as ρ1 => tk ρ1 fun bs ρ2 => S (pick ix (as ++ bs)) fun x => R x ρ2
theorem q_callK {ks : List Str} {ix : List Nat} {kws : List Keyword} (F : FnG X.prog X.w X.K X.mg X.base k f fd ps S) (hG : X.A.guards = some []) (hr : Room k X.A) (hg : Gl X x) (hm : X.mg x = some (.ref f)) (hk : PySem.W.keepIn X.K (.ref f) = true) (hb : KwB X.K fd ps ks (e :: es).length ix)
    (ha : QAs X (e :: es) t) (hkw : QK X kws tk) (hlen : kws.length = ks.length := by rfl) (hall : (backToKw pos (keywordEach kws X.env)).all (·.1.isSome) = true := by rfl) (hks : (backToKw pos (keywordEach kws X.env)).filterMap (·.1) = ks := by rfl)
    (hdb : (x == ("__debug__" : Str)) = false := by decide) (he : starEach (e :: es) X.env = (false, eval e X.env) :: starEach es X.env := by rfl)
    (hpl : ((backTo pos (starEach (e :: es) X.env)).any (·.1) || (backToKw pos (keywordEach kws X.env)).any (·.1.isNone)) = false := by rfl) :
    QE X (.Call (.Name x p) (e :: es) kws pos) (tCallKQ S ix t tk) := by
  refine ⟨fun dk H0 => ⟨fun pins s σ H Q I ⟨ρ, R, rel, h, kk⟩ => ?_⟩⟩
  refine wpAny_Call_Name_kw (ld_glob I hg hm ?_ hdb)
  let Q1 : List V → Hp → Prop := fun vs H1 => ∃ as ρ1, (tk ρ1 fun bs ρ2 => S (pick ix (as ++ bs)) fun x => R x ρ2) ∧ ArsOk X.K dk H1 vs as ∧ vs.length = (e :: es).length ∧ Rel X.K dk H0 ρ1 σ H1 ∧ Ex H H1
  refine PySem.W.callWith_KW (h₀ := X.base) I.ok.mod.kin hk hall (thn ((ha.run dk H0).run pos pins s σ H Q1 I ⟨ρ, _, rel, h, fun as ρ1 vs H1 q1 q2 q3 q4 q5 => ⟨as, ρ1, q1, q2, q3, q4, q5⟩⟩) fun us s1 ⟨vs, H1, I1, r, as, ρ1, q1, q2, q3, q4, q5⟩ => ?_) hpl he
  let Q2 : List V → Hp → Prop := fun zs H2 => ∃ bs ρ2, (S (pick ix (as ++ bs)) fun x => R x ρ2) ∧ ArsOk X.K dk H2 zs bs ∧ zs.length = kws.length ∧ Rel X.K dk H0 ρ2 σ H2 ∧ Ex H1 H2
  refine thn ((hkw.run dk H0).run pos pins s1 σ H1 Q2 I1 ⟨ρ1, _, q4, q1, fun bs ρ2 zs H2 p1 p2 p3 p4 p5 => ⟨bs, ρ2, p1, p2, p3, p4, p5⟩⟩) fun ws s2 ⟨zs, H2, I2, rz, bs, ρ2, p1, p2, p3, p4, p5⟩ => ⟨I2.kIn, ?_⟩
  rw [hks]
  exact run_g (args := ⟨us, ks.zip ws⟩) F hG hr I2 (hb s2 us ws I2.kIn (by rw [← r.length]; exact q3) (by rw [← rz.length, p3]; exact hlen)) (pick_vals (r.append rz) ix) (pick_ars ((q2.mono p5).append p2) ix) p4.dok p1 fun y v H' hy fz st => kk y ρ2 v H' hy fz (p4.step st) (q5.trans (p5.trans (st.ex p4.dok)))
theorem q_callK0 {ks : List Str} {ix : List Nat} {kws : List Keyword} (F : FnG X.prog X.w X.K X.mg X.base k f fd ps S) (hG : X.A.guards = some []) (hr : Room k X.A) (hg : Gl X x) (hm : X.mg x = some (.ref f)) (hk : PySem.W.keepIn X.K (.ref f) = true) (hb : KwB X.K fd ps ks 0 ix)
    (hkw : QK X kws tk) (hlen : kws.length = ks.length := by rfl) (hall : (backToKw pos (keywordEach kws X.env)).all (·.1.isSome) = true := by rfl) (hks : (backToKw pos (keywordEach kws X.env)).filterMap (·.1) = ks := by rfl)
    (hdb : (x == ("__debug__" : Str)) = false := by decide)
    (hpl : ((backTo pos (starEach [] X.env)).any (·.1) || (backToKw pos (keywordEach kws X.env)).any (·.1.isNone)) = false := by rfl) :
    QE X (.Call (.Name x p) [] kws pos) (tCallKQ S ix aNil tk) := by
  refine ⟨fun dk H0 => ⟨fun pins s σ H Q I ⟨ρ, R, rel, h, kk⟩ => ?_⟩⟩
  refine wpAny_Call_Name_kw (ld_glob I hg hm ?_ hdb)
  let Q2 : List V → Hp → Prop := fun zs H2 => ∃ bs ρ2, (S (pick ix ([] ++ bs)) fun x => R x ρ2) ∧ ArsOk X.K dk H2 zs bs ∧ zs.length = kws.length ∧ Rel X.K dk H0 ρ2 σ H2 ∧ Ex H H2
  refine PySem.W.callWith_KW0 (h₀ := X.base) I.ok.mod.kin hk hall (thn ((hkw.run dk H0).run pos pins s σ H Q2 I ⟨ρ, _, rel, h, fun bs ρ2 zs H2 p1 p2 p3 p4 p5 => ⟨bs, ρ2, p1, p2, p3, p4, p5⟩⟩) fun ws s2 ⟨zs, H2, I2, rz, bs, ρ2, p1, p2, p3, p4, p5⟩ => ⟨I2.kIn, ?_⟩) hpl
  rw [hks]
  exact run_g (us := []) (args := ⟨[], ks.zip ws⟩) F hG hr I2 (hb s2 [] ws I2.kIn rfl (by rw [← rz.length, p3]; exact hlen)) (pick_vals (Vals.append .nil rz) ix) (pick_ars (ArsOk.append .nil p2) ix) p4.dok p1 fun y v H' hy fz st => kk y ρ2 v H' hy fz (p4.step st) (p5.trans (st.ex p4.dok))
end
/-! ### the rule of a def -/
def enOf (as : List Ar) (n : Nat) : En := (as.map fun a => match a with | .d x => Sl.d x | .dk => Sl.dk) ++ List.replicate n .un
theorem rel_start {K : PySem.W.Frag} {dk : Dk} {H : Hp} {vs : List V} {as : List Ar} {N : List Str} (ok : ArsOk K dk H vs as) (hd : DkOk H dk.1 dk.2) : Rel K dk H (enOf as (N.length - vs.length)) (L2.start N vs) H := by
  have noOwn : ∀ (i : Nat) s, (enOf as (N.length - vs.length))[i]? = some s → s.isOwn = false := fun i s e => by
    unfold enOf at e
    rw [List.getElem?_append] at e
    split at e
    · rw [List.getElem?_map] at e
      cases q : as[i]? with
      | none => rw [q] at e; cases e
      | some a => rw [q] at e; cases e; cases a <;> rfl
    · rw [List.getElem?_replicate] at e
      split at e
      · cases e; rfl
      · cases e
  obtain ⟨ne, cs, m, k, h1, h2, h3⟩ := id hd
  refine ⟨?_, fun i s e => ?_, fun i j a ⟨s, e, o, _⟩ => ?_, hd, (by rw [h1]; intro z; cases z), (by rw [h2]; intro z; cases z), fun a o e _ _ => e⟩
  · unfold enOf L2.start
    simp [ok.length]
  · unfold enOf at e
    rw [List.getElem?_append] at e
    split at e
    · rename_i hlt
      rw [List.getElem?_map] at e
      rcases ok.get (i := i) with ⟨q1, q2⟩ | ⟨v, a, q1, q2, q3⟩
      · rw [q2] at e; cases e
      · rw [q2] at e
        have hs : (L2.start N vs)[i]? = some (some v) := by
          unfold L2.start
          rw [List.getElem?_append_left (by rw [List.length_map]; exact (List.getElem?_eq_some_iff.mp q1).1), List.getElem?_map, q1]
          rfl
        cases a with
        | d x => cases e; exact ⟨v, hs, q3⟩
        | dk => cases e; rw [show v = .ref dk.1 from q3] at hs; exact hs
    · rw [List.getElem?_replicate] at e
      split at e
      · cases e; exact True.intro
      · cases e
  · rw [noOwn i s e] at o; cases o
section
variable {P : Program} {w : World} {K : PySem.W.Frag} {mg : Str → Option Value} {base : Heap}
theorem FnG.of {x qual : Str} {st : Stmt} {f : Addr} {fd : FuncData} {N ps : List Str} {k : Nat} {S : PSpec} (F : Fun K x qual st f fd) (Sc : FnScope N ps (defScope st)) (len : ∀ as R, S as R → as.length = ps.length) {t : TQS}
    (hbody : ∀ (cdv : Value) (A : Around) (outer : List PySem.Env) (s : Shared) (H : Hp), A.guards = some [] → Room k (A.deeper (envOfC qual (defScope st) s.heap.objs.size f cdv)) →
      QSs (cxOf CX0 P w K mg base N qual (defScope st) f cdv A outer s H E0).nox (defBody st) t)
    (hread : ∀ as R, S as R → t { nx := fun _ => R .none, rt := R } (enOf as (N.length - ps.length))) : FnG P w K mg base (k + 1) f fd ps S := by
  obtain ⟨oc, od, kV, doc, pm, an, cdv, ct, osl, rfl, lk, hcd⟩ := F.ex
  refine ⟨len, fun A outer s H args us vs Q dk as R hG hr e0 hb r ok hd hS kk => ?_⟩
  have hl : vs.length = ps.length := by rw [ok.length]; exact len _ _ hS
  have KX : K.In s.heap := e0.mod.kin.keeps fun b o e => (e0.bs b o e).1
  have lim : s.heap.NoLimit := e0.mod.nolimit.keeps fun b o e => (e0.bs b o e).1
  have hkind : ∀ y ∈ ps.zip us, (defScope st).names.lookup y.1 = some .local ∨ ((defScope st).names.lookup y.1 = some .cell ∧ ((cellsFrom (s.heap.objs.size + 1) (defScope st).names []).lookup y.1).isSome = true) := fun ⟨n, v⟩ hy => by
    rcases Sc.par n (List.of_mem_zip hy).1 with q | q
    · exact .inl q
    · exact .inr ⟨q, PySem.W.cellsFrom_some _ _ _ (.inl q)⟩
  refine codeAny_call_function hr.depth (KX _ _ lk) rfl Sc.co Sc.gen rfl (PySem.W.codeRec_of KX hcd) (hb _ _ _ _ ?_)
  refine wpAny_newFunctionEnv_cells Sc.kind hkind fun env he s1 x => ?_
  subst he
  refine ⟨lim.keeps x.toInCall.keep, codeAny_func ?_⟩
  have ht := (((hbody cdv A outer s H hG (hr.deeper _)).run dk H).nox : PSs (cxOf CX0 P w K mg base N qual (defScope st) f cdv A outer s H E0) (defBody st) _)
  have I : Inv (cxOf CX0 P w K mg base N qual (defScope st) f cdv A outer s H E0) [] (L2.start N vs) H s1 := inv_start Sc hr.hd e0 hl r x
  have rs := rel_start (K := K) (N := N) ok hd
  rw [hl] at rs
  refine wpAny_mono (ht.run [] s1 (L2.start N vs) H { nx := fun _ H' => Q .non H', rt := Q } I ⟨_, _, rs, hread as R hS, ⟨fun ρ' σ' H' hn rel _ => kk .none .non H' hn .non rel.stp, fun y v H' hy fz st => kk y v H' hy fz st, fun _ _ _ z => z.elim, fun _ _ _ z => z.elim⟩⟩) (fun fl s' hs => ?_) fun e s' hs => hs
  have fin : ∀ {σ' : L2.St} {H' : Hp} {v : V} {u : Value}, Inv (cxOf CX0 P w K mg base N qual (defScope st) f cdv A outer s H E0) [] σ' H' s' → RelV v u → Q v H' → CE outer P w H s Q u s' :=
    fun {σ' H' v u} J rv q => ⟨v, H', J.os, J.bare, J.base, J.hok, rv, q⟩
  cases fl with
  | ret u =>
    obtain ⟨v, σ', H', J, rv, q⟩ := hs
    exact fin J rv q
  | next =>
    obtain ⟨σ', H', J, q⟩ := hs
    exact fin (v := V.non) (u := Value.none) J rfl q
  | brk =>
    obtain ⟨_, _, _, q⟩ := hs
    exact False.elim q
  | cont =>
    obtain ⟨_, _, _, q⟩ := hs
    exact False.elim q
end
end Q
end P10
section P11
namespace Q
open PySem PySem.Spec PyProof.Rows L2 HT

def spDeck (K : PySem.W.Frag) : Sp := fun vs H Q _ => ∃ (a : Addr) (ns : List Int), vs = [.ref a] ∧ SqL K H a (ns.map V.int) ∧ ns.length ≤ 63 ∧ ∀ (d c : Addr) (H' : Hp), H d = none → H c = none → DkOk H' d c → Same H H' → Q (.ref d) H'
def spDraw : Sp := fun vs H Q _ => ∃ (d c : Addr) (n : Int), vs = [.ref d, .int n] ∧ DkOk H d c ∧ 0 < n ∧ n < 1073741824 ∧ ∀ (r : Int) (H' : Hp), 0 ≤ r → r < n → DkOk H' d c → (∀ a o, H a = some o → a ≠ d → a ≠ c → H' a = some o) → Q (.int r) H'
/-- a draw: some int below many -/
def sDraw : PSpec := fun as R => match as with
  | [.dk, .d (.int n)] => 0 < n ∧ n < 1073741824 ∧ ∀ r : Int, 0 ≤ r → r < n → R (.int r)
  | _ => False
section
variable {P : Program} {w : World} {K : PySem.W.Frag} {mg : Str → Option Value} {base : Heap} {k : Nat} {f : Addr} {fd : FuncData} {ps : List Str}
theorem FnG.draw {ps : List Str} (F : FnOk P w K mg base CX0 k f fd ps spDraw) (hl : ps.length = 2) : FnG P w K mg base k f fd ps sDraw := by
  refine ⟨fun as R h => ?_, fun A outer s H args us vs Q dk as R hG hr e0 hb r ok hd hS kk => ?_⟩
  · unfold sDraw at h
    split at h
    · exact hl.symm
    · exact h.elim
  · unfold sDraw at hS
    split at hS
    · rename_i n
      obtain ⟨h1, h2, h3⟩ := hS
      cases ok with
      | cons oa ok =>
        cases ok with
        | cons ob ok =>
          cases ok
          cases ob
          have oa : _ = V.ref dk.1 := oa
          subst oa
          exact F.run A outer s H args us _ Q E0 hr e0 hb r ⟨dk.1, dk.2, n, rfl, hd, h1, h2, fun x H' g1 g2 g3 g4 => kk _ _ H' (h3 x g1 g2) (.int x) ⟨g4, g3⟩⟩
    · exact hS.elim
/-! ### the law -/
structure LawOk (P : Program) (w : World) (K : PySem.W.Frag) (mg : Str → Option Value) (base : Heap) (k : Nat) (f : Addr) (fd : FuncData) (x : Str) : Prop where
  run : ∀ (A : Around) (outer : List PySem.Env) (s : Shared) (H : Hp) (args : Args) (u : Value) (a : Addr) (ns : List Int) (Q : VK), A.guards = some [] → Room k A → Env0 P w K mg base A outer s H → BindsTo s fd args [(x, u)] → RelV (.ref a) u → SqL K H a (ns.map V.int) → ns.length ≤ 63 → (∀ H', Q (.bl true) H') →
    codeAny (model P w) A (.call (.ref f) args) (CR CX0 outer P w H s Q E0) s
theorem LawOk.of {x0 qual x : Str} {st : Stmt} {s0 : Stmt} {rest : List Stmt} {N : List Str} {i : Nat} (F : Fun K x0 qual st f fd) (Sc : FnScope N [x] (defScope st)) {t : TQS} (hst : defBody st = s0 :: rest) (hN : N.length = i + 2)
    (h0 : ∀ (cdv : Value) (A : Around) (outer : List PySem.Env) (s : Shared) (H : Hp), A.guards = some [] → Room k (A.deeper (envOfC qual (defScope st) s.heap.objs.size f cdv)) →
      PS (cxOf CX0 P w K mg base N qual (defScope st) f cdv A outer s H E0).nox s0 (tAsg (tCall (spDeck K) [] E0 (tCons (tVar 0) tNil)) (gName 1)))
    (hbody : ∀ (cdv : Value) (A : Around) (outer : List PySem.Env) (s : Shared) (H : Hp), A.guards = some [] → Room k (A.deeper (envOfC qual (defScope st) s.heap.objs.size f cdv)) →
      QSs (cxOf CX0 P w K mg base N qual (defScope st) f cdv A outer s H E0).nox rest t)
    (hread : t { nx := fun _ => False, rt := fun y => y = .bool true } (.un :: .dk :: List.replicate i .un)) : LawOk P w K mg base (k + 1) f fd x := by
  obtain ⟨oc, od, kV, doc, pm, an, cdv, ct, osl, rfl, lk, hcd⟩ := F.ex
  refine ⟨fun A outer s H args u a ns Q hG hr e0 hb r hS hl kk => ?_⟩
  have KX : K.In s.heap := e0.mod.kin.keeps fun b o e => (e0.bs b o e).1
  have lim : s.heap.NoLimit := e0.mod.nolimit.keeps fun b o e => (e0.bs b o e).1
  have hkind : ∀ y ∈ [(x, u)], (defScope st).names.lookup y.1 = some .local ∨ ((defScope st).names.lookup y.1 = some .cell ∧ ((cellsFrom (s.heap.objs.size + 1) (defScope st).names []).lookup y.1).isSome = true) := fun y hy => by
    have : y = (x, u) := by simpa using hy
    subst this
    rcases Sc.par x (by simp) with q | q
    · exact .inl q
    · exact .inr ⟨q, PySem.W.cellsFrom_some _ _ _ (.inl q)⟩
  refine codeAny_call_function hr.depth (KX _ _ lk) rfl Sc.co Sc.gen rfl (PySem.W.codeRec_of KX hcd) (hb _ _ _ _ ?_)
  refine wpAny_newFunctionEnv_cells Sc.kind hkind fun env he s1 xx => ?_
  subst he
  refine ⟨lim.keeps xx.toInCall.keep, codeAny_func ?_⟩
  have ht : PSs (cxOf CX0 P w K mg base N qual (defScope st) f cdv A outer s H E0).nox rest (fun D σ H' => ∃ dk H1, upS K dk H1 t D σ H') := ⟨fun pins s' σ H' D I ⟨dk, H1, q⟩ => ((hbody cdv A outer s H hG (hr.deeper _)).run dk H1).run pins s' σ H' D I q⟩
  have hb2 := ((pss_cons (h0 cdv A outer s H hG (hr.deeper _)) ht).nox : PSs (cxOf CX0 P w K mg base N qual (defScope st) f cdv A outer s H E0) _ _)
  rw [hst]
  have I : Inv (cxOf CX0 P w K mg base N qual (defScope st) f cdv A outer s H E0) [] (L2.start N [.ref a]) H s1 := inv_start (vs := [.ref a]) (us := [u]) Sc hr.hd e0 rfl (.cons r .nil) xx
  have es : L2.start N [V.ref a] = some (.ref a) :: none :: List.replicate i none := by
    unfold L2.start
    rw [hN]
    show some (V.ref a) :: List.replicate (i + 2 - 1) none = _
    rw [show i + 2 - 1 = i + 1 by omega, List.replicate_succ]
  refine wpAny_mono (hb2.run [] s1 (L2.start N [.ref a]) H { nx := fun _ H' => Q .non H', rt := Q } I ?_) (fun fl s' hs => ?_) fun e s' hs => hs
  · rw [es]
    refine ⟨.ref a, rfl, a, ns, rfl, hS, hl, fun d c H' nd nc dok sm => ?_⟩
    obtain ⟨ne, cs, m, z, g1, g2, g3⟩ := id dok
    refine ⟨(d, c), H', .un :: .dk :: List.replicate i .un, _, ?_, hread, ⟨fun _ _ _ z => z.elim, fun y v H2 hy fz _ => ?_, fun _ _ _ z => z.elim, fun _ _ _ z => z.elim⟩⟩
    · have sl : ∀ (j : Nat) (s : Sl), (Sl.un :: .dk :: List.replicate i Sl.un)[j]? = some s → s.isOwn = false ∧ (j ≠ 1 → s = .un) ∧ (j = 1 → s = .dk) := fun j s e => by
        match j with
        | 0 => simp at e; subst e; simp [Sl.isOwn]
        | 1 => simp at e; subst e; simp [Sl.isOwn]
        | j + 2 =>
          simp only [List.getElem?_cons_succ] at e
          rw [List.getElem?_replicate] at e
          split at e
          · cases e; simp [Sl.isOwn]
          · cases e
      refine ⟨by simp, fun j s e => ?_, fun j l b ⟨s, e, o, _⟩ => ?_, dok, ?_, ?_, fun b o e _ _ => e⟩
      · obtain ⟨q1, q2, q3⟩ := sl j s e
        by_cases hj : j = 1
        · rw [q3 hj, hj]; rfl
        · rw [q2 hj]; exact True.intro
      · rw [(sl j s e).1] at o; cases o
      · show H' d ≠ none
        rw [g1]; intro z; cases z
      · show H' c ≠ none
        rw [g2]; intro z; cases z
    · have hy : y = .bool true := hy
      subst hy
      cases fz
      exact kk H2
  have fin : ∀ {σ' : L2.St} {H' : Hp} {v : V} {u : Value}, Inv (cxOf CX0 P w K mg base N qual (defScope st) f cdv A outer s H E0) [] σ' H' s' → RelV v u → Q v H' → CE outer P w H s Q u s' :=
    fun {σ' H' v u} J rv q => ⟨v, H', J.os, J.bare, J.base, J.hok, rv, q⟩
  cases fl with
  | ret u =>
    obtain ⟨v, σ', H', J, rv, q⟩ := hs
    exact fin J rv q
  | next =>
    obtain ⟨σ', H', J, q⟩ := hs
    exact fin (v := V.non) (u := Value.none) J rfl q
  | brk =>
    obtain ⟨_, _, _, q⟩ := hs
    exact False.elim q
  | cont =>
    obtain ⟨_, _, _, q⟩ := hs
    exact False.elim q
end
theorem law_callG {P : Program} {w : World} {K : PySem.W.Frag} {mg mb : Str → Option Value} {k : Nat} {fa a : Addr} {fd : FuncData} {x : Str} {s₁ : Shared} {vs : List Value} {ns : List Int}
    (KX : K.In s₁.heap) (hns : s₁.heap.Ns mainGlobals mg) (hb : s₁.heap.Ns builtinsNs mb) (hbb : ∀ x : Str, x ≠ "__name__" → mb x = bootBuiltins x) (hlim : s₁.heap.NoLimit) (hg : s₁.gens = #[])
    (ha : s₁.heap.get? a = some { cls := .type "list", data := .seq vs.toArray }) (hi : IntsAre vs ns) (hl : ns.length ≤ 63) (hr : Room k callerA)
    (F : ∀ base : Heap, K.In base → base.Ns mainGlobals mg → LawOk P w K mg base k fa fd x) (hbind : ∀ (s : Shared) (u : Value), BindsTo s fd ⟨[u], []⟩ [(x, u)]) :
    codeAny (model P w) callerA (.call (.ref fa) ⟨[.ref a], []⟩) (fun r s' => r = .ok (.ret (.bool true)) ∧ OldK s₁.heap s'.heap ∧ s'.os = s₁.os ∧ AllBare s'.gens) s₁ := by
  have rv := vals_ints hi
  have lenV := hi.length
  have core : ∀ H : Hp, Only H → SqL K H a (ns.map V.int) → HOk P w H s₁.heap → (∀ b, H b ≠ none → b = a) → (H a ≠ none → K.lookup a = none) →
      codeAny (model P w) callerA (.call (.ref fa) ⟨[.ref a], []⟩) (fun r s' => r = .ok (.ret (.bool true)) ∧ OldK s₁.heap s'.heap ∧ s'.os = s₁.os ∧ AllBare s'.gens) s₁ := by
    intro H hO hS hok hA hK
    have base_of : ∀ {b : Addr} {o : Obj}, s₁.heap.get? b = some o → H b = none → (hidT s₁.heap H).get? b = some o := fun e n => hidT_get e n
    have noA : ∀ {b : Addr} {o : Obj} {es : Array DictEntry} {ep : Nat}, s₁.heap.get? b = some o → o.data = .dict es ep → H b = none := fun {b o es ep} e d => by
      cases q : H b with
      | none => rfl
      | some u =>
        have e' : b = a := hA b (by rw [q]; simp)
        subst e'
        rw [ha] at e; cases e
        have d' : Data.seq vs.toArray _ = Data.dict es ep := d
        cases d'
    have nsK : ∀ {b : Addr} {m : Str → Option Value}, s₁.heap.Ns b m → (hidT s₁.heap H).Ns b m := fun {b m} ⟨o, es, ep, e, d, r⟩ => ⟨o, es, ep, base_of e (noA e d), d, r⟩
    have hKb : K.In (hidT s₁.heap H) := fun b o e => base_of (KX b o e) (by
      cases q : H b with
      | none => rfl
      | some u =>
        have e' : b = a := hA b (by rw [q]; simp)
        subst e'
        rw [hK (by rw [q]; simp)] at e; cases e)
    have hM : Mod K mg (hidT s₁.heap H) := ⟨hKb, nsK hns, ⟨mb, nsK hb, hbb⟩, let ⟨mc, h1, h2⟩ := hlim; ⟨mc, nsK h1, h2⟩⟩
    have e0 : Env0 P w K mg (hidT s₁.heap H) callerA [] s₁ H := ⟨rfl, hM, fun b o e => of_hidT e, Nat.le_of_eq (hidT_size _ _), trivial, fun b hb => absurd (show b ∈ ([] : List Addr) from hb) (by simp), hok, .of_eq hg⟩
    refine codeAny_mono ((F _ hKb (nsK hns)).run callerA [] s₁ H ⟨[.ref a], []⟩ (.ref a) a ns (fun v _ => v = .bl true) rfl hr e0 (hbind s₁ (.ref a)) rfl hS hl fun _ => rfl) fun r s' h => ?_
    cases r with
    | error e => exact False.elim h
    | ok fl =>
      cases fl with
      | next => exact False.elim h
      | brk => exact False.elim h
      | cont => exact False.elim h
      | ret u =>
        obtain ⟨v, H', os, bare, un, hok', r', q⟩ := h
        have q' : v = .bl true := q
        subst q'
        obtain rfl : u = Value.bool true := r'
        refine ⟨rfl, OldK.of_keep fun b o e => ?_, os, bare⟩
        cases q : H b with
        | none => exact un.keep b o e q (by intro z; exact absurd (show b ∈ ([] : List Addr) from z) (by simp)) (by simp)
        | some u =>
          rcases hO b with z | ⟨ob, xs, z⟩
          · rw [q] at z; cases z
          · have z2 := un.frzs b ob _ z
            obtain ⟨e1, _⟩ := hok b _ z
            obtain ⟨e2, _⟩ := hok' b _ z2
            rw [e] at e1; cases e1
            exact e2
  have hlz : ns.length ≤ sizeLine := Nat.le_trans hl (by decide)
  cases hk : K.lookup a with
  | some o =>
    have e := KX a o hk
    rw [ha] at e
    cases e
    refine core (fun _ => none) (fun _ => .inl rfl) (.inr ⟨_, vs.toArray, _, hk, rfl, rfl, rfl, by rw [List.size_toArray, lenV]; exact hlz, by simpa using rv⟩) (fun b u z => by have z' : (none : Option HO) = some u := z; cases z') (fun b z => absurd rfl z) fun z => absurd rfl z
  | none =>
    refine core (fun b => if b = a then some (.frz { cls := .type "list", data := .seq vs.toArray } (.lst (ns.map V.int))) else none) (fun b => ?_) (.inl (.inr ⟨{ cls := .type "list", data := .seq vs.toArray }, if_pos rfl⟩)) (fun b u z => ?_) (fun b z => ?_) fun _ => hk
    · by_cases hb : b = a
      · exact .inr ⟨_, _, if_pos hb⟩
      · exact .inl (if_neg hb)
    · by_cases hb : b = a
      · have z' := (if_pos hb).symm.trans z
        cases z'
        subst hb
        exact ⟨ha, by rw [List.length_map]; exact hlz, vs, _, rv, ha⟩
      · have z' := (if_neg hb).symm.trans z
        cases z'
    · by_cases hb : b = a
      · exact hb
      · exact absurd (if_neg hb) z
theorem walk_ofG {l : PySem.W.OpenLaw} {k : Nat} {q : Program} {loose : List Str} {XP : (Str → Option Value) → Heap → Prop} {YP : World → Heap → Prop} {d : DefRec} {K : Params → PySem.W.Frag} {x : Str}
    (hn : l.most = some 63) (hdf : d.params.defaults = []) (hr : Room k callerA)
    (hY : ∀ (w : World) (h : Heap), YP w h → (K w.params).In h)
    (F : ∀ (w : World) (mg : Str → Option Value) (fa : Addr) (h : Heap), (K w.params).In h → h.Ns mainGlobals mg → mg d.name = some (.ref fa) →
      ∃ fd : FuncData, (∀ (s : Shared) (u : Value), BindsTo s fd ⟨[u], []⟩ [(x, u)]) ∧
        ∀ base : Heap, (K w.params).In base → base.Ns mainGlobals mg → LawOk l.prog w (K w.params) mg base k fa fd x) :
    PySem.W.WalkO q loose XP YP l.row.toRowW d [] (fun f vs => PySem.call f vs) := by
  refine Att.attach_call hn hdf fun w s₀ s₁ mg mb fa o pm cd doc a vs ns G Y ho hd hcd hmg hobj hints hlen hg => ?_
  have KX := hY w _ Y
  obtain ⟨fd, hb, hF⟩ := F w mg fa _ KX G.T.g hmg
  exact law_callG KX G.T.g G.T.b G.T.builtins G.T.nolimit hg hobj hints hlen hr hF hb
end Q
end P11
section P12
namespace Q
open PySem PySem.Spec PyProof.Rows L2 HT

section
variable {X : Cx} {pos p : Pos} {e a b : Expr} {es : List Expr} {te ta tb : TQ} {t : TQL} {x : Str} {id T : String} {r : V → List V → Hp → VK → Prop}
/-! ### things that one slot alone holds -/
def tLenN (i : Nat) : TQ := fun ρ R => match ρ[i]? with
  | some (.own xs) => R (.int (xs.length : Nat)) ρ
  | some (.d x) => lenD [x] fun z => R z ρ
  | _ => False
theorem q_lenN (i : Nat) (hg : Gl X "len") (hm : X.mg "len" = none) (hN : X.N[i]? = some x := by rfl) (hv : Vis X.env.scope x := by first | exact Or.inl rfl | exact Or.inr (Or.inl rfl) | exact Or.inr (Or.inr rfl)) (hd : (x == ("__debug__" : Str)) = false := by decide)
    (hcd : (x == ("__classdict__" : Str)) = false := by decide) (hs : starEach [.Name x p] X.env = (false, eval (.Name x p) X.env) :: starEach [] X.env := by rfl) : QE X (.Call (.Name "len" pos) [.Name x p] [] pos') (tLenN i) :=
  ⟨fun dk H0 => PE.imp (pe_callB (call_len_seq.or call_len_str) hg hm PySem.boot_len (pa_cons (pe_var hN hv hd hcd) pa_nil hs) (he := hs)) fun σ H Q ⟨ρ, R, rel, h, k⟩ => by
    unfold tLenN at h
    split at h
    · rename_i xs e
      obtain ⟨a, vs, h1, h2, h3, h4⟩ := rel.sl i _ e
      refine ⟨_, h1, .inl ⟨a, vs, rfl, .inl (SqL.of h2), ?_⟩⟩
      rw [h3.length]
      exact k _ ρ _ H h (.int _) rel (Ex.refl H)
    · rename_i y e
      obtain ⟨v, h1, h2⟩ := rel.sl i _ e
      exact ⟨v, h1, br_len [y] [v] H Q _ (.one h2) h fun z w H' hz fz sm => k z ρ w H' hz fz (rel.same sm) (ex_same sm)⟩
    · exact h.elim⟩
def setQ : Option Sl → Bool
  | some .un => false
  | none => false
  | _ => true
theorem Rel.isSet {K : PySem.W.Frag} {dk : Dk} {H0 H : Hp} {ρ : En} {σ : L2.St} {i : Nat} (r : Rel K dk H0 ρ σ H) (h : setQ ρ[i]? = true) : ∃ v, σ[i]? = some (some v) := by
  cases e : ρ[i]? with
  | none => rw [e] at h; cases h
  | some s =>
    have q := r.sl i s e
    cases s with
    | un => rw [e] at h; cases h
    | d x => obtain ⟨v, h1, _⟩ := q; exact ⟨v, h1⟩
    | own x => obtain ⟨a, v, h1, _⟩ := q; exact ⟨_, h1⟩
    | owd x => obtain ⟨a, v, h1, _⟩ := q; exact ⟨_, h1⟩
    | dk => exact ⟨_, q⟩
def tIxN (i : Nat) (ti : TQ) : TQ := fun ρ R => setQ ρ[i]? = true ∧ ti ρ fun y ρ1 => match ρ1[i]? with
  | some (.own xs) => ixD (.list xs) y fun z => R z ρ1
  | some (.d x) => ixD x y fun z => R z ρ1
  | _ => False
theorem q_ixN (i : Nat) (hb : QE X b tb) (hN : X.N[i]? = some x := by rfl) (hv : Vis X.env.scope x := by first | exact Or.inl rfl | exact Or.inr (Or.inl rfl) | exact Or.inr (Or.inr rfl)) (hd : (x == ("__debug__" : Str)) = false := by decide)
    (hcd : (x == ("__classdict__" : Str)) = false := by decide) (hs : PlainIx b := by intro _ _; rfl) : QE X (.Subscript (.Name x p) b pos) (tIxN i tb) := by
  refine ⟨fun dk H0 => PE.imp (pe_ix ix_seq (pe_var hN hv hd hcd) (hb.run dk H0) hs) fun σ H Q ⟨ρ, R, rel, ⟨hset, h⟩, k⟩ => ?_⟩
  -- the name's value: whatever it is, it is what the slot holds behind the index
  have key : ∀ v, σ[i]? = some (some v) → (up X.K dk H0 tb) σ H fun y H2 => rIx X.K v y H2 Q := fun v hv => ⟨ρ, _, rel, h, fun y ρ1 u H1 hy fz rel1 ex1 => by
    have hy : (match ρ1[i]? with | some (.own xs) => ixD (.list xs) y fun z => R z ρ1 | some (.d x) => ixD x y fun z => R z ρ1 | _ => False) := hy
    split at hy
    · rename_i xs e
      obtain ⟨a, vs, h1, h2, h3, h4⟩ := rel1.sl i _ e
      rw [hv] at h1
      cases h1
      cases fz <;> first | exact hy.elim | skip
      obtain ⟨z, hz, c⟩ := hy
      obtain ⟨w, hw, fw⟩ := atI_fz h3 hz
      exact .inl ⟨_, _, _, w, rfl, rfl, SqL.of h2, hw, k z ρ1 w H1 c fw rel1 ex1⟩
    · rename_i x e
      obtain ⟨v', h1, h2⟩ := rel1.sl i _ e
      rw [hv] at h1
      cases h1
      exact br_ix x y _ u H1 Q _ h2 fz hy fun z w H' hz fz' sm => k z ρ1 w H' hz fz' (rel1.same sm) (ex1.trans (ex_same sm))
    · exact hy.elim⟩
  obtain ⟨v, e⟩ := rel.isSet hset
  exact ⟨v, e, key v e⟩
/-- methods of an own list -/
abbrev CM := List PyData → List PyData → (PyData → List PyData → Prop) → Prop
abbrev BrM (K : PySem.W.Frag) (r : V → List V → Hp → VK → Prop) (C : CM) : Prop := ∀ a xs vs ds ws H Q R, H a = some (.lst vs) → FzAll K H vs xs → FzAll K H ws ds → C xs ds R → (∀ z xs' v vs', R z xs' → Fz K H v z → FzAll K H vs' xs' → Q v (upd H a (.lst vs'))) → r (.ref a) ws H Q
def ownL : Option Sl → Bool
  | some (.own _) => true
  | _ => false
def tOwnM (i : Nat) (C : CM) (t : TQL) : TQ := fun ρ R => ownL ρ[i]? = true ∧ t ρ fun ds ρ1 => match ρ1[i]? with
  | some (.own xs) => C xs ds fun z xs' => R z (ρ1.set i (.own xs'))
  | _ => False
theorem own_at {K : PySem.W.Frag} {dk : Dk} {H0 H : Hp} {ρ : En} {σ : L2.St} {i : Nat} (r : Rel K dk H0 ρ σ H) (h : ownL ρ[i]? = true) : ∃ a vs, σ[i]? = some (some (.ref a)) ∧ H a = some (.lst vs) := by
  cases e : ρ[i]? with
  | none => rw [e] at h; cases h
  | some s =>
    cases s with
    | own x => obtain ⟨a, v, h1, h2, _⟩ := r.sl i _ e; exact ⟨a, v, h1, h2⟩
    | _ => rw [e] at h; cases h
theorem up_ownM {K : PySem.W.Frag} {dk : Dk} {H0 : Hp} {i : Nat} {C : CM} (br : BrM K r C) {σ : L2.St} {H : Hp} {Q : VK} {ρ : En} {R : PyData → En → Prop} (rel : Rel K dk H0 ρ σ H) (k : ∀ x ρ' v H', R x ρ' → Fz K H' v x → Rel K dk H0 ρ' σ H' → Ex H H' → Q v H')
    {a : Addr} (hσ : σ[i]? = some (some (.ref a))) {ds : List PyData} {ρ1 : En} {ws : List V} {H1 : Hp} (hds : match ρ1[i]? with | some (.own xs) => C xs ds fun z xs' => R z (ρ1.set i (.own xs')) | _ => False) (fz : FzAll K H1 ws ds) (rel1 : Rel K dk H0 ρ1 σ H1) (ex1 : Ex H H1) : r (.ref a) ws H1 Q := by
  split at hds
  · rename_i xs e
    obtain ⟨b, vs, h1, h2, h3, h4⟩ := rel1.sl i _ e
    rw [hσ] at h1
    cases h1
    refine br a xs vs ds ws H1 Q _ h2 h3 fz hds fun z xs' v vs' hr fv fvs => ?_
    obtain ⟨r2, ex2⟩ := rel1.put ⟨_, e, rfl, hσ⟩ (.lst vs') (.own xs') fun ex => ⟨a, vs', hσ, upd_same, fvs.mono ex, h4⟩
    exact k z _ v _ hr (fv.mono ex2) r2 (ex1.trans ex2)
  · exact hds.elim
theorem q_ownM {T id : String} {name : Str} {apos cpos : Pos} (i : Nat) {C : CM} (slot : Slot "list" name id) (hty : typeOf (.builtin id) = pure (.type "method_descriptor")) (hm : MtR X id r) (br : BrM X.K r C) (ha : QDs X (e :: es) t)
    (hN : X.N[i]? = some x := by rfl) (hv : Vis X.env.scope x := by first | exact Or.inl rfl | exact Or.inr (Or.inl rfl) | exact Or.inr (Or.inr rfl)) (hd : (x == ("__debug__" : Str)) = false := by decide) (hcd : (x == ("__classdict__" : Str)) = false := by decide)
    (hbase : attributeBase (.Name x p) name X.env (eval (.Name x p) X.env) = eval (.Name x p) X.env := by rfl)
    (hfew : ((backTo cpos (starEach (e :: es) X.env)).all (fun x => !x.1) && (backToKw cpos (keywordEach [] X.env)).all (fun x => x.1.isSome)
      && decide ((e :: es).length + ([] : List Keyword).length + (if ([] : List Keyword).isEmpty then 0 else 1) < 30)) = true := by rfl)
    (hline : (apos.endLine == cpos.line) = true := by rfl) (hs : starEach (e :: es) X.env = (false, eval e X.env) :: starEach es X.env := by rfl) (hplain : (backTo cpos (starEach es X.env)).any (·.1) = false := by rfl) :
    QE X (.Call (.Attribute (.Name x p) name apos) (e :: es) [] cpos) (tOwnM i C t) :=
  ⟨fun dk H0 => PE.imp (pe_bm PySem.F.plainAttrs_list slot hty hm (pe_var hN hv hd hcd) (ha.run dk H0) hbase hfew hline hs hplain) fun σ H Q ⟨ρ, R, rel, ⟨ho, h⟩, k⟩ => by
    obtain ⟨a, vs, h1, h2⟩ := own_at rel ho
    exact ⟨_, h1, .inl ⟨rfl, _, SqL.of h2⟩, ρ, _, rel, h, fun ds ρ1 ws H1 hds fz rel1 ex1 => up_ownM br rel k h1 hds fz rel1 ex1⟩⟩
theorem q_ownM0 {T id : String} {name : Str} {apos cpos : Pos} (i : Nat) {C : CM} (slot : Slot "list" name id) (hty : typeOf (.builtin id) = pure (.type "method_descriptor")) (hm : MtR X id r) (br : BrM X.K r C)
    (hN : X.N[i]? = some x := by rfl) (hv : Vis X.env.scope x := by first | exact Or.inl rfl | exact Or.inr (Or.inl rfl) | exact Or.inr (Or.inr rfl)) (hd : (x == ("__debug__" : Str)) = false := by decide) (hcd : (x == ("__classdict__" : Str)) = false := by decide)
    (hbase : attributeBase (.Name x p) name X.env (eval (.Name x p) X.env) = eval (.Name x p) X.env := by rfl) (hline : (apos.endLine == cpos.line) = true := by rfl) :
    QE X (.Call (.Attribute (.Name x p) name apos) [] [] cpos) (tOwnM i C dNil) :=
  ⟨fun dk H0 => PE.imp (pe_bm0 PySem.F.plainAttrs_list slot hty hm (pe_var hN hv hd hcd) hbase hline) fun σ H Q ⟨ρ, R, rel, ⟨ho, h⟩, k⟩ => by
    obtain ⟨a, vs, h1, h2⟩ := own_at rel ho
    exact ⟨_, h1, .inl ⟨rfl, _, SqL.of h2⟩, up_ownM br rel k h1 h .nil rel (Ex.refl H)⟩⟩
def appC : CM := fun xs ds R => match ds with
  | [y] => xs.length ≤ 1000000 ∧ R .none (xs ++ [y])
  | _ => False
theorem lt_line {n : Nat} (h : n ≤ 1000000) : n < sizeLine := by rw [sizeLine_eq]; omega
theorem br_app {K : PySem.W.Frag} : BrM K rAppend appC := by
  intro a xs vs ds ws H Q R h1 f fw c k
  unfold appC at c
  split at c
  · obtain ⟨w, rfl, fy⟩ := fz1 fw
    exact ⟨a, vs, w, rfl, rfl, h1, by rw [f.length]; exact lt_line c.1, k _ _ _ _ c.2 .non (f.append (.one fy))⟩
  · exact c.elim
theorem q_append {apos cpos : Pos} (i : Nat) (ha : QE X e te) (hN : X.N[i]? = some x := by rfl) (hv : Vis X.env.scope x := by first | exact Or.inl rfl | exact Or.inr (Or.inl rfl) | exact Or.inr (Or.inr rfl)) (hd : (x == ("__debug__" : Str)) = false := by decide) (hcd : (x == ("__classdict__" : Str)) = false := by decide)
    (hbase : attributeBase (.Name x p) "append" X.env (eval (.Name x p) X.env) = eval (.Name x p) X.env := by rfl)
    (hfew : ((backTo cpos (starEach [e] X.env)).all (fun x => !x.1) && (backToKw cpos (keywordEach [] X.env)).all (fun x => x.1.isSome)
      && decide (([e] : List Expr).length + ([] : List Keyword).length + (if ([] : List Keyword).isEmpty then 0 else 1) < 30)) = true := by rfl)
    (hline : (apos.endLine == cpos.line) = true := by rfl) (hs : starEach [e] X.env = (false, eval e X.env) :: starEach [] X.env := by rfl) :
    QE X (.Call (.Attribute (.Name x p) "append" apos) [e] [] cpos) (tOwnM i appC (dCons te dNil)) :=
  q_ownM (T := "list") i PySem.F.slot_list_append PySem.F.type_list_append mt_append br_app (qd_cons ha qd_nil hs) hN hv hd hcd hbase hfew hline hs rfl
def popC : CM := fun xs ds R => match ds with
  | [] => ∃ y, xs[xs.length - 1]? = some y ∧ R y xs.dropLast
  | [.int k] => 0 ≤ k ∧ k ≤ 1000000 ∧ ∃ y, xs[k.toNat]? = some y ∧ R y (xs.eraseIdx k.toNat)
  | _ => False
theorem dropLast_fz {K : PySem.W.Frag} {H : Hp} {vs : List V} {xs : List PyData} (f : FzAll K H vs xs) : FzAll K H vs.dropLast xs.dropLast := by
  rw [List.dropLast_eq_take, List.dropLast_eq_take, f.length]
  exact f.take _
theorem br_pop {K : PySem.W.Frag} : BrM K (fun x vs H Q => rPop x vs H Q ∨ rPopAt x vs H Q) popC := by
  intro a xs vs ds ws H Q R h1 f fw c k
  unfold popC at c
  split at c
  · cases fw
    obtain ⟨y, hy, c⟩ := c
    obtain ⟨v, hv, fv⟩ := f.at hy
    rw [← f.length] at hv
    exact .inl ⟨a, vs, v, rfl, rfl, h1, hv, k _ _ _ _ c fv (dropLast_fz f)⟩
  · rename_i j
    obtain ⟨w, rfl, fy⟩ := fz1 fw
    cases fy
    obtain ⟨h0, h2, y, hy, c⟩ := c
    obtain ⟨v, hv, fv⟩ := f.at hy
    have hlt := (List.getElem?_eq_some_iff.mp hv).1
    have sq : seqIndex? j vs.length = some j.toNat := by
      have : ixN vs.length j = some j.toNat := by
        unfold ixN
        rw [if_pos h0, if_pos (by omega)]
      exact (ixN_seq this).1
    exact .inr ⟨a, vs, j, j.toNat, v, rfl, rfl, h1, by omega, by omega, sq, hv, k _ _ _ _ c fv (f.erase _)⟩
  · exact c.elim
theorem q_pop1 {apos cpos : Pos} (i : Nat) (ha : QE X e te) (hN : X.N[i]? = some x := by rfl) (hv : Vis X.env.scope x := by first | exact Or.inl rfl | exact Or.inr (Or.inl rfl) | exact Or.inr (Or.inr rfl)) (hd : (x == ("__debug__" : Str)) = false := by decide) (hcd : (x == ("__classdict__" : Str)) = false := by decide)
    (hbase : attributeBase (.Name x p) "pop" X.env (eval (.Name x p) X.env) = eval (.Name x p) X.env := by rfl)
    (hfew : ((backTo cpos (starEach [e] X.env)).all (fun x => !x.1) && (backToKw cpos (keywordEach [] X.env)).all (fun x => x.1.isSome)
      && decide (([e] : List Expr).length + ([] : List Keyword).length + (if ([] : List Keyword).isEmpty then 0 else 1) < 30)) = true := by rfl)
    (hline : (apos.endLine == cpos.line) = true := by rfl) (hs : starEach [e] X.env = (false, eval e X.env) :: starEach [] X.env := by rfl) :
    QE X (.Call (.Attribute (.Name x p) "pop" apos) [e] [] cpos) (tOwnM i popC (dCons te dNil)) :=
  q_ownM (T := "list") i PySem.F.slot_list_pop PySem.F.type_list_pop (MtR.or (X := X) mt_pop mt_popAt) br_pop (qd_cons ha qd_nil hs) hN hv hd hcd hbase hfew hline hs rfl
theorem q_pop0 {apos cpos : Pos} (i : Nat) (hN : X.N[i]? = some x := by rfl) (hv : Vis X.env.scope x := by first | exact Or.inl rfl | exact Or.inr (Or.inl rfl) | exact Or.inr (Or.inr rfl)) (hd : (x == ("__debug__" : Str)) = false := by decide) (hcd : (x == ("__classdict__" : Str)) = false := by decide)
    (hbase : attributeBase (.Name x p) "pop" X.env (eval (.Name x p) X.env) = eval (.Name x p) X.env := by rfl) (hline : (apos.endLine == cpos.line) = true := by rfl) :
    QE X (.Call (.Attribute (.Name x p) "pop" apos) [] [] cpos) (tOwnM i popC dNil) :=
  q_ownM0 (T := "list") i PySem.F.slot_list_pop PySem.F.type_list_pop (MtR.or (X := X) mt_pop mt_popAt) br_pop hN hv hd hcd hbase hline
end
end Q
end P12
section P13
namespace Q
open PySem PySem.Spec PyProof.Rows L2 HT

/-! ### xs.extend(ys), ys frozen -/
theorem extend_tup (l : Addr) (items : Array Value) (n : Nat) (b : Addr) (dd : Option Addr) (sl : Array (Option Value)) (items2 : Array Value) (n2 : Nat) (hs0 : ¬(!items.isEmpty && Builtin.List.listTooLong (items.size + items2.size)) = true) (hs1 : items.size ≤ sizeLine) (hs2 : items.size + items2.size ≤ sizeLine + 1) :
    Meets (Builtin.«list.extend» ⟨[.ref l, .ref b], []⟩) (fun _ R s => s.heap.get? l = some { cls := .type "list", dict := none, data := .seq items n, slots := #[] } ∧ s.heap.get? b = some { cls := .type "tuple", dict := dd, data := .seq items2 n2, slots := sl } ∧ R (.ok (.ret Value.none)) { s with heap := s.heap.update l (Obj.mapSeq fun x => x ++ items2), toks := s.toks }) :=
  .of_wp fun prog w A R s h => by
    obtain ⟨hp, g, d, tk, os⟩ := s; obtain ⟨hl, hb, h⟩ := h; have f1 := AutoSeq1.idx_int; have f2 := AutoSeq1.sub_tuple_tuple; have f3 := AutoSeq1.sub_list_list; have f4 := AutoSeq1.sub_tuple_list; have f5 := AutoSeq1.sub_list_tuple;
    have hz' : (items ++ items2).size ≤ sizeLine + 1 := by rw [Array.size_append]; exact hs2
    wp_walk using (wpAny_updateSeq hl rfl (hz := hs1) (_hz' := hz')), AutoSeq1.wpAny_loadPart' hl, AutoSeq1.wpAny_loadPart' hb; exact ⟨_, rfl, h⟩
section
variable {X : Cx} {pos p : Pos} {e a b : Expr} {es : List Expr} {te ta tb : TQ} {t : TQL} {x : Str} {pins : List (Addr × Obj)} {σ : L2.St} {H : Hp} {s : Shared}
theorem frzL {a : Addr} {o : Obj} {vs : List V} (I : Inv X pins σ H s) (h : H a = some (.frz o (.lst vs))) : vs.length ≤ sizeLine ∧ ∃ its n, Vals vs its ∧ vs.length = its.length ∧ s.heap.get? a = some { cls := .type "list", data := .seq its.toArray n } := by
  obtain ⟨_, z, its, n, r, e⟩ := I.hok a _ h
  exact ⟨z, its, n, r, r.length, e⟩
def rExtF (K : PySem.W.Frag) : V → List V → Hp → VK → Prop := fun x vs H Q => ∃ l b xs zs, x = .ref l ∧ vs = [.ref b] ∧ H l = some (.lst xs) ∧ ((∃ o, H b = some (.frz o (.lst zs))) ∨ SqT K H b zs) ∧ xs.length + zs.length ≤ sizeLine ∧ Q .non (upd H l (.lst (xs ++ zs)))
theorem mt_extF : MtM X "list.extend" (rExtF X.K) := by
  intro pins s σ H x vs v us Q I rx rv h
  obtain ⟨l, b, xs, zs, rfl, rfl, hH, hB, hz, q⟩ := h
  cases rx
  obtain ⟨u, rfl, ru⟩ := rv.one
  cases ru
  obtain ⟨z, its, n, r, hl, e⟩ := I.lstM hH
  have fin : ∀ its2 : List Value, Vals zs its2 → EP X pins σ Q Value.none { s with heap := s.heap.update l (Obj.mapSeq fun x => x ++ its2.toArray), toks := s.toks } := fun its2 r2 => by
    refine ⟨.non, _, I.lset (its' := its ++ its2) hH e (by simp) (r.append r2) ?_, rfl, q⟩
    rw [List.length_append]
    omega
  rcases hB with ⟨o, hB⟩ | hB
  · obtain ⟨z2, its2, n2, r2, hl2, e2⟩ := frzL I hB
    have hsz : its.toArray.size + its2.toArray.size ≤ sizeLine := by rw [List.size_toArray, List.size_toArray]; omega
    have hlong : ¬ (!its.toArray.isEmpty && Builtin.List.listTooLong (its.toArray.size + its2.toArray.size)) = true := by
      rw [notLongL hsz, Bool.and_false]
      exact Bool.false_ne_true
    exact call_meets F.slot_list_extend ⟨_, e, rfl⟩ F.entry_list_extend (F.args_list_extend_2 _ _)
      (AutoSeq1.list_extend_list_list_0 l its.toArray n b its2.toArray n2 hlong (by rw [List.size_toArray]; omega) (by omega)) ⟨e, e2, fin its2 r2⟩
  · obtain ⟨its2, r2, ⟨ob, e2, hc, n2, hd⟩, _⟩ := I.tuple hB
    have hl2 := r2.length
    have hsz : its.toArray.size + its2.toArray.size ≤ sizeLine := by rw [List.size_toArray, List.size_toArray]; omega
    have hlong : ¬ (!its.toArray.isEmpty && Builtin.List.listTooLong (its.toArray.size + its2.toArray.size)) = true := by
      rw [notLongL hsz, Bool.and_false]
      exact Bool.false_ne_true
    obtain ⟨cls, dd, data, sls⟩ := ob
    simp only at hc hd
    subst hc hd
    exact call_meets F.slot_list_extend ⟨_, e, rfl⟩ F.entry_list_extend (F.args_list_extend_2 _ _)
      (extend_tup l its.toArray n b dd sls its2.toArray n2 hlong (by rw [List.size_toArray]; omega) (by omega)) ⟨e, e2, fin its2 r2⟩
def extC : CM := fun xs ds R => match ds with
  | [.list ys] => xs.length + ys.length ≤ 1000000 ∧ R .none (xs ++ ys)
  | [.tuple ys] => xs.length + ys.length ≤ 1000000 ∧ R .none (xs ++ ys)
  | _ => False
theorem br_ext {K : PySem.W.Frag} : BrM K (rExtF K) extC := by
  intro a xs vs ds ws H Q R h1 f fw c k
  unfold extC at c
  split at c
  · obtain ⟨w, rfl, fy⟩ := fz1 fw
    cases fy with
    | lst q t => exact ⟨a, _, vs, _, rfl, rfl, h1, .inl ⟨_, q⟩, by rw [f.length, t.length]; exact Nat.le_of_lt (lt_line c.1), k _ _ _ _ c.2 .non (f.append t)⟩
  · obtain ⟨w, rfl, fy⟩ := fz1 fw
    cases fy with
    | tup q t => exact ⟨a, _, vs, _, rfl, rfl, h1, .inr q, by rw [f.length, t.length]; exact Nat.le_of_lt (lt_line c.1), k _ _ _ _ c.2 .non (f.append t)⟩
  · exact c.elim
theorem q_extend {apos cpos : Pos} (i : Nat) (ha : QE X e te) (hN : X.N[i]? = some x := by rfl) (hv : Vis X.env.scope x := by first | exact Or.inl rfl | exact Or.inr (Or.inl rfl) | exact Or.inr (Or.inr rfl)) (hd : (x == ("__debug__" : Str)) = false := by decide) (hcd : (x == ("__classdict__" : Str)) = false := by decide)
    (hbase : attributeBase (.Name x p) "extend" X.env (eval (.Name x p) X.env) = eval (.Name x p) X.env := by rfl)
    (hfew : ((backTo cpos (starEach [e] X.env)).all (fun x => !x.1) && (backToKw cpos (keywordEach [] X.env)).all (fun x => x.1.isSome)
      && decide (([e] : List Expr).length + ([] : List Keyword).length + (if ([] : List Keyword).isEmpty then 0 else 1) < 30)) = true := by rfl)
    (hline : (apos.endLine == cpos.line) = true := by rfl) (hs : starEach [e] X.env = (false, eval e X.env) :: starEach [] X.env := by rfl) :
    QE X (.Call (.Attribute (.Name x p) "extend" apos) [e] [] cpos) (tOwnM i extC (dCons te dNil)) :=
  q_ownM (T := "list") i PySem.F.slot_list_extend PySem.F.type_list_extend mt_extF br_ext (qd_cons ha qd_nil hs) hN hv hd hcd hbase hfew hline hs rfl
/-! ### xs + ys, xs * n of frozen lists -/
def rCatF : R2 := fun x y H Q => ∃ l b ol ob xs zs, x = .ref l ∧ y = .ref b ∧ H l = some (.frz ol (.lst xs)) ∧ H b = some (.frz ob (.lst zs)) ∧ xs.length + zs.length ≤ sizeLine ∧ ∀ p, H p = none → Q (.ref p) (upd H p (.lst (xs ++ zs)))
theorem op_catF : OpR X (binaryOp .Add) rCatF := by
  intro pins s σ H x y v u Q I rx ry h
  obtain ⟨l, b, ol, ob, xs, zs, rfl, rfl, hH, hB, hz, q⟩ := h
  cases rx
  cases ry
  obtain ⟨z, its, n, r, hl, e⟩ := frzL I hH
  obtain ⟨z2, its2, n2, r2, hl2, e2⟩ := frzL I hB
  refine PySem.P.add_list e e2 ?_ (by rw [List.size_toArray, List.size_toArray]; omega)
  have ea : its.toArray ++ its2.toArray = (its ++ its2).toArray := by simp
  rw [ea]
  exact ⟨.ref _, _, I.lnew (t' := s.toks) (r.append r2) (by rw [List.length_append]; omega), rfl, q _ I.fresh⟩
/-- a + b: whole numbers, texts, tuples, lists -/
def addF : C2 := fun x y R => match x, y with
  | .int i, .int j => R (.int (i + j))
  | .str i, .str j => i.length + j.length ≤ sizeLine ∧ R (.str (i ++ j))
  | .tuple xs, .tuple ys => xs.length + ys.length ≤ 1000000 ∧ R (.tuple (xs ++ ys))
  | .list xs, .list ys => xs.length + ys.length ≤ 1000000 ∧ R (.list (xs ++ ys))
  | _, _ => False
theorem le_line {n : Nat} (h : n ≤ 1000000) : n ≤ sizeLine := Nat.le_of_lt (lt_line h)
theorem q_addF (ha : QE X a ta) (hb : QE X b tb) : QE X (.BinOp a .Add b pos) (t2 addF ta tb) := by
  refine ⟨fun dk H0 => PE.imp (pe_fz (pe_op (op_add.or (op_add_str.or (op_catA.or op_catF))) (ha.run dk H0) (hb.run dk H0))) fun σ H Q ⟨ρ, R, rel, h, k⟩ =>
    ⟨ρ, _, rel, h, fun x ρ1 v H1 hx fz rel1 ex1 => ⟨ρ1, _, rel1, hx, fun y ρ2 u H2 hy fz2 rel2 ex2 => ?_⟩⟩⟩
  have ex := ex1.trans ex2
  have h1 := fz.mono ex2
  have hy : addF x y fun z => R z ρ2 := hy
  cases h1 with
  | int i => cases fz2 <;> first | exact hy.elim | exact .inl ⟨_, _, rfl, rfl, .inl (k _ _ _ H2 hy (.int _) rel2 ex)⟩
  | str i => cases fz2 <;> first | exact hy.elim | exact .inr (.inl ⟨_, _, rfl, rfl, hy.1, .inl (k _ _ _ H2 hy.2 (.str _) rel2 ex)⟩)
  | @tup a0 xs ds q t =>
    cases fz2 with
    | @tup b0 ys es q2 t2 =>
      have l1 := t.length
      have l2 := t2.length
      refine .inr (.inr (.inl ⟨a0, b0, xs, ys, rfl, rfl, q, q2, by rw [l1, l2]; exact le_line hy.1, fun e => .inl ?_, fun _ e => .inl ?_, fun _ _ p hp => .inl ?_⟩))
      · subst e
        have e' : ds = [] := List.eq_nil_of_length_eq_zero (by rw [← l1]; rfl)
        subst e'
        exact k _ _ _ H2 hy.2 (.tup q2 t2) rel2 ex
      · subst e
        have e' : es = [] := List.eq_nil_of_length_eq_zero (by rw [← l2]; rfl)
        subst e'
        refine k _ _ _ H2 hy.2 ?_ rel2 ex
        rw [List.append_nil]
        exact .tup q t
      · have sm := same_upd (H := H2) (p := p) (o := .tup (xs ++ ys)) hp
        exact k _ _ _ _ hy.2 (.tup (.inl (.inl upd_same)) ((t.append t2).mono (ex_same sm))) (rel2.same sm) (ex.trans (ex_same sm))
    | _ => exact hy.elim
  | @lst a0 o0 xs ds q t =>
    cases fz2 with
    | @lst b0 o1 ys es q2 t2 =>
      refine .inr (.inr (.inr ⟨a0, b0, _, _, xs, ys, rfl, rfl, q, q2, by rw [t.length, t2.length]; exact le_line hy.1, fun p hp => .inr ⟨p, _, rfl, upd_same, fun od => ?_⟩⟩))
      obtain ⟨f, sm⟩ := frz_new hp (t.append t2) od
      exact k _ _ _ _ hy.2 f (rel2.same sm) (ex.trans (ex_same sm))
    | _ => exact hy.elim
  | _ => cases fz2 <;> exact hy.elim
def rRepF : R2 := fun x y H Q => ∃ l k o xs, x = .ref l ∧ y = .int k ∧ H l = some (.frz o (.lst xs)) ∧ -(2 ^ 63) ≤ k ∧ k < 2 ^ 63 ∧ xs.length * k.toNat ≤ sizeLine ∧
  ∀ p, H p = none → Q (.ref p) (upd H p (.lst (List.replicate k.toNat xs).flatten))
theorem op_repF : OpR X (binaryOp .Mult) rRepF := by
  intro pins s σ H x y v u Q I rx ry h
  obtain ⟨l, k, o, xs, rfl, rfl, hH, h1, h2, hz, q⟩ := h
  cases rx
  obtain ⟨t, rfl⟩ := ry
  obtain ⟨z, its, n, r, hl, e⟩ := frzL I hH
  have hlen : its.toArray.size * k.toNat ≤ sizeLine := by rw [List.size_toArray, ← hl]; exact hz
  have hcap : ¬ its.toArray.size * k.toNat > (2 ^ 63 - 1) / 8 := by
    have : (sizeLine : Nat) ≤ (2 ^ 63 - 1) / 8 := by decide
    omega
  have hfit : ¬ (!Builtin.List.listFitsIndex k) = true := by
    rw [fitsIndex_both h1 h2]
    exact Bool.false_ne_true
  have hlong : ¬ Builtin.List.listTooLong (its.toArray.size * k.toNat) = true := by
    rw [notLongL hlen]
    exact Bool.false_ne_true
  have hnew : List.foldl (fun x1 x2 => x1 ++ x2) #[] (List.replicate (if its.toArray.isEmpty = true then 0 else k.toNat) its.toArray) = (List.replicate k.toNat its).flatten.toArray := by
    have f0 : ∀ m : Nat, List.foldl (fun x1 x2 => x1 ++ x2) #[] (List.replicate m its.toArray) = (List.replicate m its).flatten.toArray := fun m => by
      have := foldl_rep its m []
      rw [List.nil_append] at this
      exact this
    rw [f0]
    cases its with
    | nil => simp
    | cons a r' => rw [if_neg (by simp)]
  refine wpAny_binaryOp_repeat_ref (T := "list") (U := "int") (by decide) ⟨_, e, rfl⟩ (fun s' => typeIs_int s' k t) noFill_list_mul F.fills_int_mul F.slot_int_rmul repeat_list F.slot_int_index.lookup
    (call_meets F.slot_int_rmul (typeIs_int s k t) F.entry_int_rmul (F.args_int_rmul_2 _ _) (int___rmul___int_list k t l its.toArray n)
      ⟨e, rfl, ⟨_, e, rfl⟩, call_meets F.slot_list_mul ⟨_, e, rfl⟩ F.entry_list_mul (F.args_list_mul_2 _ _) (AutoListH.list___mul___list_int_3 l its.toArray n k t hfit hcap hlong) ⟨e, ?_⟩⟩)
  rw [hnew]
  exact ⟨.ref _, _, I.lnew (t' := s.toks) (r.rep k.toNat) (by rw [PyProof.Rows.lm_len_rep_flat, Nat.mul_comm]; exact hz), rfl, q _ I.fresh⟩
/-- [x] * n: a new list -/
def repC (x y : PyData) (R : List PyData → Prop) : Prop := match x, y with
  | .list xs, .int n => n ≤ 100000 ∧ -100000 ≤ n ∧ xs.length ≤ 100 ∧ R (List.replicate n.toNat xs).flatten
  | _, _ => False
def tRepL (ta tb : TQ) : TQL := fun ρ R => ta ρ fun x ρ1 => tb ρ1 fun y ρ2 => repC x y fun xs => R xs ρ2
theorem ql_rep (ha : QE X a ta) (hb : QE X b tb) : QL X (.BinOp a .Mult b pos) (tRepL ta tb) := by
  refine ⟨fun dk H0 => PE.imp (pe_op op_repF (ha.run dk H0) (hb.run dk H0)) fun σ H Q ⟨ρ, R, rel, h, k⟩ =>
    ⟨ρ, _, rel, h, fun x ρ1 v H1 hx fz rel1 ex1 => ⟨ρ1, _, rel1, hx, fun y ρ2 u H2 hy fz2 rel2 ex2 => ?_⟩⟩⟩
  have hy : repC x y fun xs => R xs ρ2 := hy
  have h1 := fz.mono ex2
  cases h1 with
  | @lst a0 o0 xs ds q t =>
    cases fz2 with
    | int n =>
      obtain ⟨c1, c2, c3, c⟩ := hy
      refine ⟨_, n, _, _, rfl, rfl, q, by omega, by omega, ?_, fun p hp => ?_⟩
      · rw [t.length, sizeLine_eq]
        have : n.toNat ≤ 100000 := by omega
        calc _ ≤ 100 * 100000 := Nat.mul_le_mul c3 this
          _ ≤ _ := by decide
      · have sm := same_upd (H := H2) (p := p) (o := .lst (List.replicate n.toNat xs).flatten) hp
        exact k _ ρ2 p _ _ c upd_same ((t.rep _).mono (ex_same sm)) (rel2.fresh0 hp) (rel2.freshOwn hp) (rel2.same sm) (ex1.trans (ex2.trans (ex_same sm)))
    | _ => exact hy.elim
  | _ => cases fz2 <;> exact hy.elim
/-- x[k] = e of an own list -/
def ixOwn (s : Option Sl) (y : PyData) (R : List PyData → Int → Prop) : Prop := match s, y with
  | some (.own xs), .int k => R xs k
  | _, _ => False
def sSetIx (i : Nat) (te ti : TQ) : TQS := fun R ρ => setQ ρ[i]? = true ∧ te ρ fun x ρ1 => ti ρ1 fun y ρ2 => ixOwn ρ2[i]? y fun xs k => 0 ≤ k ∧ k < (xs.length : Int) ∧ R.nx (ρ2.set i (.own (xs.set k.toNat x)))
theorem qs_setIx {ti : TQ} {tpos spos : Pos} (i : Nat) (he : QE X e te) (hb : QE X b ti) (hN : X.N[i]? = some x := by rfl) (hv : Vis X.env.scope x := by first | exact Or.inl rfl | exact Or.inr (Or.inl rfl) | exact Or.inr (Or.inr rfl)) (hd : (x == ("__debug__" : Str)) = false := by decide) (hcd : (x == ("__classdict__" : Str)) = false := by decide)
    (hs : swapsWithSole [.Subscript (.Name x p) b tpos] e spos.line X.env = pure false := by rfl) (hw : swappedStores [.Subscript (.Name x p) b tpos] e X.env = pure none := by rfl)
    (h1 : (assignEach [.Subscript (.Name x p) b tpos] X.env).map (·.2) = [assign (.Subscript (.Name x p) b tpos) X.env] := by rfl)
    (ha : ∀ v, assign (.Subscript (.Name x p) b tpos) X.env v = (do
      let ov ← holding [v] (eval (.Name x p) X.env)
      let iv ← holding [v, ov] (eval b X.env)
      standAt tpos
      holding [v, ov, iv] (setItem ov iv v)
      release [v, ov, iv] []) := by intro _; rfl) :
    QS X (.Assign [.Subscript (.Name x p) b tpos] e spos) (sSetIx i te ti) := by
  refine ⟨fun dk H0 => PS.imp (ps_asg (he.run dk H0) (pg_sub (pe_var hN hv hd hcd) (hb.run dk H0) set_list ha) hs hw h1) fun D σ H ⟨ρ, R, rel, ⟨hset, h⟩, k⟩ => ⟨ρ, _, rel, h, fun y ρ1 v H1 hy fz rel1 ex1 => ?_⟩⟩
  obtain ⟨ov, eo⟩ := rel.isSet hset
  refine ⟨ov, eo, ρ1, _, rel1, hy, fun z ρ2 u H2 hz fz2 rel2 ex2 => ?_⟩
  have hz : ixOwn ρ2[i]? z fun xs k => 0 ≤ k ∧ k < (xs.length : Int) ∧ R.nx (ρ2.set i (.own (xs.set k.toNat y))) := hz
  cases e : ρ2[i]? with
  | none => rw [e] at hz; exact hz.elim
  | some s =>
    rw [e] at hz
    cases s with
    | own xs =>
      cases fz2 with
      | int kk =>
        obtain ⟨a, vs, g1, g2, g3, g4⟩ := rel2.sl i _ e
        rw [eo] at g1
        cases g1
        obtain ⟨c1, c2, c⟩ := hz
        refine ⟨a, vs, kk, kk.toNat, rfl, rfl, g2, ?_, ?_⟩
        · unfold ixN
          rw [if_pos c1, if_pos (by rw [g3.length]; exact c2)]
        · obtain ⟨r2, ex3⟩ := rel2.put ⟨_, e, rfl, eo⟩ (.lst (vs.set kk.toNat v)) (.own (xs.set kk.toNat y)) fun ex => ⟨a, _, eo, upd_same, ((g3.set (fz.mono ex2) _).mono ex), g4⟩
          exact k.nx _ σ _ c r2 (ex1.trans (ex2.trans ex3))
      | _ => exact hz.elim
    | _ => cases fz2 <;> exact hz.elim
end
end Q
end P13
section P14
namespace Q
open PySem PySem.Spec PyProof.Rows L2 HT

/-! ### own dicts -/
def valD (kvs : List (Key × PyData)) (k : Key) : Option PyData := (kvs.find? fun kv => decide (kv.1 = k)).map (·.2)
def putD (kvs : List (Key × PyData)) (k : Key) (v : PyData) : List (Key × PyData) :=
  if (kvs.any fun kv => decide (kv.1 = k)) = true then kvs.map (fun kv => if kv.1 = k then (kv.1, v) else kv) else kvs ++ [(k, v)]
def keyD : PyData → Option Key
  | .int i => some (.inl i)
  | .str x => some (.inr x)
  | _ => none
section
variable {K : PySem.W.Frag} {H : Hp}
theorem FzKV.length : ∀ {ws : List (Key × V)} {kvs : List (Key × PyData)}, FzKV K H ws kvs → ws.length = kvs.length
  | _, _, .nil => rfl
  | _, _, .cons _ t => by rw [List.length_cons, List.length_cons, FzKV.length t]
theorem FzKV.val {k : Key} : ∀ {ws : List (Key × V)} {kvs : List (Key × PyData)}, FzKV K H ws kvs → (valV ws k = none ∧ valD kvs k = none) ∨ ∃ v x, valV ws k = some v ∧ valD kvs k = some x ∧ Fz K H v x
  | _, _, .nil => .inl ⟨rfl, rfl⟩
  | _, _, .cons (k := k') (v := v) (d := d) h t => by
    by_cases e : k' = k
    · refine .inr ⟨v, d, ?_, ?_, h⟩
      · simp [valV, List.find?_cons, e]
      · simp [valD, List.find?_cons, e]
    · rcases FzKV.val (k := k) t with ⟨q1, q2⟩ | ⟨w, y, q1, q2, q3⟩
      · refine .inl ⟨?_, ?_⟩
        · rw [← q1]; simp [valV, List.find?_cons, e]
        · rw [← q2]; simp [valD, List.find?_cons, e]
      · refine .inr ⟨w, y, ?_, ?_, q3⟩
        · rw [← q1]; simp [valV, List.find?_cons, e]
        · rw [← q2]; simp [valD, List.find?_cons, e]
theorem FzKV.any {k : Key} : ∀ {ws : List (Key × V)} {kvs : List (Key × PyData)}, FzKV K H ws kvs → (ws.any fun kv => decide (kv.1 = k)) = (kvs.any fun kv => decide (kv.1 = k))
  | _, _, .nil => rfl
  | _, _, .cons h t => by rw [List.any_cons, List.any_cons, FzKV.any t]
theorem FzKV.append : ∀ {ws ws' : List (Key × V)} {kvs kvs' : List (Key × PyData)}, FzKV K H ws kvs → FzKV K H ws' kvs' → FzKV K H (ws ++ ws') (kvs ++ kvs')
  | _, _, _, _, .nil, s => s
  | _, _, _, _, .cons h t, s => .cons h (FzKV.append t s)
theorem FzKV.upd {k : Key} {v : V} {x : PyData} (f : Fz K H v x) : ∀ {ws : List (Key × V)} {kvs : List (Key × PyData)}, FzKV K H ws kvs → FzKV K H (ws.map fun kv => if kv.1 = k then (kv.1, v) else kv) (kvs.map fun kv => if kv.1 = k then (kv.1, x) else kv)
  | _, _, .nil => .nil
  | _, _, .cons (k := k') h t => by
    rw [List.map_cons, List.map_cons]
    by_cases e : k' = k
    · simp only [e, if_true]
      exact .cons f (FzKV.upd f t)
    · simp only [e, if_false]
      exact .cons h (FzKV.upd f t)
theorem FzKV.put {k : Key} {v : V} {x : PyData} (f : Fz K H v x) {ws : List (Key × V)} {kvs : List (Key × PyData)} (h : FzKV K H ws kvs) : FzKV K H (putK ws k v) (putD kvs k x) := by
  unfold putK putD
  rw [h.any]
  split
  · exact h.upd f
  · exact h.append (.cons f .nil)
end
def dOwn (s : Option Sl) (y : PyData) (R : List (Key × PyData) → Key → Prop) : Prop := match s, keyD y with
  | some (.owd kvs), some k => R kvs k
  | _, _ => False
theorem dOwn_at {K : PySem.W.Frag} {dk : Dk} {H0 H : Hp} {ρ : En} {σ : L2.St} {i : Nat} {y : PyData} {u : V} {R : List (Key × PyData) → Key → Prop} (rel : Rel K dk H0 ρ σ H) (f : Fz K H u y) (h : dOwn ρ[i]? y R) :
    ∃ a ws kvs k, ρ[i]? = some (.owd kvs) ∧ σ[i]? = some (some (.ref a)) ∧ H a = some (.dK ws) ∧ FzKV K H ws kvs ∧ H0 a = none ∧ u = kV k ∧ R kvs k := by
  unfold dOwn at h
  cases e : ρ[i]? with
  | none => rw [e] at h; exact h.elim
  | some s =>
    rw [e] at h
    cases s with
    | owd kvs =>
      obtain ⟨a, ws, h1, h2, h3, h4⟩ := rel.sl i _ e
      cases f with
      | int j => exact ⟨a, ws, kvs, .inl j, rfl, h1, h2, h3, h4, rfl, h⟩
      | str j => exact ⟨a, ws, kvs, .inr j, rfl, h1, h2, h3, h4, rfl, h⟩
      | _ => exact h.elim
    | _ => exact h.elim
section
variable {X : Cx} {pos p : Pos} {e a b : Expr} {es : List Expr} {te ta tb tk : TQ} {t : TQP} {x : Str}
def pDn (t : TQP) : TQP := fun ρ R => t ρ fun ss ρ2 => R (.owd [] :: ss) ρ2
theorem qp_dn {dpos : Pos} (ht : QPs X es t) (hs : starEach (.Dict [] [] dpos :: es) X.env = (false, eval (.Dict [] [] dpos) X.env) :: starEach es X.env := by rfl) : QPs X (.Dict [] [] dpos :: es) (pDn t) := by
  refine ⟨fun dk H0 => ?_⟩
  have ht' : PA X es (fun σ H Q => ∃ H1, upP X.K dk H1 t σ H Q) := ⟨fun pos pins s σ H Q I ⟨H1, q⟩ => (ht.run dk H1).run pos pins s σ H Q I q⟩
  refine PA.imp (pa_cons pe_dnewK ht' hs) fun σ H Q ⟨ρ, R, rel0, h, k⟩ => fun p hp => ?_
  have sm := same_upd (o := .dK []) hp
  have rel := rel0.same sm
  have n0 := rel0.fresh0 hp
  have no := rel0.freshOwn hp
  have e1 : upd H p (.dK []) p = some (.dK []) := upd_same
  refine ⟨reb ρ σ (upd H p (.dK [])), ρ, _, rel.reb, h, fun ss ρ2 ws H2 hxs ps rel2 ex2 => ?_⟩
  have dn1 : p ≠ dk.1 := fun z => rel.dk1 (by rw [← z]; exact n0)
  have dn2 : p ≠ dk.2 := fun z => rel.dk2 (by rw [← z]; exact n0)
  obtain ⟨e2, no2⟩ := rel.flight rel2 e1 no dn1 dn2
  refine k _ ρ2 (.ref p :: ws) H2 hxs (.cons ⟨p, [], rfl, e2, .nil, n0⟩ (fun a _ z => ?_) (ps.back rel)) (rel.back rel2) ((ex_same sm).trans ex2)
  cases z
  refine ⟨no2, fun j s' h1 h2 => ?_⟩
  cases ho : s'.isOwn with
  | false => rfl
  | true =>
    have := ps.none0 j s' p h1 h2 ho
    rw [reb_not no, e1] at this
    cases this
def sDn (i : Nat) : TQS := fun R ρ => R.nx (ρ.set i (.owd []))
theorem qs_dn (i : Nat) {x : Str} {pos' dpos : Pos} (hN : X.N.Nodup) (hi : X.N[i]? = some x := by rfl) (hx : Loc X.env.scope x := by first | exact Or.inl rfl | exact Or.inr rfl) (hs : swapsWith (.Dict [] [] dpos) (some (.Name x pos')) pos.line X.env = pure false := by rfl)
    (hf : X.fn x = true ∨ X.env.scope.names.lookup x = some .local := by first | exact .inl rfl | exact .inr rfl) : QS X (.Assign [.Name x pos'] (.Dict [] [] dpos) pos) (sDn i) :=
  ⟨fun dk H0 => PS.imp (ps_set hN hi hx pe_dnewK hs hf) fun D σ H ⟨ρ, R, rel0, h, k⟩ => fun p hp => by
    have sm := same_upd (o := .dK []) hp
    exact k.nx _ _ _ h ((rel0.same sm).set ⟨p, [], rfl, upd_same, .nil, rel0.fresh0 hp⟩ fun a _ z => by cases z; exact rel0.freshOwn hp) (ex_same sm)⟩
def sSetD (i : Nat) (te tk : TQ) : TQS := fun R ρ => setQ ρ[i]? = true ∧ te ρ fun x ρ1 => tk ρ1 fun y ρ2 => dOwn ρ2[i]? y fun kvs κ => kvs.length ≤ 1000000 ∧ R.nx (ρ2.set i (.owd (putD kvs κ x)))
theorem qs_setD {tpos spos : Pos} (i : Nat) (hu : X.A.units + 64 < cLine) (he : QE X e te) (hb : QE X b tk) (hN : X.N[i]? = some x := by rfl) (hv : Vis X.env.scope x := by first | exact Or.inl rfl | exact Or.inr (Or.inl rfl) | exact Or.inr (Or.inr rfl)) (hd : (x == ("__debug__" : Str)) = false := by decide) (hcd : (x == ("__classdict__" : Str)) = false := by decide)
    (hs : swapsWith e (some (.Subscript (.Name x p) b tpos)) spos.line X.env = pure false := by rfl) : QS X (.Assign [.Subscript (.Name x p) b tpos] e spos) (sSetD i te tk) := by
  refine ⟨fun dk H0 => PS.imp (ps_dput (by omega) (pe_var hN hv hd hcd) (hb.run dk H0) (he.run dk H0) hs) fun D σ H ⟨ρ, R, rel, ⟨hset, h⟩, k⟩ => ⟨ρ, _, rel, h, fun y ρ1 v H1 hy fz rel1 ex1 => ?_⟩⟩
  obtain ⟨ov, eo⟩ := rel.isSet hset
  refine ⟨ov, eo, ρ1, _, rel1, hy, fun z ρ2 u H2 hz fz2 rel2 ex2 => ?_⟩
  obtain ⟨a, ws, kvs, κ, e, g1, g2, g3, g4, rfl, c1, c⟩ := dOwn_at rel2 fz2 hz
  rw [eo] at g1
  cases g1
  obtain ⟨r2, ex3⟩ := rel2.put ⟨_, e, rfl, eo⟩ (.dK (putK ws κ v)) (.owd (putD kvs κ y)) fun ex => ⟨a, _, eo, upd_same, (g3.put (fz.mono ex2)).mono ex, g4⟩
  exact ⟨a, _, rfl, DPut.k g2 (by rw [g3.length]; exact lt_line c1), k.nx _ σ _ c r2 (ex1.trans (ex2.trans ex3))⟩
def tDgetN (i : Nat) (tk : TQ) : TQ := fun ρ R => setQ ρ[i]? = true ∧ tk ρ fun y ρ1 => dOwn ρ1[i]? y fun kvs κ => ∃ x, valD kvs κ = some x ∧ R x ρ1
theorem DGet.of {H : Hp} {a : Addr} {ws : List (Key × V)} {k : Key} {o : Option V} (h : H a = some (.dK ws)) (e : valV ws k = o) : DGet H a (kV k) o := by rw [← e]; exact DGet.k h
theorem q_dgetN (i : Nat) (hu : X.A.units + 64 < cLine) (hb : QE X b tk) (hN : X.N[i]? = some x := by rfl) (hv : Vis X.env.scope x := by first | exact Or.inl rfl | exact Or.inr (Or.inl rfl) | exact Or.inr (Or.inr rfl)) (hd : (x == ("__debug__" : Str)) = false := by decide) (hcd : (x == ("__classdict__" : Str)) = false := by decide)
    (hs : NoSl b := by intro _ _; rfl) : QE X (.Subscript (.Name x p) b pos) (tDgetN i tk) :=
  ⟨fun dk H0 => PE.imp (pe_dget (by omega) (pe_var hN hv hd hcd) (hb.run dk H0) hs) fun σ H Q ⟨ρ, R, rel, ⟨hset, h⟩, k⟩ => by
    obtain ⟨ov, eo⟩ := rel.isSet hset
    refine ⟨ov, eo, ρ, _, rel, h, fun z ρ2 u H2 hz fz2 rel2 ex2 => ?_⟩
    obtain ⟨a, ws, kvs, κ, e, g1, g2, g3, g4, rfl, y, c1, c⟩ := dOwn_at rel2 fz2 hz
    rw [eo] at g1
    cases g1
    rcases g3.val (k := κ) with ⟨q1, q2⟩ | ⟨v, y', q1, q2, q3⟩
    · rw [q2] at c1; cases c1
    · rw [q2] at c1; cases c1
      exact ⟨a, v, rfl, DGet.of g2 q1, k _ ρ2 v H2 c q3 rel2 ex2⟩⟩
def tDinN (i : Nat) (neg : Bool) (tk : TQ) : TQ := fun ρ R => setQ ρ[i]? = true ∧ tk ρ fun y ρ1 => dOwn ρ1[i]? y fun kvs κ => R (.bool (if neg then !(valD kvs κ).isSome else (valD kvs κ).isSome)) ρ1
theorem din_read {K : PySem.W.Frag} {dk : Dk} {H0 : Hp} {i : Nat} {neg : Bool} {σ : L2.St} {H : Hp} {Q : VK} (h : up K dk H0 (tDinN i neg tk) σ H Q) : up K dk H0 tk σ H fun y H1 => ∃ v, σ[i]? = some (some v) ∧ ∃ a o, v = .ref a ∧ DGet H1 a y o ∧ Q (.bl (if neg then !o.isSome else o.isSome)) H1 := by
  obtain ⟨ρ, R, rel, ⟨hset, h⟩, k⟩ := h
  refine ⟨ρ, _, rel, h, fun z ρ2 u H2 hz fz2 rel2 ex2 => ?_⟩
  obtain ⟨a, ws, kvs, κ, e, g1, g2, g3, g4, rfl, c⟩ := dOwn_at rel2 fz2 hz
  refine ⟨_, g1, a, _, rfl, DGet.of g2 rfl, ?_⟩
  have eq : (valV ws κ).isSome = (valD kvs κ).isSome := by
    rcases g3.val (k := κ) with ⟨q1, q2⟩ | ⟨v, y', q1, q2, q3⟩
    · rw [q1, q2]; rfl
    · rw [q1, q2]
      rfl
  rw [eq]
  exact k _ ρ2 _ H2 c (.bl _) rel2 ex2
theorem q_dinN (i : Nat) (hu : X.A.units + 64 < cLine) (hb : QE X b tk) (hN : X.N[i]? = some x := by rfl) (hv : Vis X.env.scope x := by first | exact Or.inl rfl | exact Or.inr (Or.inl rfl) | exact Or.inr (Or.inr rfl)) (hd : (x == ("__debug__" : Str)) = false := by decide) (hcd : (x == ("__classdict__" : Str)) = false := by decide)
    (hm : behindInMarks .In (.Name x p) = false := by rfl) : QE X (.Compare b [.In] [.Name x p] pos) (tDinN i false tk) :=
  ⟨fun dk H0 => PE.imp (pe_cmp (pc_din (by omega) (hb.run dk H0) (pe_var hN hv hd hcd)) hm) fun σ H Q h => din_read h⟩
theorem q_dninN (i : Nat) (hu : X.A.units + 64 < cLine) (hb : QE X b tk) (hN : X.N[i]? = some x := by rfl) (hv : Vis X.env.scope x := by first | exact Or.inl rfl | exact Or.inr (Or.inl rfl) | exact Or.inr (Or.inr rfl)) (hd : (x == ("__debug__" : Str)) = false := by decide) (hcd : (x == ("__classdict__" : Str)) = false := by decide)
    (hm : behindInMarks .NotIn (.Name x p) = false := by rfl) : QE X (.Compare b [.NotIn] [.Name x p] pos) (tDinN i true tk) :=
  ⟨fun dk H0 => PE.imp (pe_cmp (pc_dnotin (by omega) (hb.run dk H0) (pe_var hN hv hd hcd)) hm) fun σ H Q h => din_read h⟩
end
/-! ### one kind is not another: len(set(x)) of a tuple of whole numbers -/
end Q
end P14
section P15
namespace Q
open PySem PySem.Spec PyProof.Rows L2 HT

/-! ### len(set(x)) of a tuple of whole numbers -/
def lenSetT : CA := fun ds R => match ds with
  | [.tuple xs] => ∃ ns : List Int, xs = ns.map .int ∧ ns.length ≤ 4000 ∧ ∀ ks : List Int, ks.Nodup → (∀ k, k ∈ ks ↔ k ∈ ns) → R (.int (ks.length : Nat))
  | _ => False
section
variable {X : Cx} {pos p : Pos} {e a b : Expr} {es : List Expr} {te ta tb : TQ} {x : Str}
theorem ints_vals : ∀ {ns : List Int} {us : List Value}, Vals (ns.map V.int) us → IntsAre us ns
  | [], _, h => by cases h; exact .nil
  | n :: ns, _, h => by
    cases h with
    | cons r t =>
      obtain ⟨k, rfl⟩ := r
      exact .cons n k (ints_vals t)
theorem pe_lenSetT {a : Expr} {ta : TE} {p p2 q pos : Pos} (hg : Gl X "len") (hm : X.mg "len" = none) (hg2 : Gl X "set") (hm2 : X.mg "set" = none) (ha : PE X a ta) (hc : X.calm = true := by rfl)
    (na : starEach [a] X.env = (false, eval a X.env) :: starEach [] X.env := by rfl) : PE X (.Call (.Name "len" p) [.Call (.Name "set" p2) [a] [] q] [] pos)
      (fun σ H Q => ta σ H fun x H1 => ∃ (l : Addr) (ns : List Int), x = .ref l ∧ SqT X.K H1 l (ns.map V.int) ∧ ns.length ≤ 4000 ∧ ∀ ks : List Int, ks.Nodup → (∀ k, k ∈ ks ↔ k ∈ ns) → Q (.int (ks.length : Nat)) H1) := by
  refine ⟨fun pins s σ H Q I h => ?_⟩
  refine Call_ (ld_blt I hg hm boot_len ?_)
  refine PyProof.Rows.callWith_builtin1 (PyProof.Rows.args_cons ?_ rfl) rfl rfl
  refine Call_ (ld_blt I hg2 hm2 PyProof.Rows.boot_set ?_)
  refine PyProof.Rows.callWith_type1 (PyProof.Rows.args_cons (thn (ha.run pins s σ H _ I h) fun v s1 ⟨x, H1, I1, r1, q1⟩ => PyProof.Rows.args_nil ?_) na) na rfl
  obtain ⟨l, ns, rfl, hq, hl, q1⟩ := q1
  cases r1
  obtain ⟨its, r, pl, hz⟩ := I1.tuple hq
  have hlen : its.toArray.size = ns.length := by rw [List.size_toArray, ← r.length, List.length_map]
  have hi : IntsAre its.toArray.toList ns := by simpa using ints_vals r
  refine call_set_tupI ns (I1.ok.hd hc) (show s1.heap.IsTuple l its.toArray from pl) hi (by unfold scanBound; omega) fun h' tk c R1 hcn k => ?_
  refine PyProof.Rows.args_nil ?_
  obtain ⟨o, es, ep, t, ho, hex, hdt, g, nd, hm2, hb, hf, hn, hr, hl2⟩ := R1
  have I2 : Inv X pins σ H1 { s1 with heap := h', toks := tk } := I1.kept fun b o e => k b o e
  have hkl : (es.toList.map keyOf).length = c := by rw [List.length_map, Array.length_toList, hn]
  have q2 := q1 (es.toList.map keyOf) nd fun j => by
    rw [← hm2 j]
    simp
  rw [hkl] at q2
  exact call_len_set ho hex hdt hf (by rw [hn]; omega) ⟨.int c, H1, I2.tok _, ⟨_, by rw [hn]⟩, q2⟩
theorem q_lenSet {p2 q : Pos} (hg : Gl X "len") (hm : X.mg "len" = none) (hg2 : Gl X "set") (hm2 : X.mg "set" = none) (ha : QE X a ta) (hc : X.calm = true := by rfl)
    (na : starEach [a] X.env = (false, eval a X.env) :: starEach [] X.env := by rfl) : QE X (.Call (.Name "len" p) [.Call (.Name "set" p2) [a] [] q] [] pos) (tCA lenSetT (dCons ta dNil)) :=
  ⟨fun dk H0 => PE.imp (pe_lenSetT hg hm hg2 hm2 (ha.run dk H0) hc na) fun σ H Q ⟨ρ, R, rel, h, k⟩ => ⟨ρ, _, rel, h, fun x ρ1 v H1 hx fz rel1 ex1 => by
    have hx : lenSetT [x] fun z => R z ρ1 := hx
    cases fz with
    | tup q t =>
      obtain ⟨ns, rfl, hl, hr⟩ := hx
      have e := t.ints
      subst e
      exact ⟨_, ns, rfl, q, hl, fun ks h1 h2 => k _ ρ1 _ _ (hr ks h1 h2) (.int _) rel1 ex1⟩
    | _ => exact hx.elim⟩⟩
/-- a whole number of the module -/
theorem q_gint {n : Int} (hg : Gl X x) (hm : ∃ z, X.mg x = some (.int n z)) (hd : (x == ("__debug__" : Str)) = false := by decide) : QE X (.Name x pos) (tK (.int n)) := by
  obtain ⟨z, e⟩ := hm
  exact q_glob (v := .int n) hg e ⟨z, rfl⟩ (fun _ => .int n) hd
def tTupRg (te : TQ) : TQ := fun ρ R => rg1 te ρ fun xs ρ1 => R (.tuple xs) ρ1
end
/-! ### what the top leaves of a def -/
structure At (K : PySem.W.Frag) (mg : Str → Option Value) (x : Str) (ps : List Str) (st : Stmt) (f : Addr) (fd : FuncData) : Prop where
  F : Fun K x x st f fd
  m : mg x = some (.ref f)
  b : Binds K fd ps []
theorem kw_of {K : PySem.W.Frag} {x qual : Str} {st : Stmt} {f : Addr} {fd : FuncData} {ps ks : List Str} {n : Nat} {ix : List Nat} (F : Fun K x qual st f fd)
    (h : ∀ (kV doc pm : Value) (an : Option Addr) (cdv ct : Value) (us ws : List Value), us.length = n → ws.length = ks.length → bindArgs (PySem.W.fnOf x qual (defArgs st) (defBody st) (defScope st) .none kV doc pm an cdv ct) ⟨us, ks.zip ws⟩ = pure (ps.zip (pick ix (us ++ ws)))) :
    KwB K fd ps ks n ix := by
  obtain ⟨oc, od, kV, doc, pm, an, cdv, ct, osl, rfl, lk, hcd⟩ := F.ex
  exact fun s us ws _ h1 h2 => .of_eq (h kV doc pm an cdv ct us ws h1 h2)
/-! ### a block in a block -/
theorem lk_rel {env : PySem.Env} : ∀ {names : List (Str × NameKind)} {x : Str}, (names.lookup x = some .cell ∨ names.lookup x = some .free) →
    ((names.map fun (n, k) => if (k == NameKind.free && env.scope.kind == .function && env.kindOf n == some .cell) then (n, NameKind.cell) else (n, k)).lookup x = some .cell ∨
     (names.map fun (n, k) => if (k == NameKind.free && env.scope.kind == .function && env.kindOf n == some .cell) then (n, NameKind.cell) else (n, k)).lookup x = some .free)
  | [], x, h => by simp at h
  | (n, k) :: r, x, h => by
    have ih := @lk_rel env r x
    show List.lookup x ((if (k == NameKind.free && env.scope.kind == .function && env.kindOf n == some .cell) = true then (n, NameKind.cell) else (n, k)) :: _) = _ ∨ List.lookup x ((if (k == NameKind.free && env.scope.kind == .function && env.kindOf n == some .cell) = true then (n, NameKind.cell) else (n, k)) :: _) = _
    rw [List.lookup_cons] at h
    split
    · rw [List.lookup_cons]
      split
      · exact .inl rfl
      · rename_i e
        rw [e] at h
        exact ih h
    · rw [List.lookup_cons]
      split
      · rename_i e
        rw [e] at h
        exact h
      · rename_i e
        rw [e] at h
        exact ih h
theorem blkIn {X : Cx} {s : Shared} {H : Hp} {C : Addr} {cl : List (Str × Addr)} {fp : List Addr} {N : List Str} {scope1 scope2 : Scope} {own : List (Str × Nat)} (h : blkC N scope1 scope2 own = true) (hN : X.N = N := by rfl) :
    BlkOk (X.blk s H scope1 (compEnvC scope1 cl C X.env) fp).N (X.blk s H scope1 (compEnvC scope1 cl C X.env) fp).env.scope scope2 own := by
  have b := blkOk_by h
  subst hN
  refine ⟨b.kind, b.uniq, b.ix, fun y hy e => ?_, b.own⟩
  exact lk_rel (b.free y hy e)
end Q
end P15
section P16
namespace Q
open PySem PySem.Spec PyProof.Rows L2 HT
/-! ### readings: comprehensions -/
inductive F2 {α β : Type} (P : α → β → Prop) : List α → List β → Prop
  | nil : F2 P [] []
  | cons {a : α} {b : β} {as : List α} {bs : List β} : P a b → F2 P as bs → F2 P (a :: as) (b :: bs)
theorem comp_rel {g : TGQ} {tt : TQB} {te : TQ} {vs : List Nat} {ρ0 : En} {R : List PyData → En → Prop} (P : PyData → Option PyData → Prop) : ∀ (ds acc : List PyData),
    (∀ x, x ∈ ds → ∀ (Rk : PyData → En → Prop) (Rf : En → Prop), (∀ y ρ4, P x (some y) → wipeQ ρ4 vs = ρ0 → Rk y ρ4) → (∀ ρ3, P x none → wipeQ ρ3 vs = ρ0 → Rf ρ3) → g x ρ0 fun ρ2 => tt ρ2 fun b ρ3 => if b = true then te ρ3 Rk else Rf ρ3) →
    (∀ outs, F2 P ds outs → R (acc ++ outs.filterMap id) ρ0) → compQ g tt te vs ds acc ρ0 R
  | [], acc, _, hR => by
    have := hR [] .nil
    simpa [compQ] using this
  | x :: ds, acc, h, hR => by
    unfold compQ
    refine h x (by simp) _ _ (fun y ρ4 hp hw => ?_) (fun ρ3 hp hw => ?_)
    · show compQ g tt te vs ds (acc ++ [y]) (wipeQ ρ4 vs) R
      rw [hw]
      refine comp_rel P ds (acc ++ [y]) (fun z hz => h z (by simp [hz])) fun outs ho => ?_
      have := hR (some y :: outs) (.cons hp ho)
      simpa using this
    · show compQ g tt te vs ds acc (wipeQ ρ3 vs) R
      rw [hw]
      refine comp_rel P ds acc (fun z hz => h z (by simp [hz])) fun outs ho => ?_
      have := hR (none :: outs) (.cons hp ho)
      simpa using this
/-- every item gives f of it -/
theorem comp_map {g : TGQ} {te : TQ} {vs : List Nat} {ρ0 : En} {R : List PyData → En → Prop} (f : PyData → PyData) {ds : List PyData}
    (h : ∀ x, x ∈ ds → ∀ Rk : PyData → En → Prop, (∀ ρ4, wipeQ ρ4 vs = ρ0 → Rk (f x) ρ4) → g x ρ0 fun ρ2 => te ρ2 Rk) (hR : R (ds.map f) ρ0) : compQ g tY te vs ds [] ρ0 R := by
  refine comp_rel (fun x o => o = some (f x)) ds [] (fun x hx Rk Rf hk _ => ?_) fun outs ho => ?_
  · simp only [tY, if_true]
    exact h x hx Rk fun ρ4 hw => hk _ ρ4 rfl hw
  · have : outs.filterMap id = ds.map f := by
      clear hR h
      induction ho with
      | nil => rfl
      | cons hp _ ih => subst hp; simp [ih]
    rw [this]
    exact hR
/-- every item gives something of which P holds -/
theorem comp_any {g : TGQ} {te : TQ} {vs : List Nat} {ρ0 : En} {R : List PyData → En → Prop} (P : PyData → PyData → Prop) {ds : List PyData}
    (h : ∀ x, x ∈ ds → ∀ Rk : PyData → En → Prop, (∀ y ρ4, P x y → wipeQ ρ4 vs = ρ0 → Rk y ρ4) → g x ρ0 fun ρ2 => te ρ2 Rk) (hR : ∀ outs, F2 P ds outs → R outs ρ0) : compQ g tY te vs ds [] ρ0 R := by
  refine comp_rel (fun x o => ∃ y, o = some y ∧ P x y) ds [] (fun x hx Rk Rf hk _ => ?_) fun outs ho => ?_
  · simp only [tY, if_true]
    exact h x hx Rk fun y ρ4 hp hw => hk y ρ4 ⟨y, rfl, hp⟩ hw
  · have : F2 P ds (outs.filterMap id) := by
      clear hR h
      induction ho with
      | nil => exact .nil
      | cons hp _ ih => obtain ⟨y, rfl, hp⟩ := hp; exact .cons hp ih
    exact hR _ this
/-- the items of which p holds, each f of it -/
theorem comp_if {g : TGQ} {tt : TQB} {te : TQ} {vs : List Nat} {ρ0 : En} {R : List PyData → En → Prop} (p : PyData → Bool) (f : PyData → PyData) {ds : List PyData}
    (h : ∀ x, x ∈ ds → ∀ (Rk : PyData → En → Prop) (Rf : En → Prop), (∀ ρ4, p x = true → wipeQ ρ4 vs = ρ0 → Rk (f x) ρ4) → (∀ ρ3, p x = false → wipeQ ρ3 vs = ρ0 → Rf ρ3) → g x ρ0 fun ρ2 => tt ρ2 fun b ρ3 => if b = true then te ρ3 Rk else Rf ρ3)
    (hR : R ((ds.filter p).map f) ρ0) : compQ g tt te vs ds [] ρ0 R := by
  refine comp_rel (fun x o => o = if p x = true then some (f x) else none) ds [] (fun x hx Rk Rf hk hf => ?_) fun outs ho => ?_
  · refine h x hx Rk Rf (fun ρ4 e hw => hk _ ρ4 (by rw [e]; rfl) hw) fun ρ3 e hw => hf ρ3 (by rw [e]; rfl) hw
  · have : outs.filterMap id = (ds.filter p).map f := by
      clear hR h
      induction ho with
      | nil => rfl
      | @cons a b as bs hp _ ih =>
        subst hp
        cases e : p a with
        | true => simp [e]; simpa using ih
        | false => simp [e]; simpa using ih
    rw [this]
    exact hR
/-- filtered, each giving something of which P holds -/
theorem comp_ifAny {g : TGQ} {tt : TQB} {te : TQ} {vs : List Nat} {ρ0 : En} {R : List PyData → En → Prop} (p : PyData → Bool) (P : PyData → PyData → Prop) {ds : List PyData}
    (h : ∀ x, x ∈ ds → ∀ (Rk : PyData → En → Prop) (Rf : En → Prop), (∀ y ρ4, p x = true → P x y → wipeQ ρ4 vs = ρ0 → Rk y ρ4) → (∀ ρ3, p x = false → wipeQ ρ3 vs = ρ0 → Rf ρ3) → g x ρ0 fun ρ2 => tt ρ2 fun b ρ3 => if b = true then te ρ3 Rk else Rf ρ3)
    (hR : ∀ outs, F2 P (ds.filter p) outs → R outs ρ0) : compQ g tt te vs ds [] ρ0 R := by
  refine comp_rel (fun x o => (p x = false ∧ o = none) ∨ (p x = true ∧ ∃ y, o = some y ∧ P x y)) ds [] (fun x hx Rk Rf hk hf => ?_) fun outs ho => ?_
  · exact h x hx Rk Rf (fun y ρ4 e hp hw => hk _ ρ4 (.inr ⟨e, y, rfl, hp⟩) hw) fun ρ3 e hw => hf ρ3 (.inl ⟨e, rfl⟩) hw
  · refine hR _ ?_
    clear hR h
    induction ho with
    | nil => exact .nil
    | @cons a b as bs hp _ ih =>
      rcases hp with ⟨e, rfl⟩ | ⟨e, y, rfl, hp⟩
      · simpa [e] using ih
      · simp only [List.filter_cons, e, if_true, List.filterMap_cons, id]
        exact .cons hp ih
theorem F2.length {α β : Type} {P : α → β → Prop} {as : List α} {bs : List β} (h : F2 P as bs) : as.length = bs.length := by
  induction h with
  | nil => rfl
  | cons _ _ ih => simp [ih]
theorem F2.imp {α β : Type} {P Q : α → β → Prop} (w : ∀ a b, P a b → Q a b) {as : List α} {bs : List β} (h : F2 P as bs) : F2 Q as bs := by
  induction h with
  | nil => exact .nil
  | cons a _ ih => exact .cons (w _ _ a) ih
/-- all things are ints of which p holds -/
theorem F2.ints {α : Type} {p : Int → Prop} {as : List α} {bs : List PyData} (h : F2 (fun _ y => ∃ i : Int, y = .int i ∧ p i) as bs) : ∃ ns : List Int, bs = ns.map .int ∧ ns.length = as.length ∧ ∀ i, i ∈ ns → p i := by
  induction h with
  | nil => exact ⟨[], rfl, rfl, by simp⟩
  | cons a _ ih =>
    obtain ⟨ns, rfl, hl, hp⟩ := ih
    obtain ⟨i, rfl, hi⟩ := a
    exact ⟨i :: ns, rfl, by simp [hl], fun j hj => by
      rcases List.mem_cons.mp hj with rfl | hj
      · exact hi
      · exact hp j hj⟩
end Q
end P16
section P17
namespace Q
open PySem PySem.Spec PyProof.Rows L2 HT
/-! ### small data: their texts are short -/
theorem len_app (a b : Str) : (a ++ b).length = a.length + b.length := by
  show (a.cps ++ b.cps).size = _
  rw [Array.size_append]; rfl
theorem ok_app {a b : Str} (h : PyData.strOk a = true) (h' : PyData.strOk b = true) : PyData.strOk (a ++ b) = true := by
  unfold PyData.strOk at h h' ⊢
  show (a.cps ++ b.cps).all _ = true
  rw [Array.all_append, h, h']; rfl
theorem join_len {sep : Str} {B : Nat} : ∀ {ts : List Str}, (∀ t, t ∈ ts → t.length ≤ B) → (sep.join ts).length ≤ ts.length * (B + sep.length)
  | [], _ => by show 0 ≤ _; omega
  | [a], h => by
    have := h a (by simp)
    show a.length ≤ _
    simp; omega
  | a :: b :: r, h => by
    have h1 := h a (by simp)
    have ih := join_len (sep := sep) (ts := b :: r) fun t ht => h t (by simp at ht ⊢; exact .inr ht)
    show (a ++ sep ++ sep.join (b :: r)).length ≤ _
    rw [len_app, len_app]
    simp only [List.length_cons] at ih ⊢
    rw [Nat.add_mul (r.length + 1) 1 _]
    omega
theorem join_ok {sep : Str} (hs : PyData.strOk sep = true) : ∀ {ts : List Str}, (∀ t, t ∈ ts → PyData.strOk t = true) → PyData.strOk (sep.join ts) = true
  | [], _ => by show PyData.strOk Str.empty = true; decide +kernel
  | [a], h => h a (by simp)
  | a :: b :: r, h => by
    have ih := join_ok hs (ts := b :: r) fun t ht => h t (by simp at ht ⊢; exact .inr ht)
    exact ok_app (ok_app (h a (by simp)) hs) ih
structure Tn (k B : Nat) (d : PyData) : Prop where
  sh : d.showable = true
  lay : d.canLay0 = true
  dp : d.depth ≤ k
  sz : d.shown.length ≤ B
  ok : PyData.strOk d.shown = true
theorem Tn.rep {k B : Nat} {d : PyData} (h : Tn k B d) (hk : k ≤ 60) (hB : B ≤ 10000000) : RepOk d := ⟨h.sh, h.lay, Nat.le_trans h.dp hk, by have := h.sz; rw [sizeLine_eq]; omega⟩
theorem Tn.shaped {k B : Nat} {d : PyData} (h : Tn k B d) (hk : k ≤ 60) : SeqAt.shaped d = true := by
  unfold SeqAt.shaped
  rw [h.lay, Bool.true_and, decide_eq_true_eq]
  have := h.dp
  omega
theorem Tn.text {k B : Nat} {d : PyData} (h : Tn k B d) : SeqAt.shaped (.str d.shown) = true := by
  unfold SeqAt.shaped
  simp [PyData.canLay0, PyData.depth, h.ok]
theorem Tn.mono {k B k' B' : Nat} {d : PyData} (h : Tn k B d) (hk : k ≤ k') (hB : B ≤ B') : Tn k' B' d := ⟨h.sh, h.lay, Nat.le_trans h.dp hk, Nat.le_trans h.sz hB, h.ok⟩
theorem tn_nat : ∀ n : Nat, n < 1000 → (Str.ofString (toString (n : Int))).length ≤ 3 ∧ PyData.strOk (Str.ofString (toString (n : Int))) = true ∧ decide (((n : Int)).natAbs.log2 < 1920) = true := by decide +kernel
theorem tn_neg : ∀ n : Nat, n < 1000 → (Str.ofString (toString (-(n : Int)))).length ≤ 4 ∧ PyData.strOk (Str.ofString (toString (-(n : Int)))) = true ∧ decide ((-(n : Int)).natAbs.log2 < 1920) = true := by decide +kernel
theorem tn_int {i : Int} (h1 : -1000 < i) (h2 : i < 1000) : Tn 0 4 (.int i) := by
  by_cases h : 0 ≤ i
  · obtain ⟨n, rfl⟩ := Int.eq_ofNat_of_zero_le h
    obtain ⟨a, b, c⟩ := tn_nat n (by omega)
    exact ⟨by simpa only [PyData.showable] using c, by simp [PyData.canLay0], by simp [PyData.depth], by rw [PyData.shown]; exact Nat.le_trans a (by decide), by rw [PyData.shown]; exact b⟩
  · obtain ⟨n, hn⟩ := Int.eq_ofNat_of_zero_le (a := -i) (by omega)
    have e : i = -(n : Int) := by omega
    subst e
    obtain ⟨a, b, c⟩ := tn_neg n (by omega)
    exact ⟨by simpa only [PyData.showable] using c, by simp [PyData.canLay0], by simp [PyData.depth], by rw [PyData.shown]; exact a, by rw [PyData.shown]; exact b⟩
theorem tn_bool {b : Bool} : Tn 0 5 (.bool b) := by
  cases b <;> exact ⟨by simp [PyData.showable], by simp [PyData.canLay0], by simp [PyData.depth], by simp only [PyData.shown]; decide +kernel, by simp only [PyData.shown]; decide +kernel⟩
theorem tn_none : Tn 0 4 .none := ⟨by simp [PyData.showable], by simp [PyData.canLay0], by simp [PyData.depth], by simp only [PyData.shown]; decide +kernel, by simp only [PyData.shown]; decide +kernel⟩
theorem shAll {xs : List PyData} : (∀ x, x ∈ xs → x.showable = true) → PyData.showableAll xs = true := by
  induction xs with
  | nil => intro; simp [PyData.showableAll]
  | cons x xs ih => intro h; simp [PyData.showableAll, h x (by simp), ih fun y hy => h y (by simp [hy])]
theorem layAll {xs : List PyData} : (∀ x, x ∈ xs → x.canLay0 = true) → PyData.canLayAll0 xs = true := by
  induction xs with
  | nil => intro; simp [PyData.canLayAll0]
  | cons x xs ih => intro h; simp [PyData.canLayAll0, h x (by simp), ih fun y hy => h y (by simp [hy])]
theorem dpAll {k : Nat} {xs : List PyData} : (∀ x, x ∈ xs → x.depth ≤ k) → PyData.depthAll xs ≤ k := by
  induction xs with
  | nil => intro; simp [PyData.depthAll]
  | cons x xs ih =>
    intro h
    rw [PyData.depthAll]
    exact Nat.max_le.mpr ⟨h x (by simp), ih fun y hy => h y (by simp [hy])⟩
theorem shownAll_eq (xs : List PyData) : PyData.shownAll xs = xs.map PyData.shown := by
  induction xs with
  | nil => simp [PyData.shownAll]
  | cons x xs ih => simp [PyData.shownAll, ih]
theorem tn_tup {k B n : Nat} {xs : List PyData} (h : ∀ x, x ∈ xs → Tn k B x) (hn : xs.length ≤ n) : Tn (k + 1) (n * (B + 2) + 3) (.tuple xs) := by
  refine ⟨by rw [PyData.showable]; exact shAll fun x hx => (h x hx).sh, by rw [PyData.canLay0]; exact layAll fun x hx => (h x hx).lay, by rw [PyData.depth]; exact Nat.succ_le_succ (dpAll fun x hx => (h x hx).dp), ?_, ?_⟩
  · rw [PyData.shown, shownAll_eq]
    unfold tupleText
    rw [len_app, len_app]
    have a := join_len (sep := Str.ofString ", ") (B := B) (ts := xs.map PyData.shown) fun t ht => by
      obtain ⟨x, hx, rfl⟩ := List.mem_map.mp ht
      exact (h x hx).sz
    rw [List.length_map] at a ⊢
    have e1 : (Str.ofString ", ").length = 2 := by decide +kernel
    have e2 : (Str.ofString "(").length = 1 := by decide +kernel
    have e3 : (Str.ofString (if (xs.length == 1) = true then ",)" else ")")).length ≤ 2 := by split <;> decide +kernel
    rw [e1] at a
    have m : xs.length * (B + 2) ≤ n * (B + 2) := Nat.mul_le_mul_right _ hn
    omega
  · rw [PyData.shown, shownAll_eq]
    unfold tupleText
    refine ok_app (ok_app (by decide +kernel) (join_ok (by decide +kernel) fun t ht => ?_)) ?_
    · obtain ⟨x, hx, rfl⟩ := List.mem_map.mp ht
      exact (h x hx).ok
    · split <;> decide +kernel
theorem tn_tup2 {k B : Nat} {x y : PyData} (hx : Tn k B x) (hy : Tn k B y) : Tn (k + 1) (2 * (B + 2) + 3) (.tuple [x, y]) := tn_tup (fun z hz => by
  rcases List.mem_cons.mp hz with rfl | hz
  · exact hx
  · rw [List.mem_singleton] at hz; subst hz; exact hy) (Nat.le_refl _)
theorem tn_ints {ns : List Int} {n : Nat} (h : ∀ i, i ∈ ns → -1000 < i ∧ i < 1000) (hn : ns.length ≤ n) : Tn 1 (n * 6 + 3) (.tuple (ns.map .int)) :=
  tn_tup (k := 0) (B := 4) (fun x hx => by obtain ⟨i, hi, rfl⟩ := List.mem_map.mp hx; exact tn_int (h i hi).1 (h i hi).2) (by rw [List.length_map]; exact hn)
/-! ### values that are equal -/
theorem eqv_int {i j : Int} : PyData.eqv (.int i) (.int j) = decide (i = j) := by simp [PyData.eqv]; rfl
theorem eqv_strs {a : Str} : PyData.eqv (.str a) (.str a) = true := by simp [PyData.eqv]
theorem sh_int {i : Int} : SeqAt.shaped (.int i) = true := by unfold SeqAt.shaped; simp [PyData.canLay0, PyData.depth]
theorem eqvAll_ints : ∀ ns : List Int, PyData.eqvAll (ns.map .int) (ns.map .int) = true
  | [] => by simp [PyData.eqvAll]
  | n :: ns => by simp [PyData.eqvAll, PyData.eqv, eqvAll_ints ns]
theorem eqv_ints {ns : List Int} : PyData.eqv (.list (ns.map .int)) (.list (ns.map .int)) = true := by rw [PyData.eqv]; exact eqvAll_ints ns
theorem eqv_tup0 {x : PyData} {xs : List PyData} : PyData.eqv (.tuple (x :: xs)) (.tuple []) = false := by simp [PyData.eqv, PyData.eqvAll]
theorem lay_ints : ∀ ns : List Int, PyData.canLayAll0 (ns.map .int) = true := fun ns => layAll fun x hx => by obtain ⟨i, _, rfl⟩ := List.mem_map.mp hx; simp [PyData.canLay0]
theorem dep_ints : ∀ ns : List Int, PyData.depthAll (ns.map .int) ≤ 0 := fun ns => dpAll fun x hx => by obtain ⟨i, _, rfl⟩ := List.mem_map.mp hx; simp [PyData.depth]
theorem sh_lstI {ns : List Int} : SeqAt.shaped (.list (ns.map .int)) = true := by
  unfold SeqAt.shaped
  rw [PyData.canLay0, PyData.depth, lay_ints, Bool.true_and, decide_eq_true_eq]
  have := dep_ints ns
  omega
theorem sh_tupI {ns : List Int} : SeqAt.shaped (.tuple (ns.map .int)) = true := by
  unfold SeqAt.shaped
  rw [PyData.canLay0, PyData.depth, lay_ints, Bool.true_and, decide_eq_true_eq]
  have := dep_ints ns
  omega
end Q
end P17
section P18
open PySem PySem.Spec PyProof.Rows L2 HT Q
namespace T01
def top (i : Nat) : Stmt := PySem.Challenge.pw_lotthrows_k01_whole_decks_laid_and_order.main.body.getD i (.Pass ⟨0, 0, 0, 0⟩)
end T01
namespace T01
section
def t_is_integer : TQS := (sRet (vAnd (isD isInt (tV 0)) (vNot (isD isBool (tV 0)))))
def t_is_between (S_is_integer : PSpec) : TQS := (sRet (vAnd (tCallQ S_is_integer (aD (tV 0) aNil)) (chI (fun i j => decide (i ≤ j)) (fun i j => decide (i ≤ j)) (tV 1) (tV 0) (tV 2))))
def t_are_between (S_is_between : PSpec) : TQS := (sRet (vAnd (isD isTup (tV 0)) (tCA allD (dCons (tFz (tLcQ (iQ (tV 0)) (gN 3) tY (tCallQ S_is_between (aD (tV 3) (aD (tV 1) (aD (tV 2) aNil)))) [3])) dNil))))
def t_is_size (S_is_between : PSpec) : TQS := (sRet (tCallQ S_is_between (aD (tV 0) (aD (tK (.int 1)) (aD (tK (.int 8)) aNil)))))
def t_is_deck_value (S_are_between : PSpec) : TQS := (sRet (vAnd (tCallQ S_are_between (aD (tV 1) (aD (tK (.int 0)) (aD (t2 subI (tV 0) (tK (.int 1))) aNil)))) (t2 leI (tLenN 1) (tK (.int 60)))))
def t_is_order_value (S_are_between : PSpec) : TQS := (sRet (vAnd (tCallQ S_are_between (aD (tV 1) (aD (tK (.int 0)) (aD (t2 subI (tV 0) (tK (.int 1))) aNil)))) (vAnd (t2 eqD (tLenN 1) (tV 0)) (t2 eqD (tCA lenSetT (dCons (tV 1) dNil)) (tV 0)))))
def t_is_lot_value (S_is_integer : PSpec) (S_are_between : PSpec) : TQS := (sSeq (sIf (qOr (qNot (tB (isD isTup (tV 0)))) (qOr (tB (t2 neD (tLenN 0) (tK (.int 2)))) (qOr (qNot (tB (tCallQ S_is_integer (aD (tIxN 0 (tK (.int 1))) aNil)))) (tB (t2 (inD true) (tIxN 0 (tK (.int 1))) (tTupQ (dCons (tK (.int 1)) (dCons (t1 negI (tK (.int 1))) dNil)))))))) (sRet (tK (.bool false))) sNil)
  (sSeq (sSet 1 (tIxN 0 (tK (.int 0))))
  (sSeq (sIf (qOr (qNot (tB (tCallQ S_are_between (aD (tV 1) (aD (tK (.int 0)) (aD (t2 subI (tK (.int 8)) (tK (.int 1))) aNil)))))) (tB (t2 eqD (tV 1) (tTupQ dNil)))) (sRet (tK (.bool false))) sNil)
  (sRet (tCA allD (dCons (tFz (tLcQ (rg2 (tK (.int 1)) (tLenN 1)) (gN 2) tY (t2 ltI (tIxN 1 (t2 subI (tV 2) (tK (.int 1)))) (tIxN 1 (tV 2))) [2])) dNil))))))
def t_is_throw_value (S_is_lot_value : PSpec) : TQS := (sSeq (sIf (qOr (qNot (tB (isD isTup (tV 0)))) (qOr (tB (t2 eqD (tV 0) (tTupQ dNil))) (qNot (tB (tCA allD (dCons (tFz (tLcQ (iQ (tV 0)) (gN 4) tY (tCallQ S_is_lot_value (aD (tV 4) aNil)) [4])) dNil)))))) (sRet (tK (.bool false))) sNil)
  (sSeq (sSetL 1 (tLstQ dNil))
  (sSeq (sFor (iQ (tV 0)) (gT 2 (gsCons (gN 2) (gsCons (gN 3) gsNil))) (sExpr (tOwnM 1 extC (dCons (tV 2) dNil))))
  (sRet (t2 eqD (tCA sortD (dCons (tV 1) dNil)) (tFz (rg1 (tLenN 1))))))))
def t_need_size (S_is_size : PSpec) : TQS := (sIf (qNot (tB (tCallQ S_is_size (aD (tV 0) aNil)))) sNever sNil)
def t_need_deck (S_is_deck_value : PSpec) : TQS := (sIf (qNot (tB (tCallQ S_is_deck_value (aD (tV 0) (aD (tV 1) aNil))))) sNever sNil)
def t_need_throw (S_is_throw_value : PSpec) : TQS := (sIf (qNot (tB (tCallQ S_is_throw_value (aD (tV 0) aNil)))) sNever sNil)
def t_need_order (S_is_order_value : PSpec) : TQS := (sIf (qNot (tB (tCallQ S_is_order_value (aD (tV 0) (aD (tV 1) aNil))))) sNever sNil)
def t_need_number (S_is_integer : PSpec) : TQS := (sIf (qOr (qNot (tB (tCallQ S_is_integer (aD (tV 0) aNil)))) (tB (t2 ltI (tV 0) (tK (.int 0))))) sNever sNil)
def t_is_deck (S_need_size : PSpec) (S_is_deck_value : PSpec) : TQS := (sSeq (sExpr (tCallQ S_need_size (aD (tV 0) aNil)))
  (sRet (tCallQ S_is_deck_value (aD (tV 0) (aD (tV 1) aNil)))))
def t_is_order (S_need_number : PSpec) (S_is_order_value : PSpec) : TQS := (sSeq (sExpr (tCallQ S_need_number (aD (tV 0) aNil)))
  (sRet (tCallQ S_is_order_value (aD (tV 0) (aD (tV 1) aNil)))))
def t_need_some_order (S_is_order_value : PSpec) : TQS := (sIf (qOr (qNot (tB (isD isTup (tV 0)))) (qOr (tB (t2 gtI (tLenN 0) (tK (.int 60)))) (qNot (tB (tCallQ S_is_order_value (aD (tLenN 0) (aD (tV 0) aNil))))))) sNever sNil)
def t_raw_laid : TQS := (sRet (tCA tupD (dCons (tFz (tLcQ (iQ (tV 1)) (gN 2) tY (tIxN 0 (tV 2)) [2])) dNil)))
def t_laid (S_need_deck : PSpec) (S_need_order : PSpec) (S_raw_laid : PSpec) : TQS := (sSeq (sExpr (tCallQ S_need_deck (aD (tK (.int 8)) (aD (tV 0) aNil))))
  (sSeq (sExpr (tCallQ S_need_order (aD (tLenN 0) (aD (tV 1) aNil))))
  (sRet (tCallQ S_raw_laid (aD (tV 0) (aD (tV 1) aNil))))))
def t_together (S_need_some_order : PSpec) (S_need_order : PSpec) (S_raw_laid : PSpec) : TQS := (sSeq (sExpr (tCallQ S_need_some_order (aD (tV 0) aNil)))
  (sSeq (sExpr (tCallQ S_need_order (aD (tLenN 0) (aD (tV 1) aNil))))
  (sRet (tCallQ S_raw_laid (aD (tV 0) (aD (tV 1) aNil))))))
def t_undone_order (S_need_some_order : PSpec) : TQS := (sSeq (sExpr (tCallQ S_need_some_order (aD (tV 0) aNil)))
  (sSeq (sSetL 1 (tRepL (tFz (tLstQ (dCons (tK (.int 0)) dNil))) (tLenN 0)))
  (sSeq (sFor (iEn (tV 0)) (gT 2 (gsCons (gN 2) (gsCons (gN 3) gsNil))) (sSetIx 1 (tV 2) (tV 3)))
  (sRet (tCA tupD (dCons (tV 1) dNil))))))
def t_opposite (S_need_some_order : PSpec) : TQS := (sSeq (sExpr (tCallQ S_need_some_order (aD (tV 0) aNil)))
  (sRet (t1 revD (tV 0))))
def t_counts_of (S_need_size : PSpec) (S_need_deck : PSpec) : TQS := (sSeq (sExpr (tCallQ S_need_size (aD (tV 0) aNil)))
  (sSeq (sExpr (tCallQ S_need_deck (aD (tV 0) (aD (tV 1) aNil))))
  (sRet (tCA tupD (dCons (tFz (tLcQ (rg1 (tV 0)) (gN 2) tY (tCA lenD (dCons (tFz (tLcQ (iQ (tV 1)) (gN 3) (tB (t2 eqD (tV 3) (tV 2))) (tK (.int 1)) [3])) dNil)) [2])) dNil)))))
def t_raw_size : TQS := (sRet (tCA sumD (dCons (tFz (tLcQ (iQ (tV 0)) (gT 2 (gsCons (gN 1) (gsCons (gN 2) gsNil))) tY (tLenN 1) [1, 2])) dNil)))
def t_raw_order : TQS := (sSeq (sSetL 2 (tLstQ dNil))
  (sSeq (sFor (iQ (tV 0)) (gT 2 (gsCons (gN 3) (gsCons (gN 4) gsNil))) (sSeq (sSetL 5 (tLcQ (iEn (tV 1)) (gT 2 (gsCons (gN 6) (gsCons (gN 7) gsNil))) (tB (t2 (inD false) (tV 7) (tV 3))) (tV 6) [6, 7]))
  (sExpr (tOwnM 2 extC (dCons (qIf (tB (t2 eqD (tV 4) (tK (.int 1)))) (tV 5) (t1 revD (tV 5))) dNil)))))
  (sRet (tCA tupD (dCons (tV 2) dNil)))))
def t_order_after (S_need_throw : PSpec) (S_need_deck : PSpec) (S_raw_size : PSpec) (S_raw_order : PSpec) : TQS := (sSeq (sExpr (tCallQ S_need_throw (aD (tV 0) aNil)))
  (sSeq (sExpr (tCallQ S_need_deck (aD (tCallQ S_raw_size (aD (tV 0) aNil)) (aD (tV 1) aNil))))
  (sRet (tCallQ S_raw_order (aD (tV 0) (aD (tV 1) aNil))))))
def t_deck_after (S_need_throw : PSpec) (S_need_deck : PSpec) (S_raw_size : PSpec) (S_raw_laid : PSpec) (S_raw_order : PSpec) : TQS := (sSeq (sExpr (tCallQ S_need_throw (aD (tV 0) aNil)))
  (sSeq (sExpr (tCallQ S_need_deck (aD (tCallQ S_raw_size (aD (tV 0) aNil)) (aD (tV 1) aNil))))
  (sRet (tCallQ S_raw_laid (aD (tV 1) (aD (tCallQ S_raw_order (aD (tV 0) (aD (tV 1) aNil))) aNil))))))
def t__law_pick (S__law_draw : PSpec) : TQS := (sRet (tIxN 1 (tCallQ S__law_draw (aK 0 (aD (tLenN 1) aNil)))))
def t__law_cards (S__law_draw : PSpec) : TQS := (sSeq (sAsg (tTupQ (dCons (tCallQ S__law_draw (aK 0 (aD (tK (.int 5)) aNil))) (dCons (tCallQ S__law_draw (aK 0 (aD (t2 addF (tV 2) (tK (.int 1))) aNil))) dNil))) (gT 2 (gsCons (gN 3) (gsCons (gN 4) gsNil))))
  (sSeq (sIf (tB (t2 eqD (tV 3) (tK (.int 0)))) (sRet (tCA tupD (dCons (tFz (tRepL (tFz (tLstQ (dCons (tCallQ S__law_draw (aK 0 (aD (tV 1) aNil))) dNil))) (tV 4))) dNil))) sNil)
  (sSeq (sSet 5 (t2 addF (tK (.int 1)) (tCallQ S__law_draw (aK 0 (aD (tV 1) aNil)))))
  (sRet (tCA tupD (dCons (tFz (tLcQ (rg1 (tV 4)) (gN 6) tY (tCallQ S__law_draw (aK 0 (aD (qIf (tB (t2 eqD (tV 3) (tK (.int 1)))) (tV 5) (tV 1)) aNil))) [6])) dNil))))))
def t__law_order (S__law_draw : PSpec) : TQS := (sSeq (sPar2 2 3 (pO (rg1 (tV 1)) (pO (tLstQ dNil) pNil)))
  (sSeq (sFor (rg1 (tV 1)) (gN 4) (sExpr (tOwnM 3 appC (dCons (tOwnM 2 popC (dCons (tCallQ S__law_draw (aK 0 (aD (tLenN 2) aNil))) dNil)) dNil))))
  (sRet (tCA tupD (dCons (tV 3) dNil)))))
def t__law_throw (S__law_draw : PSpec) (S__law_order : PSpec) (S__law_pick : PSpec) : TQS := (sSeq (sAsg (tTupQ (dCons (tCallQ S__law_draw (aK 0 (aD (tK (.int 6)) aNil))) (dCons (t2 addF (tK (.int 1)) (tCallQ S__law_draw (aK 0 (aD (tV 1) aNil)))) dNil))) (gT 2 (gsCons (gN 2) (gsCons (gN 3) gsNil))))
  (sSeq (sIf (tB (t2 eqD (tV 2) (tK (.int 0)))) (sSet 3 (tK (.int 1))) sNil)
  (sSeq (sSet 4 (qIf (tB (t2 neD (tV 2) (tK (.int 1)))) (tFz (tLcQ (rg1 (tV 1)) (gN 7) tY (tCallQ S__law_draw (aK 0 (aD (tV 3) aNil))) [7])) (tFz (listD (dCons (tCallQ S__law_order (aK 0 (aD (tV 1) aNil))) dNil)))))
  (sSeq (sSetL 5 (tLcQ (rg1 (t2 addF (tCA maxD (dCons (tV 4) dNil)) (tK (.int 1)))) (gN 8) tY (tCA tupD (dCons (tFz (tLcQ (rg1 (tV 1)) (gN 7) (tB (t2 eqD (tIxN 4 (tV 7)) (tV 8))) (tV 7) [7])) dNil)) [8]))
  (sSeq (sSet 6 (tCallQ S__law_pick (aK 0 (aD (tTupQ (dCons (tK (.int 1)) (dCons (t1 negI (tK (.int 1))) dNil))) aNil))))
  (sRet (tCA tupD (dCons (tFz (tLcQ (iQ (tV 5)) (gN 9) (tB (t2 neD (tV 9) (tTupQ dNil))) (tTupQ (dCons (tV 9) (dCons (qIf (tB (t2 eqD (tV 2) (tK (.int 2)))) (tV 6) (tCallQ S__law_pick (aK 0 (aD (tTupQ (dCons (tK (.int 1)) (dCons (t1 negI (tK (.int 1))) dNil))) aNil)))) dNil))) [9])) dNil))))))))
def t__law_after : TQS := (sSeq (sPar2 2 3 (pDn (pO (tLcQ (iQ (tV 0)) (gN 5) tY (tFz (tLstQ dNil)) [5]) pNil)))
  (sSeq (sFor (iEn (tV 0)) (gT 2 (gsCons (gN 4) (gsCons (gT 2 (gsCons (gN 5) (gsCons (gN 6) gsNil))) gsNil))) (sFor (iQ (tV 5)) (gN 7) (sSetD 2 (tV 4) (tV 7))))
  (sSeq (sFor (iEn (tV 1)) (gT 2 (gsCons (gN 8) (gsCons (gN 7) gsNil))) (sSeq (sSet 4 (tDgetN 2 (tV 7)))
  (sSetIx 3 (qIf (tB (t2 eqD (t2 ixD (tIxN 0 (tV 4)) (tK (.int 1))) (tK (.int 1)))) (t2 addF (tIxN 3 (tV 4)) (tFz (tLstQ (dCons (tV 8) dNil)))) (t2 addF (tFz (tLstQ (dCons (tV 8) dNil))) (tIxN 3 (tV 4)))) (tV 4))))
  (sSeq (sSetL 9 (tLstQ dNil))
  (sSeq (sFor (iQ (tV 3)) (gN 10) (sExpr (tOwnM 9 extC (dCons (tV 10) dNil))))
  (sRet (tCA tupD (dCons (tV 9) dNil))))))))
def t__law_laid : TQS := (sRet (tCA tupD (dCons (tFz (tLcQ (iQ (tV 1)) (gN 2) tY (tIxN 0 (tV 2)) [2])) dNil)))
def t__law_together : TQS := (sSeq (sSet 2 (tFz (tLcQ (iQ (tV 0)) (gN 3) tY (tV 3) [3])))
  (sRet (tCA tupD (dCons (tFz (tLcQ (iQ (tV 1)) (gN 4) tY (tIxN 2 (tV 4)) [4])) dNil))))
def t__law_undone : TQS := (sSeq (sSetL 1 (tRepL (tFz (tLstQ (dCons (tK (.int 0)) dNil))) (tLenN 0)))
  (sSeq (sFor (iEn (tV 0)) (gT 2 (gsCons (gN 2) (gsCons (gN 3) gsNil))) (sSetIx 1 (tV 2) (tV 3)))
  (sRet (tCA tupD (dCons (tV 1) dNil)))))
def t__law_are_orders_right (S__law_together : PSpec) (S__law_laid : PSpec) (S_laid : PSpec) (S_together : PSpec) (S__law_undone : PSpec) (S_undone_order : PSpec) (S_opposite : PSpec) (S_is_order : PSpec) : TQS := (sSeq (sPar2 4 5 (pD (tCallQ S__law_laid (aD (tV 0) (aD (tV 1) aNil))) (pD (tCallQ S__law_together (aD (tV 1) (aD (tV 2) aNil))) pNil)))
  (sSeq (sIf (tB (t2 neD (tCA reprD (dCons (tTupQ (dCons (tCallQ S_laid (aD (tV 0) (aD (tV 1) aNil))) (dCons (tCallKQ S_laid [1, 0] aNil (aD (tV 1) (aD (tV 0) aNil))) dNil))) dNil)) (tCA reprD (dCons (tTupQ (dCons (tV 4) (dCons (tV 4) dNil))) dNil)))) (sRet (tK (.bool false))) sNil)
  (sSeq (sIf (tB (t2 neD (tCA reprD (dCons (tTupQ (dCons (tCallQ S_together (aD (tV 1) (aD (tV 2) aNil))) (dCons (tCallKQ S_together [1, 0] aNil (aD (tV 2) (aD (tV 1) aNil))) (dCons (tCallQ S_laid (aD (tV 0) (aD (tV 5) aNil))) dNil)))) dNil)) (tCA reprD (dCons (tTupQ (dCons (tV 5) (dCons (tV 5) (dCons (tCallQ S_laid (aD (tV 4) (aD (tV 2) aNil))) dNil)))) dNil)))) (sRet (tK (.bool false))) sNil)
  (sSeq (sIf (tB (t2 neD (tCA reprD (dCons (tCallQ S_together (aD (tV 5) (aD (tV 3) aNil))) dNil)) (tCA reprD (dCons (tCallQ S_together (aD (tV 1) (aD (tCallQ S_together (aD (tV 2) (aD (tV 3) aNil))) aNil))) dNil)))) (sRet (tK (.bool false))) sNil)
  (sSeq (sPar3 6 7 8 (pD (tTupRg (tLenN 0)) (pD (tCallQ S__law_undone (aD (tV 1) aNil)) (pD (t1 revD (tV 1)) pNil))))
  (sSeq (sIf (tB (t2 neD (tCA reprD (dCons (tTupQ (dCons (tCallQ S_undone_order (aD (tV 1) aNil)) (dCons (tCallKQ S_undone_order [0] aNil (aD (tV 1) aNil)) (dCons (tCallQ S_opposite (aD (tV 1) aNil)) (dCons (tCallKQ S_opposite [0] aNil (aD (tV 1) aNil)) dNil))))) dNil)) (tCA reprD (dCons (tTupQ (dCons (tV 7) (dCons (tV 7) (dCons (tV 8) (dCons (tV 8) dNil))))) dNil)))) (sRet (tK (.bool false))) sNil)
  (sSeq (sIf (tB (t2 neD (tCA reprD (dCons (tTupQ (dCons (tCallQ S_together (aD (tV 1) (aD (tV 7) aNil))) (dCons (tCallQ S_together (aD (tV 7) (aD (tV 1) aNil))) (dCons (tCallQ S_together (aD (tV 1) (aD (tV 6) aNil))) (dCons (tCallQ S_together (aD (tV 6) (aD (tV 1) aNil))) dNil))))) dNil)) (tCA reprD (dCons (tTupQ (dCons (tV 6) (dCons (tV 6) (dCons (tV 1) (dCons (tV 1) dNil))))) dNil)))) (sRet (tK (.bool false))) sNil)
  (sSeq (sIf (tB (t2 neD (tCA reprD (dCons (tTupQ (dCons (tCallQ S_opposite (aD (tV 8) aNil)) (dCons (tCallQ S_undone_order (aD (tV 7) aNil)) (dCons (tCallQ S_laid (aD (tV 4) (aD (tV 7) aNil))) dNil)))) dNil)) (tCA reprD (dCons (tTupQ (dCons (tV 1) (dCons (tV 1) (dCons (tV 0) dNil)))) dNil)))) (sRet (tK (.bool false))) sNil)
  (sSeq (sIf (tB (t2 neD (tCA reprD (dCons (tTupQ (dCons (tCallQ S_together (aD (tV 1) (aD (tCallQ S_opposite (aD (tV 6) aNil)) aNil))) (dCons (tCallQ S_undone_order (aD (tV 5) aNil)) dNil))) dNil)) (tCA reprD (dCons (tTupQ (dCons (tV 8) (dCons (tCallQ S_together (aD (tCallQ S__law_undone (aD (tV 2) aNil)) (aD (tV 7) aNil))) dNil))) dNil)))) (sRet (tK (.bool false))) sNil)
  (sRet (t2 (isB false) (tCallQ S_is_order (aD (tLenN 0) (aD (tV 5) aNil))) (tK (.bool true)))))))))))))
def t__law_are_throws_right (S_order_after : PSpec) (S_deck_after : PSpec) (S__law_after : PSpec) (S__law_laid : PSpec) (S_laid : PSpec) (S_together : PSpec) (S_counts_of : PSpec) (S_is_deck : PSpec) (S_undone_order : PSpec) : TQS := (sSeq (sSet 4 (tCallQ S_order_after (aD (tV 2) (aD (tV 1) aNil))))
  (sSeq (sSet 5 (tCallQ S_deck_after (aD (tV 2) (aD (tV 1) aNil))))
  (sSeq (sIf (tB (t2 neD (tCA reprD (dCons (tTupQ (dCons (tV 4) (dCons (tV 5) dNil))) dNil)) (tCA reprD (dCons (tTupQ (dCons (tCallQ S__law_after (aD (tV 2) (aD (tV 1) aNil))) (dCons (tCallQ S__law_laid (aD (tV 1) (aD (tV 4) aNil))) dNil))) dNil)))) (sRet (tK (.bool false))) sNil)
  (sSeq (sSet 6 (tCallQ S_order_after (aD (tV 3) (aD (tV 5) aNil))))
  (sSeq (sIf (tB (t2 neD (tCA reprD (dCons (tTupQ (dCons (tCallQ S_laid (aD (tV 1) (aD (tCallQ S_together (aD (tV 4) (aD (tV 6) aNil))) aNil))) (dCons (tCallQ S_counts_of (aD (tV 0) (aD (tV 5) aNil))) dNil))) dNil)) (tCA reprD (dCons (tTupQ (dCons (tCallQ S_deck_after (aD (tV 3) (aD (tV 5) aNil))) (dCons (tCallQ S_counts_of (aD (tV 0) (aD (tV 1) aNil))) dNil))) dNil)))) (sRet (tK (.bool false))) sNil)
  (sRet (vAnd (t2 (isB false) (tCallQ S_is_deck (aD (tV 0) (aD (tV 5) aNil))) (tK (.bool true))) (t2 eqD (tCA reprD (dCons (tCallQ S_laid (aD (tV 5) (aD (tCallQ S_undone_order (aD (tV 4) aNil)) aNil))) dNil)) (tCA reprD (dCons (tV 1) dNil))))))))))
def t_law (S__law_draw : PSpec) (S__law_cards : PSpec) (S__law_pick : PSpec) (S__law_order : PSpec) (S__law_are_orders_right : PSpec) (S_counts_of : PSpec) (S__law_are_throws_right : PSpec) (S__law_throw : PSpec) : TQS := (sSeq (sFor (rg1 (tK (.int 3))) (gN 2) (sSeq (sSet 3 (t2 addF (tK (.int 1)) (tCallQ S__law_draw (aK 1 (aD (tK (.int 8)) aNil)))))
  (sSeq (sSet 4 (tCallQ S__law_cards (aK 1 (aD (tV 3) (aD (tCallQ S__law_pick (aK 1 (aD (tTupQ (dCons (tK (.int 4)) (dCons (tK (.int 8)) (dCons (tK (.int 12)) (dCons (tK (.int 24)) (dCons (tK (.int 60)) dNil)))))) aNil))) aNil)))))
  (sSeq (sSetL 5 (tLcQ (rg1 (tK (.int 3))) (gN 7) tY (tCallQ S__law_order (aK 1 (aD (tLenN 4) aNil))) [7]))
  (sSeq (sIf (qNot (tB (tCallQ S__law_are_orders_right (aD (tV 4) (aD (tIxN 5 (tK (.int 0))) (aD (tIxN 5 (tK (.int 1))) (aD (tIxN 5 (tK (.int 2))) aNil))))))) (sRet (tK (.bool false))) sNil)
  (sSeq (sSet 6 (tCA tupD (dCons (tFz (tLcQ (rg1 (tV 3)) (gN 8) tY (tCA lenD (dCons (tFz (tLcQ (iQ (tV 4)) (gN 9) (tB (t2 eqD (tV 9) (tV 8))) (tV 9) [9])) dNil)) [8])) dNil)))
  (sSeq (sIf (tB (t2 neD (tCA reprD (dCons (tTupQ (dCons (tCallQ S_counts_of (aD (tV 3) (aD (tV 4) aNil))) (dCons (tCallKQ S_counts_of [1, 0] aNil (aD (tV 4) (aD (tV 3) aNil))) dNil))) dNil)) (tCA reprD (dCons (tTupQ (dCons (tV 6) (dCons (tV 6) dNil))) dNil)))) (sRet (tK (.bool false))) sNil)
  (sIf (qNot (tB (tCallQ S__law_are_throws_right (aD (tV 3) (aD (tV 4) (aD (tCallQ S__law_throw (aK 1 (aD (tV 3) aNil))) (aD (tCallQ S__law_throw (aK 1 (aD (tV 3) aNil))) aNil))))))) (sRet (tK (.bool false))) sNil))))))))
  (sRet (tK (.bool true))))
end
section
variable {P : Program} {w : World} {K : PySem.W.Frag} {mg : Str → Option Value} {base : Heap}
structure Txt (K : PySem.W.Frag) (mg : Str → Option Value) : Prop where
  b_len : mg "len" = none
  b_tuple : mg "tuple" = none
  b_list : mg "list" = none
  b_range : mg "range" = none
  b_all : mg "all" = none
  b_sum : mg "sum" = none
  b_max : mg "max" = none
  b_int : mg "int" = none
  b_sorted : mg "sorted" = none
  b_isinstance : mg "isinstance" = none
  b_repr : mg "repr" = none
  b_enumerate : mg "enumerate" = none
  b_set : mg "set" = none
  b_bool : mg "bool" = none
  c_MOST_SIZE : ∃ z, mg "MOST_SIZE" = some (.int 8 z)
  c_MOST_CARDS : ∃ z, mg "MOST_CARDS" = some (.int 60 z)
abbrev N_is_integer : List Str := ["thing"]
theorem sc_is_integer : FnScope N_is_integer ["thing"] (defScope (top 10)) := ⟨rfl, rfl, rfl, by decide +kernel, rfl, by decide +kernel, by decide +kernel⟩
abbrev N_is_between : List Str := ["thing", "least", "most"]
theorem sc_is_between : FnScope N_is_between ["thing", "least", "most"] (defScope (top 11)) := ⟨rfl, rfl, rfl, by decide +kernel, rfl, by decide +kernel, by decide +kernel⟩
abbrev N_are_between : List Str := ["thing", "least", "most", "part"]
theorem sc_are_between : FnScope N_are_between ["thing", "least", "most"] (defScope (top 12)) := ⟨rfl, rfl, rfl, by decide +kernel, rfl, by decide +kernel, by decide +kernel⟩
abbrev N_is_size : List Str := ["thing"]
theorem sc_is_size : FnScope N_is_size ["thing"] (defScope (top 13)) := ⟨rfl, rfl, rfl, by decide +kernel, rfl, by decide +kernel, by decide +kernel⟩
abbrev N_is_deck_value : List Str := ["size", "thing"]
theorem sc_is_deck_value : FnScope N_is_deck_value ["size", "thing"] (defScope (top 14)) := ⟨rfl, rfl, rfl, by decide +kernel, rfl, by decide +kernel, by decide +kernel⟩
abbrev N_is_order_value : List Str := ["many", "thing"]
theorem sc_is_order_value : FnScope N_is_order_value ["many", "thing"] (defScope (top 15)) := ⟨rfl, rfl, rfl, by decide +kernel, rfl, by decide +kernel, by decide +kernel⟩
abbrev N_is_lot_value : List Str := ["thing", "lot", "at"]
theorem sc_is_lot_value : FnScope N_is_lot_value ["thing"] (defScope (top 16)) := ⟨rfl, rfl, rfl, by decide +kernel, rfl, by decide +kernel, by decide +kernel⟩
abbrev N_is_throw_value : List Str := ["thing", "kinds", "lot", "sign", "part"]
theorem sc_is_throw_value : FnScope N_is_throw_value ["thing"] (defScope (top 17)) := ⟨rfl, rfl, rfl, by decide +kernel, rfl, by decide +kernel, by decide +kernel⟩
abbrev N_need_size : List Str := ["size"]
theorem sc_need_size : FnScope N_need_size ["size"] (defScope (top 19)) := ⟨rfl, rfl, rfl, by decide +kernel, rfl, by decide +kernel, by decide +kernel⟩
abbrev N_need_deck : List Str := ["size", "deck"]
theorem sc_need_deck : FnScope N_need_deck ["size", "deck"] (defScope (top 20)) := ⟨rfl, rfl, rfl, by decide +kernel, rfl, by decide +kernel, by decide +kernel⟩
abbrev N_need_throw : List Str := ["throw"]
theorem sc_need_throw : FnScope N_need_throw ["throw"] (defScope (top 21)) := ⟨rfl, rfl, rfl, by decide +kernel, rfl, by decide +kernel, by decide +kernel⟩
abbrev N_need_order : List Str := ["many", "order"]
theorem sc_need_order : FnScope N_need_order ["many", "order"] (defScope (top 22)) := ⟨rfl, rfl, rfl, by decide +kernel, rfl, by decide +kernel, by decide +kernel⟩
abbrev N_need_number : List Str := ["number"]
theorem sc_need_number : FnScope N_need_number ["number"] (defScope (top 23)) := ⟨rfl, rfl, rfl, by decide +kernel, rfl, by decide +kernel, by decide +kernel⟩
abbrev N_is_deck : List Str := ["size", "thing"]
theorem sc_is_deck : FnScope N_is_deck ["size", "thing"] (defScope (top 25)) := ⟨rfl, rfl, rfl, by decide +kernel, rfl, by decide +kernel, by decide +kernel⟩
abbrev N_is_order : List Str := ["n", "thing"]
theorem sc_is_order : FnScope N_is_order ["n", "thing"] (defScope (top 26)) := ⟨rfl, rfl, rfl, by decide +kernel, rfl, by decide +kernel, by decide +kernel⟩
abbrev N_need_some_order : List Str := ["order"]
theorem sc_need_some_order : FnScope N_need_some_order ["order"] (defScope (top 27)) := ⟨rfl, rfl, rfl, by decide +kernel, rfl, by decide +kernel, by decide +kernel⟩
abbrev N_raw_laid : List Str := ["deck", "order", "card"]
theorem sc_raw_laid : FnScope N_raw_laid ["deck", "order"] (defScope (top 28)) := ⟨rfl, rfl, rfl, by decide +kernel, rfl, by decide +kernel, by decide +kernel⟩
abbrev N_laid : List Str := ["deck", "order"]
theorem sc_laid : FnScope N_laid ["deck", "order"] (defScope (top 29)) := ⟨rfl, rfl, rfl, by decide +kernel, rfl, by decide +kernel, by decide +kernel⟩
abbrev N_together : List Str := ["one", "other"]
theorem sc_together : FnScope N_together ["one", "other"] (defScope (top 30)) := ⟨rfl, rfl, rfl, by decide +kernel, rfl, by decide +kernel, by decide +kernel⟩
abbrev N_undone_order : List Str := ["order", "found", "at", "card"]
theorem sc_undone_order : FnScope N_undone_order ["order"] (defScope (top 31)) := ⟨rfl, rfl, rfl, by decide +kernel, rfl, by decide +kernel, by decide +kernel⟩
abbrev N_opposite : List Str := ["order"]
theorem sc_opposite : FnScope N_opposite ["order"] (defScope (top 32)) := ⟨rfl, rfl, rfl, by decide +kernel, rfl, by decide +kernel, by decide +kernel⟩
abbrev N_counts_of : List Str := ["size", "deck", "kind", "card"]
theorem sc_counts_of : FnScope N_counts_of ["size", "deck"] (defScope (top 33)) := ⟨rfl, rfl, rfl, by decide +kernel, rfl, by decide +kernel, by decide +kernel⟩
abbrev N_raw_size : List Str := ["throw", "lot", "sign"]
theorem sc_raw_size : FnScope N_raw_size ["throw"] (defScope (top 35)) := ⟨rfl, rfl, rfl, by decide +kernel, rfl, by decide +kernel, by decide +kernel⟩
abbrev N_raw_order : List Str := ["throw", "deck", "found", "lot", "sign", "cards", "card", "kind"]
theorem sc_raw_order : FnScope N_raw_order ["throw", "deck"] (defScope (top 36)) := ⟨rfl, rfl, rfl, by decide +kernel, rfl, by decide +kernel, by decide +kernel⟩
abbrev N_order_after : List Str := ["throw", "deck"]
theorem sc_order_after : FnScope N_order_after ["throw", "deck"] (defScope (top 37)) := ⟨rfl, rfl, rfl, by decide +kernel, rfl, by decide +kernel, by decide +kernel⟩
abbrev N_deck_after : List Str := ["throw", "deck"]
theorem sc_deck_after : FnScope N_deck_after ["throw", "deck"] (defScope (top 38)) := ⟨rfl, rfl, rfl, by decide +kernel, rfl, by decide +kernel, by decide +kernel⟩
abbrev N__law_deck : List Str := ["_law_script", "_law_mixed", "_law_cell"]
theorem sc__law_deck : FnScope N__law_deck ["_law_script"] (defScope (top 40)) := ⟨rfl, rfl, rfl, by decide +kernel, rfl, by decide +kernel, by decide +kernel⟩
abbrev N__law_draw : List Str := ["_law_deck_here", "_law_many", "_law_number", "_law_cell"]
theorem sc__law_draw : FnScope N__law_draw ["_law_deck_here", "_law_many"] (defScope (top 41)) := ⟨rfl, rfl, rfl, by decide +kernel, rfl, by decide +kernel, by decide +kernel⟩
abbrev N__law_pick : List Str := ["_law_deck_here", "_law_some"]
theorem sc__law_pick : FnScope N__law_pick ["_law_deck_here", "_law_some"] (defScope (top 42)) := ⟨rfl, rfl, rfl, by decide +kernel, rfl, by decide +kernel, by decide +kernel⟩
abbrev N__law_cards : List Str := ["_law_deck_here", "_law_size", "_law_most", "_law_way", "_law_many", "_law_few", "_law_turn"]
theorem sc__law_cards : FnScope N__law_cards ["_law_deck_here", "_law_size", "_law_most"] (defScope (top 43)) := ⟨rfl, rfl, rfl, by decide +kernel, rfl, by decide +kernel, by decide +kernel⟩
abbrev N__law_order : List Str := ["_law_deck_here", "_law_n", "_law_left", "_law_found", "_law_turn"]
theorem sc__law_order : FnScope N__law_order ["_law_deck_here", "_law_n"] (defScope (top 44)) := ⟨rfl, rfl, rfl, by decide +kernel, rfl, by decide +kernel, by decide +kernel⟩
abbrev N__law_throw : List Str := ["_law_deck_here", "_law_size", "_law_way", "_law_many", "_law_places", "_law_lots", "_law_sign", "_law_kind", "_law_at", "_law_lot"]
theorem sc__law_throw : FnScope N__law_throw ["_law_deck_here", "_law_size"] (defScope (top 45)) := ⟨rfl, rfl, rfl, by decide +kernel, rfl, by decide +kernel, by decide +kernel⟩
abbrev N__law_after : List Str := ["_law_throw_here", "_law_cards_here", "_law_places", "_law_heaps", "_law_at", "_law_lot", "_law_sign", "_law_kind", "_law_card", "_law_found", "_law_heap"]
theorem sc__law_after : FnScope N__law_after ["_law_throw_here", "_law_cards_here"] (defScope (top 46)) := ⟨rfl, rfl, rfl, by decide +kernel, rfl, by decide +kernel, by decide +kernel⟩
abbrev N__law_laid : List Str := ["_law_cards_here", "_law_order_here", "_law_card"]
theorem sc__law_laid : FnScope N__law_laid ["_law_cards_here", "_law_order_here"] (defScope (top 47)) := ⟨rfl, rfl, rfl, by decide +kernel, rfl, by decide +kernel, by decide +kernel⟩
abbrev N__law_together : List Str := ["_law_one", "_law_other", "_law_lying", "_law_card", "_law_at"]
theorem sc__law_together : FnScope N__law_together ["_law_one", "_law_other"] (defScope (top 48)) := ⟨rfl, rfl, rfl, by decide +kernel, rfl, by decide +kernel, by decide +kernel⟩
abbrev N__law_undone : List Str := ["_law_order_here", "_law_found", "_law_at", "_law_card"]
theorem sc__law_undone : FnScope N__law_undone ["_law_order_here"] (defScope (top 49)) := ⟨rfl, rfl, rfl, by decide +kernel, rfl, by decide +kernel, by decide +kernel⟩
abbrev N__law_are_orders_right : List Str := ["_law_cards_here", "_law_one", "_law_other", "_law_third", "_law_near", "_law_both", "_law_row", "_law_back", "_law_turned"]
theorem sc__law_are_orders_right : FnScope N__law_are_orders_right ["_law_cards_here", "_law_one", "_law_other", "_law_third"] (defScope (top 50)) := ⟨rfl, rfl, rfl, by decide +kernel, rfl, by decide +kernel, by decide +kernel⟩
abbrev N__law_are_throws_right : List Str := ["_law_size", "_law_cards_here", "_law_throw_here", "_law_other", "_law_order_here", "_law_near", "_law_far"]
theorem sc__law_are_throws_right : FnScope N__law_are_throws_right ["_law_size", "_law_cards_here", "_law_throw_here", "_law_other"] (defScope (top 51)) := ⟨rfl, rfl, rfl, by decide +kernel, rfl, by decide +kernel, by decide +kernel⟩
abbrev N_law : List Str := ["_law_script", "_law_deck_here", "_law_turn", "_law_size", "_law_cards_here", "_law_orders", "_law_due", "_law_more", "_law_kind", "_law_it"]
theorem sc_law : FnScope N_law ["_law_script"] (defScope (top 52)) := ⟨rfl, rfl, rfl, by decide +kernel, rfl, by decide +kernel, by decide +kernel⟩
theorem kw_laid_0_order_deck {f : Addr} {fd : FuncData} (F : Fun K "laid" "laid" (top 29) f fd) : KwB K fd ["deck", "order"] ["order", "deck"] 0 [1, 0] := kw_of F fun _ _ _ _ _ _ us ws h1 h2 => match us, ws, h1, h2 with | [], [_, _], _, _ => rfl
theorem kw_together_0_other_one {f : Addr} {fd : FuncData} (F : Fun K "together" "together" (top 30) f fd) : KwB K fd ["one", "other"] ["other", "one"] 0 [1, 0] := kw_of F fun _ _ _ _ _ _ us ws h1 h2 => match us, ws, h1, h2 with | [], [_, _], _, _ => rfl
theorem kw_undone_order_0_order {f : Addr} {fd : FuncData} (F : Fun K "undone_order" "undone_order" (top 31) f fd) : KwB K fd ["order"] ["order"] 0 [0] := kw_of F fun _ _ _ _ _ _ us ws h1 h2 => match us, ws, h1, h2 with | [], [_], _, _ => rfl
theorem kw_opposite_0_order {f : Addr} {fd : FuncData} (F : Fun K "opposite" "opposite" (top 32) f fd) : KwB K fd ["order"] ["order"] 0 [0] := kw_of F fun _ _ _ _ _ _ us ws h1 h2 => match us, ws, h1, h2 with | [], [_], _, _ => rfl
theorem kw_counts_of_0_deck_size {f : Addr} {fd : FuncData} (F : Fun K "counts_of" "counts_of" (top 33) f fd) : KwB K fd ["size", "deck"] ["deck", "size"] 0 [1, 0] := kw_of F fun _ _ _ _ _ _ us ws h1 h2 => match us, ws, h1, h2 with | [], [_, _], _, _ => rfl
theorem dv_is_integer (T : Txt K mg) {S : PSpec}
    {f : Addr} {fd : FuncData} (F : Fun K "is_integer" "is_integer" (top 10) f fd) (len : ∀ as R, S as R → as.length = 1)
    (hread : ∀ as R, S as R → (t_is_integer) { nx := fun _ => R .none, rt := R } (enOf as 0)) : FnG P w K mg base 1 f fd ["thing"] S :=
  FnG.of F sc_is_integer len (t := t_is_integer) (fun cdv A outer s H hG hr => by
    have hu := hr.units
    exact (qss_one (qs_ret (q_and (q_isi kb_int (by rfl) (by rfl) T.b_isinstance (by rfl) T.b_int (qv 0)) (q_one (q_not (q_isi kb_bool (by rfl) (by rfl) T.b_isinstance (by rfl) T.b_bool (qv 0)))))))) hread
theorem dv_is_between (T : Txt K mg)
    {f_is_integer : Addr} {fd_is_integer : FuncData} {S_is_integer : PSpec} (A_is_integer : At K mg "is_integer" ["thing"] (top 10) f_is_integer fd_is_integer) (G_is_integer : FnG P w K mg base 1 f_is_integer fd_is_integer ["thing"] S_is_integer) {S : PSpec}
    {f : Addr} {fd : FuncData} (F : Fun K "is_between" "is_between" (top 11) f fd) (len : ∀ as R, S as R → as.length = 3)
    (hread : ∀ as R, S as R → (t_is_between S_is_integer) { nx := fun _ => R .none, rt := R } (enOf as 0)) : FnG P w K mg base 2 f fd ["thing", "least", "most"] S :=
  FnG.of F sc_is_between len (t := t_is_between S_is_integer) (fun cdv A outer s H hG hr => by
    have hu := hr.units
    exact (qss_one (qs_ret (q_and (q_call G_is_integer hG (hr.mono (by decide)) (by rfl) A_is_integer.m A_is_integer.F.kp A_is_integer.b (qa_d (qv 0) qa_nil)) (q_one (q_chain op_le op_le (qv 1) (qv 0) (qv 2))))))) hread
theorem dv_are_between (T : Txt K mg)
    {f_is_between : Addr} {fd_is_between : FuncData} {S_is_between : PSpec} (A_is_between : At K mg "is_between" ["thing", "least", "most"] (top 11) f_is_between fd_is_between) (G_is_between : FnG P w K mg base 2 f_is_between fd_is_between ["thing", "least", "most"] S_is_between) {S : PSpec}
    {f : Addr} {fd : FuncData} (F : Fun K "are_between" "are_between" (top 12) f fd) (len : ∀ as R, S as R → as.length = 3)
    (hread : ∀ as R, S as R → (t_are_between S_is_between) { nx := fun _ => R .none, rt := R } (enOf as 1)) : FnG P w K mg base 3 f fd ["thing", "least", "most"] S :=
  FnG.of F sc_are_between len (t := t_are_between S_is_between) (fun cdv A outer s H hG hr => by
    have hu := hr.units
    exact (qss_one (qs_ret (q_and (q_isi kb_tup (by rfl) (by rfl) T.b_isinstance (by rfl) T.b_tuple (qv 0)) (q_one (q_all rfl (by rfl) T.b_all (q_frz (ql_lc (own := [("part", 3)]) rfl sc_are_between.nd (qi_e (qv 0)) (blkOk_by (own := [("part", 3)]) (N := N_are_between) (sc := defScope (top 12)) (by decide +kernel)) (fun _ _ _ _ _ => (qg_name 3 sc_are_between.nd)) (by decide) (fun _ _ _ _ _ => qts_nil) (fun _ _ _ _ _ => (q_call G_is_between hG (hr.mono (by decide)) (by rfl) A_is_between.m A_is_between.F.kp A_is_between.b (qa_d (qv 3) (qa_d (qv 1) (qa_d (qv 2) qa_nil))))))))))))) hread
theorem dv_is_size (T : Txt K mg)
    {f_is_between : Addr} {fd_is_between : FuncData} {S_is_between : PSpec} (A_is_between : At K mg "is_between" ["thing", "least", "most"] (top 11) f_is_between fd_is_between) (G_is_between : FnG P w K mg base 2 f_is_between fd_is_between ["thing", "least", "most"] S_is_between) {S : PSpec}
    {f : Addr} {fd : FuncData} (F : Fun K "is_size" "is_size" (top 13) f fd) (len : ∀ as R, S as R → as.length = 1)
    (hread : ∀ as R, S as R → (t_is_size S_is_between) { nx := fun _ => R .none, rt := R } (enOf as 0)) : FnG P w K mg base 3 f fd ["thing"] S :=
  FnG.of F sc_is_size len (t := t_is_size S_is_between) (fun cdv A outer s H hG hr => by
    have hu := hr.units
    exact (qss_one (qs_ret (q_call G_is_between hG (hr.mono (by decide)) (by rfl) A_is_between.m A_is_between.F.kp A_is_between.b (qa_d (qv 0) (qa_d q_int (qa_d (q_gint (by rfl) T.c_MOST_SIZE) qa_nil))))))) hread
theorem dv_is_deck_value (T : Txt K mg)
    {f_are_between : Addr} {fd_are_between : FuncData} {S_are_between : PSpec} (A_are_between : At K mg "are_between" ["thing", "least", "most"] (top 12) f_are_between fd_are_between) (G_are_between : FnG P w K mg base 3 f_are_between fd_are_between ["thing", "least", "most"] S_are_between) {S : PSpec}
    {f : Addr} {fd : FuncData} (F : Fun K "is_deck_value" "is_deck_value" (top 14) f fd) (len : ∀ as R, S as R → as.length = 2)
    (hread : ∀ as R, S as R → (t_is_deck_value S_are_between) { nx := fun _ => R .none, rt := R } (enOf as 0)) : FnG P w K mg base 4 f fd ["size", "thing"] S :=
  FnG.of F sc_is_deck_value len (t := t_is_deck_value S_are_between) (fun cdv A outer s H hG hr => by
    have hu := hr.units
    exact (qss_one (qs_ret (q_and (q_call G_are_between hG (hr.mono (by decide)) (by rfl) A_are_between.m A_are_between.F.kp A_are_between.b (qa_d (qv 1) (qa_d q_int (qa_d (q_sub (qv 0) q_int) qa_nil)))) (q_one (q_le (q_lenN 1 (by rfl) T.b_len) (q_gint (by rfl) T.c_MOST_CARDS))))))) hread
theorem dv_is_order_value (T : Txt K mg)
    {f_are_between : Addr} {fd_are_between : FuncData} {S_are_between : PSpec} (A_are_between : At K mg "are_between" ["thing", "least", "most"] (top 12) f_are_between fd_are_between) (G_are_between : FnG P w K mg base 3 f_are_between fd_are_between ["thing", "least", "most"] S_are_between) {S : PSpec}
    {f : Addr} {fd : FuncData} (F : Fun K "is_order_value" "is_order_value" (top 15) f fd) (len : ∀ as R, S as R → as.length = 2)
    (hread : ∀ as R, S as R → (t_is_order_value S_are_between) { nx := fun _ => R .none, rt := R } (enOf as 0)) : FnG P w K mg base 4 f fd ["many", "thing"] S :=
  FnG.of F sc_is_order_value len (t := t_is_order_value S_are_between) (fun cdv A outer s H hG hr => by
    have hu := hr.units
    exact (qss_one (qs_ret (q_and (q_call G_are_between hG (hr.mono (by decide)) (by rfl) A_are_between.m A_are_between.F.kp A_are_between.b (qa_d (qv 1) (qa_d q_int (qa_d (q_sub (qv 0) q_int) qa_nil)))) (q_and (q_eq hu (q_lenN 1 (by rfl) T.b_len) (qv 0)) (q_one (q_eq hu (q_lenSet (by rfl) T.b_len (by rfl) T.b_set (qv 1)) (qv 0)))))))) hread
theorem dv_is_lot_value (T : Txt K mg)
    {f_is_integer : Addr} {fd_is_integer : FuncData} {S_is_integer : PSpec} (A_is_integer : At K mg "is_integer" ["thing"] (top 10) f_is_integer fd_is_integer) (G_is_integer : FnG P w K mg base 1 f_is_integer fd_is_integer ["thing"] S_is_integer)
    {f_are_between : Addr} {fd_are_between : FuncData} {S_are_between : PSpec} (A_are_between : At K mg "are_between" ["thing", "least", "most"] (top 12) f_are_between fd_are_between) (G_are_between : FnG P w K mg base 3 f_are_between fd_are_between ["thing", "least", "most"] S_are_between) {S : PSpec}
    {f : Addr} {fd : FuncData} (F : Fun K "is_lot_value" "is_lot_value" (top 16) f fd) (len : ∀ as R, S as R → as.length = 1)
    (hread : ∀ as R, S as R → (t_is_lot_value S_is_integer S_are_between) { nx := fun _ => R .none, rt := R } (enOf as 2)) : FnG P w K mg base 4 f fd ["thing"] S :=
  FnG.of F sc_is_lot_value len (t := t_is_lot_value S_is_integer S_are_between) (fun cdv A outer s H hG hr => by
    have hu := hr.units
    exact (qss_cons (qs_if (QW.qt (qw_or (qt_not (q_tst (q_isi kb_tup (by rfl) (by rfl) T.b_isinstance (by rfl) T.b_tuple (qv 0)))) (qw_or (q_tne hu (q_lenN 0 (by rfl) T.b_len) q_int) (qw_or (qt_not (q_tst (q_call G_is_integer hG (hr.mono (by decide)) (by rfl) A_is_integer.m A_is_integer.F.kp A_is_integer.b (qa_d (q_ixN 0 q_int) qa_nil)))) (qw_or1 (q_tnin (q_ixN 0 q_int) (q_tup (qd_cons q_int (qd_cons (q_neg q_int) qd_nil))))))))) (qss_one (qs_ret q_bl)) qss_nil)
      (qss_cons (qs_set 1 sc_is_lot_value.nd (q_ixN 0 q_int))
      (qss_cons (qs_if (QW.qt (qw_or (qt_not (q_tst (q_call G_are_between hG (hr.mono (by decide)) (by rfl) A_are_between.m A_are_between.F.kp A_are_between.b (qa_d (qv 1) (qa_d q_int (qa_d (q_sub (q_gint (by rfl) T.c_MOST_SIZE) q_int) qa_nil)))))) (qw_or1 (q_teq hu (qv 1) (q_tup qd_nil))))) (qss_one (qs_ret q_bl)) qss_nil)
      (qss_one (qs_ret (q_all rfl (by rfl) T.b_all (q_frz (ql_lc (own := [("at", 2)]) rfl sc_is_lot_value.nd (qi_range2 (by rfl) T.b_range q_int (q_lenN 1 (by rfl) T.b_len)) (blkOk_by (own := [("at", 2)]) (N := N_is_lot_value) (sc := defScope (top 16)) (by decide +kernel)) (fun _ _ _ _ _ => (qg_name 2 sc_is_lot_value.nd)) (by decide) (fun _ _ _ _ _ => qts_nil) (fun _ _ _ _ _ => (q_lt (q_ixN 1 (q_sub (qv 2) q_int)) (q_ixN 1 (qv 2))))))))))))) hread
theorem dv_is_throw_value (T : Txt K mg)
    {f_is_lot_value : Addr} {fd_is_lot_value : FuncData} {S_is_lot_value : PSpec} (A_is_lot_value : At K mg "is_lot_value" ["thing"] (top 16) f_is_lot_value fd_is_lot_value) (G_is_lot_value : FnG P w K mg base 4 f_is_lot_value fd_is_lot_value ["thing"] S_is_lot_value) {S : PSpec}
    {f : Addr} {fd : FuncData} (F : Fun K "is_throw_value" "is_throw_value" (top 17) f fd) (len : ∀ as R, S as R → as.length = 1)
    (hread : ∀ as R, S as R → (t_is_throw_value S_is_lot_value) { nx := fun _ => R .none, rt := R } (enOf as 4)) : FnG P w K mg base 5 f fd ["thing"] S :=
  FnG.of F sc_is_throw_value len (t := t_is_throw_value S_is_lot_value) (fun cdv A outer s H hG hr => by
    have hu := hr.units
    exact (qss_cons (qs_if (QW.qt (qw_or (qt_not (q_tst (q_isi kb_tup (by rfl) (by rfl) T.b_isinstance (by rfl) T.b_tuple (qv 0)))) (qw_or (q_teq hu (qv 0) (q_tup qd_nil)) (qw_or1 (qt_not (q_tst (q_all rfl (by rfl) T.b_all (q_frz (ql_lc (own := [("part", 4)]) rfl sc_is_throw_value.nd (qi_e (qv 0)) (blkOk_by (own := [("part", 4)]) (N := N_is_throw_value) (sc := defScope (top 17)) (by decide +kernel)) (fun _ _ _ _ _ => (qg_name 4 sc_is_throw_value.nd)) (by decide) (fun _ _ _ _ _ => qts_nil) (fun _ _ _ _ _ => (q_call G_is_lot_value hG (hr.mono (by decide)) (by rfl) A_is_lot_value.m A_is_lot_value.F.kp A_is_lot_value.b (qa_d (qv 4) qa_nil)))))))))))) (qss_one (qs_ret q_bl)) qss_nil)
      (qss_cons (qs_setL 1 sc_is_throw_value.nd (ql_lst qd_nil))
      (qss_cons (qs_for PassesOwn.never rfl (qi_e (qv 0)) (qg_tup rfl (qgs_cons (qg_name 2 sc_is_throw_value.nd) (qgs_cons (qg_name 3 sc_is_throw_value.nd) qgs_nil))) (qss_one (qs_expr (q_extend 1 (qv 2)))))
      (qss_one (qs_ret (q_eq hu (q_sorted (by rfl) T.b_sorted (qv 1)) (q_frz (ql_listRg1 rfl (by rfl) T.b_list (by rfl) T.b_range (q_lenN 1 (by rfl) T.b_len)))))))))) hread
theorem dv_need_size (T : Txt K mg)
    {f_is_size : Addr} {fd_is_size : FuncData} {S_is_size : PSpec} (A_is_size : At K mg "is_size" ["thing"] (top 13) f_is_size fd_is_size) (G_is_size : FnG P w K mg base 3 f_is_size fd_is_size ["thing"] S_is_size) {S : PSpec}
    {f : Addr} {fd : FuncData} (F : Fun K "need_size" "need_size" (top 19) f fd) (len : ∀ as R, S as R → as.length = 1)
    (hread : ∀ as R, S as R → (t_need_size S_is_size) { nx := fun _ => R .none, rt := R } (enOf as 0)) : FnG P w K mg base 4 f fd ["size"] S :=
  FnG.of F sc_need_size len (t := t_need_size S_is_size) (fun cdv A outer s H hG hr => by
    have hu := hr.units
    exact (qss_one (qs_if (qt_not (q_tst (q_call G_is_size hG (hr.mono (by decide)) (by rfl) A_is_size.m A_is_size.F.kp A_is_size.b (qa_d (qv 0) qa_nil)))) (qss_one qs_never) qss_nil))) hread
theorem dv_need_deck (T : Txt K mg)
    {f_is_deck_value : Addr} {fd_is_deck_value : FuncData} {S_is_deck_value : PSpec} (A_is_deck_value : At K mg "is_deck_value" ["size", "thing"] (top 14) f_is_deck_value fd_is_deck_value) (G_is_deck_value : FnG P w K mg base 4 f_is_deck_value fd_is_deck_value ["size", "thing"] S_is_deck_value) {S : PSpec}
    {f : Addr} {fd : FuncData} (F : Fun K "need_deck" "need_deck" (top 20) f fd) (len : ∀ as R, S as R → as.length = 2)
    (hread : ∀ as R, S as R → (t_need_deck S_is_deck_value) { nx := fun _ => R .none, rt := R } (enOf as 0)) : FnG P w K mg base 5 f fd ["size", "deck"] S :=
  FnG.of F sc_need_deck len (t := t_need_deck S_is_deck_value) (fun cdv A outer s H hG hr => by
    have hu := hr.units
    exact (qss_one (qs_if (qt_not (q_tst (q_call G_is_deck_value hG (hr.mono (by decide)) (by rfl) A_is_deck_value.m A_is_deck_value.F.kp A_is_deck_value.b (qa_d (qv 0) (qa_d (qv 1) qa_nil))))) (qss_one qs_never) qss_nil))) hread
theorem dv_need_throw (T : Txt K mg)
    {f_is_throw_value : Addr} {fd_is_throw_value : FuncData} {S_is_throw_value : PSpec} (A_is_throw_value : At K mg "is_throw_value" ["thing"] (top 17) f_is_throw_value fd_is_throw_value) (G_is_throw_value : FnG P w K mg base 5 f_is_throw_value fd_is_throw_value ["thing"] S_is_throw_value) {S : PSpec}
    {f : Addr} {fd : FuncData} (F : Fun K "need_throw" "need_throw" (top 21) f fd) (len : ∀ as R, S as R → as.length = 1)
    (hread : ∀ as R, S as R → (t_need_throw S_is_throw_value) { nx := fun _ => R .none, rt := R } (enOf as 0)) : FnG P w K mg base 6 f fd ["throw"] S :=
  FnG.of F sc_need_throw len (t := t_need_throw S_is_throw_value) (fun cdv A outer s H hG hr => by
    have hu := hr.units
    exact (qss_one (qs_if (qt_not (q_tst (q_call G_is_throw_value hG (hr.mono (by decide)) (by rfl) A_is_throw_value.m A_is_throw_value.F.kp A_is_throw_value.b (qa_d (qv 0) qa_nil)))) (qss_one qs_never) qss_nil))) hread
theorem dv_need_order (T : Txt K mg)
    {f_is_order_value : Addr} {fd_is_order_value : FuncData} {S_is_order_value : PSpec} (A_is_order_value : At K mg "is_order_value" ["many", "thing"] (top 15) f_is_order_value fd_is_order_value) (G_is_order_value : FnG P w K mg base 4 f_is_order_value fd_is_order_value ["many", "thing"] S_is_order_value) {S : PSpec}
    {f : Addr} {fd : FuncData} (F : Fun K "need_order" "need_order" (top 22) f fd) (len : ∀ as R, S as R → as.length = 2)
    (hread : ∀ as R, S as R → (t_need_order S_is_order_value) { nx := fun _ => R .none, rt := R } (enOf as 0)) : FnG P w K mg base 5 f fd ["many", "order"] S :=
  FnG.of F sc_need_order len (t := t_need_order S_is_order_value) (fun cdv A outer s H hG hr => by
    have hu := hr.units
    exact (qss_one (qs_if (qt_not (q_tst (q_call G_is_order_value hG (hr.mono (by decide)) (by rfl) A_is_order_value.m A_is_order_value.F.kp A_is_order_value.b (qa_d (qv 0) (qa_d (qv 1) qa_nil))))) (qss_one qs_never) qss_nil))) hread
theorem dv_need_number (T : Txt K mg)
    {f_is_integer : Addr} {fd_is_integer : FuncData} {S_is_integer : PSpec} (A_is_integer : At K mg "is_integer" ["thing"] (top 10) f_is_integer fd_is_integer) (G_is_integer : FnG P w K mg base 1 f_is_integer fd_is_integer ["thing"] S_is_integer) {S : PSpec}
    {f : Addr} {fd : FuncData} (F : Fun K "need_number" "need_number" (top 23) f fd) (len : ∀ as R, S as R → as.length = 1)
    (hread : ∀ as R, S as R → (t_need_number S_is_integer) { nx := fun _ => R .none, rt := R } (enOf as 0)) : FnG P w K mg base 2 f fd ["number"] S :=
  FnG.of F sc_need_number len (t := t_need_number S_is_integer) (fun cdv A outer s H hG hr => by
    have hu := hr.units
    exact (qss_one (qs_if (QW.qt (qw_or (qt_not (q_tst (q_call G_is_integer hG (hr.mono (by decide)) (by rfl) A_is_integer.m A_is_integer.F.kp A_is_integer.b (qa_d (qv 0) qa_nil)))) (qw_or1 (q_tlt (qv 0) q_int)))) (qss_one qs_never) qss_nil))) hread
theorem dv_is_deck (T : Txt K mg)
    {f_need_size : Addr} {fd_need_size : FuncData} {S_need_size : PSpec} (A_need_size : At K mg "need_size" ["size"] (top 19) f_need_size fd_need_size) (G_need_size : FnG P w K mg base 4 f_need_size fd_need_size ["size"] S_need_size)
    {f_is_deck_value : Addr} {fd_is_deck_value : FuncData} {S_is_deck_value : PSpec} (A_is_deck_value : At K mg "is_deck_value" ["size", "thing"] (top 14) f_is_deck_value fd_is_deck_value) (G_is_deck_value : FnG P w K mg base 4 f_is_deck_value fd_is_deck_value ["size", "thing"] S_is_deck_value) {S : PSpec}
    {f : Addr} {fd : FuncData} (F : Fun K "is_deck" "is_deck" (top 25) f fd) (len : ∀ as R, S as R → as.length = 2)
    (hread : ∀ as R, S as R → (t_is_deck S_need_size S_is_deck_value) { nx := fun _ => R .none, rt := R } (enOf as 0)) : FnG P w K mg base 5 f fd ["size", "thing"] S :=
  FnG.of F sc_is_deck len (t := t_is_deck S_need_size S_is_deck_value) (fun cdv A outer s H hG hr => by
    have hu := hr.units
    exact (qss_cons (qs_expr (q_call G_need_size hG (hr.mono (by decide)) (by rfl) A_need_size.m A_need_size.F.kp A_need_size.b (qa_d (qv 0) qa_nil)))
      (qss_one (qs_ret (q_call G_is_deck_value hG (hr.mono (by decide)) (by rfl) A_is_deck_value.m A_is_deck_value.F.kp A_is_deck_value.b (qa_d (qv 0) (qa_d (qv 1) qa_nil))))))) hread
theorem dv_is_order (T : Txt K mg)
    {f_need_number : Addr} {fd_need_number : FuncData} {S_need_number : PSpec} (A_need_number : At K mg "need_number" ["number"] (top 23) f_need_number fd_need_number) (G_need_number : FnG P w K mg base 2 f_need_number fd_need_number ["number"] S_need_number)
    {f_is_order_value : Addr} {fd_is_order_value : FuncData} {S_is_order_value : PSpec} (A_is_order_value : At K mg "is_order_value" ["many", "thing"] (top 15) f_is_order_value fd_is_order_value) (G_is_order_value : FnG P w K mg base 4 f_is_order_value fd_is_order_value ["many", "thing"] S_is_order_value) {S : PSpec}
    {f : Addr} {fd : FuncData} (F : Fun K "is_order" "is_order" (top 26) f fd) (len : ∀ as R, S as R → as.length = 2)
    (hread : ∀ as R, S as R → (t_is_order S_need_number S_is_order_value) { nx := fun _ => R .none, rt := R } (enOf as 0)) : FnG P w K mg base 5 f fd ["n", "thing"] S :=
  FnG.of F sc_is_order len (t := t_is_order S_need_number S_is_order_value) (fun cdv A outer s H hG hr => by
    have hu := hr.units
    exact (qss_cons (qs_expr (q_call G_need_number hG (hr.mono (by decide)) (by rfl) A_need_number.m A_need_number.F.kp A_need_number.b (qa_d (qv 0) qa_nil)))
      (qss_one (qs_ret (q_call G_is_order_value hG (hr.mono (by decide)) (by rfl) A_is_order_value.m A_is_order_value.F.kp A_is_order_value.b (qa_d (qv 0) (qa_d (qv 1) qa_nil))))))) hread
theorem dv_need_some_order (T : Txt K mg)
    {f_is_order_value : Addr} {fd_is_order_value : FuncData} {S_is_order_value : PSpec} (A_is_order_value : At K mg "is_order_value" ["many", "thing"] (top 15) f_is_order_value fd_is_order_value) (G_is_order_value : FnG P w K mg base 4 f_is_order_value fd_is_order_value ["many", "thing"] S_is_order_value) {S : PSpec}
    {f : Addr} {fd : FuncData} (F : Fun K "need_some_order" "need_some_order" (top 27) f fd) (len : ∀ as R, S as R → as.length = 1)
    (hread : ∀ as R, S as R → (t_need_some_order S_is_order_value) { nx := fun _ => R .none, rt := R } (enOf as 0)) : FnG P w K mg base 5 f fd ["order"] S :=
  FnG.of F sc_need_some_order len (t := t_need_some_order S_is_order_value) (fun cdv A outer s H hG hr => by
    have hu := hr.units
    exact (qss_one (qs_if (QW.qt (qw_or (qt_not (q_tst (q_isi kb_tup (by rfl) (by rfl) T.b_isinstance (by rfl) T.b_tuple (qv 0)))) (qw_or (q_tgt (q_lenN 0 (by rfl) T.b_len) (q_gint (by rfl) T.c_MOST_CARDS)) (qw_or1 (qt_not (q_tst (q_call G_is_order_value hG (hr.mono (by decide)) (by rfl) A_is_order_value.m A_is_order_value.F.kp A_is_order_value.b (qa_d (q_lenN 0 (by rfl) T.b_len) (qa_d (qv 0) qa_nil))))))))) (qss_one qs_never) qss_nil))) hread
theorem dv_raw_laid (T : Txt K mg) {S : PSpec}
    {f : Addr} {fd : FuncData} (F : Fun K "raw_laid" "raw_laid" (top 28) f fd) (len : ∀ as R, S as R → as.length = 2)
    (hread : ∀ as R, S as R → (t_raw_laid) { nx := fun _ => R .none, rt := R } (enOf as 1)) : FnG P w K mg base 1 f fd ["deck", "order"] S :=
  FnG.of F sc_raw_laid len (t := t_raw_laid) (fun cdv A outer s H hG hr => by
    have hu := hr.units
    exact (qss_one (qs_ret (q_tuple (by rfl) T.b_tuple (q_frz (ql_lc (own := [("card", 2)]) rfl sc_raw_laid.nd (qi_e (qv 1)) (blkOk_by (own := [("card", 2)]) (N := N_raw_laid) (sc := defScope (top 28)) (by decide +kernel)) (fun _ _ _ _ _ => (qg_name 2 sc_raw_laid.nd)) (by decide) (fun _ _ _ _ _ => qts_nil) (fun _ _ _ _ _ => (q_ixN 0 (qv 2))))))))) hread
theorem dv_laid (T : Txt K mg)
    {f_need_deck : Addr} {fd_need_deck : FuncData} {S_need_deck : PSpec} (A_need_deck : At K mg "need_deck" ["size", "deck"] (top 20) f_need_deck fd_need_deck) (G_need_deck : FnG P w K mg base 5 f_need_deck fd_need_deck ["size", "deck"] S_need_deck)
    {f_need_order : Addr} {fd_need_order : FuncData} {S_need_order : PSpec} (A_need_order : At K mg "need_order" ["many", "order"] (top 22) f_need_order fd_need_order) (G_need_order : FnG P w K mg base 5 f_need_order fd_need_order ["many", "order"] S_need_order)
    {f_raw_laid : Addr} {fd_raw_laid : FuncData} {S_raw_laid : PSpec} (A_raw_laid : At K mg "raw_laid" ["deck", "order"] (top 28) f_raw_laid fd_raw_laid) (G_raw_laid : FnG P w K mg base 1 f_raw_laid fd_raw_laid ["deck", "order"] S_raw_laid) {S : PSpec}
    {f : Addr} {fd : FuncData} (F : Fun K "laid" "laid" (top 29) f fd) (len : ∀ as R, S as R → as.length = 2)
    (hread : ∀ as R, S as R → (t_laid S_need_deck S_need_order S_raw_laid) { nx := fun _ => R .none, rt := R } (enOf as 0)) : FnG P w K mg base 6 f fd ["deck", "order"] S :=
  FnG.of F sc_laid len (t := t_laid S_need_deck S_need_order S_raw_laid) (fun cdv A outer s H hG hr => by
    have hu := hr.units
    exact (qss_cons (qs_expr (q_call G_need_deck hG (hr.mono (by decide)) (by rfl) A_need_deck.m A_need_deck.F.kp A_need_deck.b (qa_d (q_gint (by rfl) T.c_MOST_SIZE) (qa_d (qv 0) qa_nil))))
      (qss_cons (qs_expr (q_call G_need_order hG (hr.mono (by decide)) (by rfl) A_need_order.m A_need_order.F.kp A_need_order.b (qa_d (q_lenN 0 (by rfl) T.b_len) (qa_d (qv 1) qa_nil))))
      (qss_one (qs_ret (q_call G_raw_laid hG (hr.mono (by decide)) (by rfl) A_raw_laid.m A_raw_laid.F.kp A_raw_laid.b (qa_d (qv 0) (qa_d (qv 1) qa_nil)))))))) hread
theorem dv_together (T : Txt K mg)
    {f_need_some_order : Addr} {fd_need_some_order : FuncData} {S_need_some_order : PSpec} (A_need_some_order : At K mg "need_some_order" ["order"] (top 27) f_need_some_order fd_need_some_order) (G_need_some_order : FnG P w K mg base 5 f_need_some_order fd_need_some_order ["order"] S_need_some_order)
    {f_need_order : Addr} {fd_need_order : FuncData} {S_need_order : PSpec} (A_need_order : At K mg "need_order" ["many", "order"] (top 22) f_need_order fd_need_order) (G_need_order : FnG P w K mg base 5 f_need_order fd_need_order ["many", "order"] S_need_order)
    {f_raw_laid : Addr} {fd_raw_laid : FuncData} {S_raw_laid : PSpec} (A_raw_laid : At K mg "raw_laid" ["deck", "order"] (top 28) f_raw_laid fd_raw_laid) (G_raw_laid : FnG P w K mg base 1 f_raw_laid fd_raw_laid ["deck", "order"] S_raw_laid) {S : PSpec}
    {f : Addr} {fd : FuncData} (F : Fun K "together" "together" (top 30) f fd) (len : ∀ as R, S as R → as.length = 2)
    (hread : ∀ as R, S as R → (t_together S_need_some_order S_need_order S_raw_laid) { nx := fun _ => R .none, rt := R } (enOf as 0)) : FnG P w K mg base 6 f fd ["one", "other"] S :=
  FnG.of F sc_together len (t := t_together S_need_some_order S_need_order S_raw_laid) (fun cdv A outer s H hG hr => by
    have hu := hr.units
    exact (qss_cons (qs_expr (q_call G_need_some_order hG (hr.mono (by decide)) (by rfl) A_need_some_order.m A_need_some_order.F.kp A_need_some_order.b (qa_d (qv 0) qa_nil)))
      (qss_cons (qs_expr (q_call G_need_order hG (hr.mono (by decide)) (by rfl) A_need_order.m A_need_order.F.kp A_need_order.b (qa_d (q_lenN 0 (by rfl) T.b_len) (qa_d (qv 1) qa_nil))))
      (qss_one (qs_ret (q_call G_raw_laid hG (hr.mono (by decide)) (by rfl) A_raw_laid.m A_raw_laid.F.kp A_raw_laid.b (qa_d (qv 0) (qa_d (qv 1) qa_nil)))))))) hread
theorem dv_undone_order (T : Txt K mg)
    {f_need_some_order : Addr} {fd_need_some_order : FuncData} {S_need_some_order : PSpec} (A_need_some_order : At K mg "need_some_order" ["order"] (top 27) f_need_some_order fd_need_some_order) (G_need_some_order : FnG P w K mg base 5 f_need_some_order fd_need_some_order ["order"] S_need_some_order) {S : PSpec}
    {f : Addr} {fd : FuncData} (F : Fun K "undone_order" "undone_order" (top 31) f fd) (len : ∀ as R, S as R → as.length = 1)
    (hread : ∀ as R, S as R → (t_undone_order S_need_some_order) { nx := fun _ => R .none, rt := R } (enOf as 3)) : FnG P w K mg base 6 f fd ["order"] S :=
  FnG.of F sc_undone_order len (t := t_undone_order S_need_some_order) (fun cdv A outer s H hG hr => by
    have hu := hr.units
    exact (qss_cons (qs_expr (q_call G_need_some_order hG (hr.mono (by decide)) (by rfl) A_need_some_order.m A_need_some_order.F.kp A_need_some_order.b (qa_d (qv 0) qa_nil)))
      (qss_cons (qs_setL 1 sc_undone_order.nd (ql_rep (q_frz (ql_lst (qd_cons q_int qd_nil))) (q_lenN 0 (by rfl) T.b_len)))
      (qss_cons (qs_for PassesOwn.never rfl (qi_enum (by rfl) T.b_enumerate (qv 0)) (qg_tup rfl (qgs_cons (qg_name 2 sc_undone_order.nd) (qgs_cons (qg_name 3 sc_undone_order.nd) qgs_nil))) (qss_one (qs_setIx 1 (qv 2) (qv 3))))
      (qss_one (qs_ret (q_tuple (by rfl) T.b_tuple (qv 1)))))))) hread
theorem dv_opposite (T : Txt K mg)
    {f_need_some_order : Addr} {fd_need_some_order : FuncData} {S_need_some_order : PSpec} (A_need_some_order : At K mg "need_some_order" ["order"] (top 27) f_need_some_order fd_need_some_order) (G_need_some_order : FnG P w K mg base 5 f_need_some_order fd_need_some_order ["order"] S_need_some_order) {S : PSpec}
    {f : Addr} {fd : FuncData} (F : Fun K "opposite" "opposite" (top 32) f fd) (len : ∀ as R, S as R → as.length = 1)
    (hread : ∀ as R, S as R → (t_opposite S_need_some_order) { nx := fun _ => R .none, rt := R } (enOf as 0)) : FnG P w K mg base 6 f fd ["order"] S :=
  FnG.of F sc_opposite len (t := t_opposite S_need_some_order) (fun cdv A outer s H hG hr => by
    have hu := hr.units
    exact (qss_cons (qs_expr (q_call G_need_some_order hG (hr.mono (by decide)) (by rfl) A_need_some_order.m A_need_some_order.F.kp A_need_some_order.b (qa_d (qv 0) qa_nil)))
      (qss_one (qs_ret (q_rev (qv 0)))))) hread
theorem dv_counts_of (T : Txt K mg)
    {f_need_size : Addr} {fd_need_size : FuncData} {S_need_size : PSpec} (A_need_size : At K mg "need_size" ["size"] (top 19) f_need_size fd_need_size) (G_need_size : FnG P w K mg base 4 f_need_size fd_need_size ["size"] S_need_size)
    {f_need_deck : Addr} {fd_need_deck : FuncData} {S_need_deck : PSpec} (A_need_deck : At K mg "need_deck" ["size", "deck"] (top 20) f_need_deck fd_need_deck) (G_need_deck : FnG P w K mg base 5 f_need_deck fd_need_deck ["size", "deck"] S_need_deck) {S : PSpec}
    {f : Addr} {fd : FuncData} (F : Fun K "counts_of" "counts_of" (top 33) f fd) (len : ∀ as R, S as R → as.length = 2)
    (hread : ∀ as R, S as R → (t_counts_of S_need_size S_need_deck) { nx := fun _ => R .none, rt := R } (enOf as 2)) : FnG P w K mg base 6 f fd ["size", "deck"] S :=
  FnG.of F sc_counts_of len (t := t_counts_of S_need_size S_need_deck) (fun cdv A outer s H hG hr => by
    have hu := hr.units
    exact (qss_cons (qs_expr (q_call G_need_size hG (hr.mono (by decide)) (by rfl) A_need_size.m A_need_size.F.kp A_need_size.b (qa_d (qv 0) qa_nil)))
      (qss_cons (qs_expr (q_call G_need_deck hG (hr.mono (by decide)) (by rfl) A_need_deck.m A_need_deck.F.kp A_need_deck.b (qa_d (qv 0) (qa_d (qv 1) qa_nil))))
      (qss_one (qs_ret (q_tuple (by rfl) T.b_tuple (q_frz (ql_lc (own := [("kind", 2)]) rfl sc_counts_of.nd (qi_range1 (by rfl) T.b_range (qv 0)) (blkOk_by (own := [("kind", 2)]) (N := N_counts_of) (sc := defScope (top 33)) (by decide +kernel)) (fun _ _ _ _ _ => (qg_name 2 sc_counts_of.nd)) (by decide) (fun _ _ _ _ _ => qts_nil) (fun _ _ _ _ _ => (q_len (by rfl) T.b_len (q_frz (ql_lc (own := [("card", 3)]) rfl sc_counts_of.nd (qi_e (qv 1)) (blkIn (own := [("card", 3)]) (N := N_counts_of) (by decide +kernel)) (fun _ _ _ _ _ => (qg_name 3 sc_counts_of.nd)) (by decide) (fun _ _ _ _ _ => (qts_one (q_teq hu (qv 3) (qv 2)))) (fun _ _ _ _ _ => q_int))))))))))))) hread
theorem dv_raw_size (T : Txt K mg) {S : PSpec}
    {f : Addr} {fd : FuncData} (F : Fun K "raw_size" "raw_size" (top 35) f fd) (len : ∀ as R, S as R → as.length = 1)
    (hread : ∀ as R, S as R → (t_raw_size) { nx := fun _ => R .none, rt := R } (enOf as 2)) : FnG P w K mg base 1 f fd ["throw"] S :=
  FnG.of F sc_raw_size len (t := t_raw_size) (fun cdv A outer s H hG hr => by
    have hu := hr.units
    exact (qss_one (qs_ret (q_sum rfl (by rfl) T.b_sum (q_frz (ql_lc (own := [("lot", 1), ("sign", 2)]) rfl sc_raw_size.nd (qi_e (qv 0)) (blkOk_by (own := [("lot", 1), ("sign", 2)]) (N := N_raw_size) (sc := defScope (top 35)) (by decide +kernel)) (fun _ _ _ _ _ => (qg_tup rfl (qgs_cons (qg_name 1 sc_raw_size.nd) (qgs_cons (qg_name 2 sc_raw_size.nd) qgs_nil)))) (by decide) (fun _ _ _ _ _ => qts_nil) (fun _ _ _ _ _ => (q_lenN 1 (by rfl) T.b_len)))))))) hread
theorem dv_raw_order (T : Txt K mg) {S : PSpec}
    {f : Addr} {fd : FuncData} (F : Fun K "raw_order" "raw_order" (top 36) f fd) (len : ∀ as R, S as R → as.length = 2)
    (hread : ∀ as R, S as R → (t_raw_order) { nx := fun _ => R .none, rt := R } (enOf as 6)) : FnG P w K mg base 1 f fd ["throw", "deck"] S :=
  FnG.of F sc_raw_order len (t := t_raw_order) (fun cdv A outer s H hG hr => by
    have hu := hr.units
    exact (qss_cons (qs_setL 2 sc_raw_order.nd (ql_lst qd_nil))
      (qss_cons (qs_for PassesOwn.never rfl (qi_e (qv 0)) (qg_tup rfl (qgs_cons (qg_name 3 sc_raw_order.nd) (qgs_cons (qg_name 4 sc_raw_order.nd) qgs_nil))) (qss_cons (qs_setLc 5 (own := [("card", 6), ("kind", 7)]) rfl sc_raw_order.nd rfl (sw_true rfl rfl rfl (by decide +kernel)) (qi_enum (by rfl) T.b_enumerate (qv 1)) (blkOk_by (own := [("card", 6), ("kind", 7)]) (N := N_raw_order) (sc := defScope (top 36)) (by decide +kernel)) (fun _ _ _ _ _ => (qg_tup rfl (qgs_cons (qg_name 6 sc_raw_order.nd) (qgs_cons (qg_name 7 sc_raw_order.nd) qgs_nil)))) (by decide) (fun _ _ _ _ _ => (qts_one (q_tin (qv 7) (qv 3)))) (fun _ _ _ _ _ => (qv 6)))
      (qss_one (qs_expr (q_extend 2 (q_ifExp (q_teq hu (qv 4) q_int) (qv 5) (q_rev (qv 5))))))))
      (qss_one (qs_ret (q_tuple (by rfl) T.b_tuple (qv 2))))))) hread
theorem dv_order_after (T : Txt K mg)
    {f_need_throw : Addr} {fd_need_throw : FuncData} {S_need_throw : PSpec} (A_need_throw : At K mg "need_throw" ["throw"] (top 21) f_need_throw fd_need_throw) (G_need_throw : FnG P w K mg base 6 f_need_throw fd_need_throw ["throw"] S_need_throw)
    {f_need_deck : Addr} {fd_need_deck : FuncData} {S_need_deck : PSpec} (A_need_deck : At K mg "need_deck" ["size", "deck"] (top 20) f_need_deck fd_need_deck) (G_need_deck : FnG P w K mg base 5 f_need_deck fd_need_deck ["size", "deck"] S_need_deck)
    {f_raw_size : Addr} {fd_raw_size : FuncData} {S_raw_size : PSpec} (A_raw_size : At K mg "raw_size" ["throw"] (top 35) f_raw_size fd_raw_size) (G_raw_size : FnG P w K mg base 1 f_raw_size fd_raw_size ["throw"] S_raw_size)
    {f_raw_order : Addr} {fd_raw_order : FuncData} {S_raw_order : PSpec} (A_raw_order : At K mg "raw_order" ["throw", "deck"] (top 36) f_raw_order fd_raw_order) (G_raw_order : FnG P w K mg base 1 f_raw_order fd_raw_order ["throw", "deck"] S_raw_order) {S : PSpec}
    {f : Addr} {fd : FuncData} (F : Fun K "order_after" "order_after" (top 37) f fd) (len : ∀ as R, S as R → as.length = 2)
    (hread : ∀ as R, S as R → (t_order_after S_need_throw S_need_deck S_raw_size S_raw_order) { nx := fun _ => R .none, rt := R } (enOf as 0)) : FnG P w K mg base 7 f fd ["throw", "deck"] S :=
  FnG.of F sc_order_after len (t := t_order_after S_need_throw S_need_deck S_raw_size S_raw_order) (fun cdv A outer s H hG hr => by
    have hu := hr.units
    exact (qss_cons (qs_expr (q_call G_need_throw hG (hr.mono (by decide)) (by rfl) A_need_throw.m A_need_throw.F.kp A_need_throw.b (qa_d (qv 0) qa_nil)))
      (qss_cons (qs_expr (q_call G_need_deck hG (hr.mono (by decide)) (by rfl) A_need_deck.m A_need_deck.F.kp A_need_deck.b (qa_d (q_call G_raw_size hG (hr.mono (by decide)) (by rfl) A_raw_size.m A_raw_size.F.kp A_raw_size.b (qa_d (qv 0) qa_nil)) (qa_d (qv 1) qa_nil))))
      (qss_one (qs_ret (q_call G_raw_order hG (hr.mono (by decide)) (by rfl) A_raw_order.m A_raw_order.F.kp A_raw_order.b (qa_d (qv 0) (qa_d (qv 1) qa_nil)))))))) hread
theorem dv_deck_after (T : Txt K mg)
    {f_need_throw : Addr} {fd_need_throw : FuncData} {S_need_throw : PSpec} (A_need_throw : At K mg "need_throw" ["throw"] (top 21) f_need_throw fd_need_throw) (G_need_throw : FnG P w K mg base 6 f_need_throw fd_need_throw ["throw"] S_need_throw)
    {f_need_deck : Addr} {fd_need_deck : FuncData} {S_need_deck : PSpec} (A_need_deck : At K mg "need_deck" ["size", "deck"] (top 20) f_need_deck fd_need_deck) (G_need_deck : FnG P w K mg base 5 f_need_deck fd_need_deck ["size", "deck"] S_need_deck)
    {f_raw_size : Addr} {fd_raw_size : FuncData} {S_raw_size : PSpec} (A_raw_size : At K mg "raw_size" ["throw"] (top 35) f_raw_size fd_raw_size) (G_raw_size : FnG P w K mg base 1 f_raw_size fd_raw_size ["throw"] S_raw_size)
    {f_raw_laid : Addr} {fd_raw_laid : FuncData} {S_raw_laid : PSpec} (A_raw_laid : At K mg "raw_laid" ["deck", "order"] (top 28) f_raw_laid fd_raw_laid) (G_raw_laid : FnG P w K mg base 1 f_raw_laid fd_raw_laid ["deck", "order"] S_raw_laid)
    {f_raw_order : Addr} {fd_raw_order : FuncData} {S_raw_order : PSpec} (A_raw_order : At K mg "raw_order" ["throw", "deck"] (top 36) f_raw_order fd_raw_order) (G_raw_order : FnG P w K mg base 1 f_raw_order fd_raw_order ["throw", "deck"] S_raw_order) {S : PSpec}
    {f : Addr} {fd : FuncData} (F : Fun K "deck_after" "deck_after" (top 38) f fd) (len : ∀ as R, S as R → as.length = 2)
    (hread : ∀ as R, S as R → (t_deck_after S_need_throw S_need_deck S_raw_size S_raw_laid S_raw_order) { nx := fun _ => R .none, rt := R } (enOf as 0)) : FnG P w K mg base 7 f fd ["throw", "deck"] S :=
  FnG.of F sc_deck_after len (t := t_deck_after S_need_throw S_need_deck S_raw_size S_raw_laid S_raw_order) (fun cdv A outer s H hG hr => by
    have hu := hr.units
    exact (qss_cons (qs_expr (q_call G_need_throw hG (hr.mono (by decide)) (by rfl) A_need_throw.m A_need_throw.F.kp A_need_throw.b (qa_d (qv 0) qa_nil)))
      (qss_cons (qs_expr (q_call G_need_deck hG (hr.mono (by decide)) (by rfl) A_need_deck.m A_need_deck.F.kp A_need_deck.b (qa_d (q_call G_raw_size hG (hr.mono (by decide)) (by rfl) A_raw_size.m A_raw_size.F.kp A_raw_size.b (qa_d (qv 0) qa_nil)) (qa_d (qv 1) qa_nil))))
      (qss_one (qs_ret (q_call G_raw_laid hG (hr.mono (by decide)) (by rfl) A_raw_laid.m A_raw_laid.F.kp A_raw_laid.b (qa_d (qv 1) (qa_d (q_call G_raw_order hG (hr.mono (by decide)) (by rfl) A_raw_order.m A_raw_order.F.kp A_raw_order.b (qa_d (qv 0) (qa_d (qv 1) qa_nil))) qa_nil)))))))) hread
theorem dv__law_pick (T : Txt K mg)
    {f__law_draw : Addr} {fd__law_draw : FuncData} {S__law_draw : PSpec} (A__law_draw : At K mg "_law_draw" ["_law_deck_here", "_law_many"] (top 41) f__law_draw fd__law_draw) (G__law_draw : FnG P w K mg base 1 f__law_draw fd__law_draw ["_law_deck_here", "_law_many"] S__law_draw) {S : PSpec}
    {f : Addr} {fd : FuncData} (F : Fun K "_law_pick" "_law_pick" (top 42) f fd) (len : ∀ as R, S as R → as.length = 2)
    (hread : ∀ as R, S as R → (t__law_pick S__law_draw) { nx := fun _ => R .none, rt := R } (enOf as 0)) : FnG P w K mg base 2 f fd ["_law_deck_here", "_law_some"] S :=
  FnG.of F sc__law_pick len (t := t__law_pick S__law_draw) (fun cdv A outer s H hG hr => by
    have hu := hr.units
    exact (qss_one (qs_ret (q_ixN 1 (q_call G__law_draw hG (hr.mono (by decide)) (by rfl) A__law_draw.m A__law_draw.F.kp A__law_draw.b (qa_k 0 (qa_d (q_lenN 1 (by rfl) T.b_len) qa_nil))))))) hread
theorem dv__law_cards (T : Txt K mg)
    {f__law_draw : Addr} {fd__law_draw : FuncData} {S__law_draw : PSpec} (A__law_draw : At K mg "_law_draw" ["_law_deck_here", "_law_many"] (top 41) f__law_draw fd__law_draw) (G__law_draw : FnG P w K mg base 1 f__law_draw fd__law_draw ["_law_deck_here", "_law_many"] S__law_draw) {S : PSpec}
    {f : Addr} {fd : FuncData} (F : Fun K "_law_cards" "_law_cards" (top 43) f fd) (len : ∀ as R, S as R → as.length = 3)
    (hread : ∀ as R, S as R → (t__law_cards S__law_draw) { nx := fun _ => R .none, rt := R } (enOf as 4)) : FnG P w K mg base 2 f fd ["_law_deck_here", "_law_size", "_law_most"] S :=
  FnG.of F sc__law_cards len (t := t__law_cards S__law_draw) (fun cdv A outer s H hG hr => by
    have hu := hr.units
    exact (qss_cons (qs_asg (q_tup (qd_cons (q_call G__law_draw hG (hr.mono (by decide)) (by rfl) A__law_draw.m A__law_draw.F.kp A__law_draw.b (qa_k 0 (qa_d q_int qa_nil))) (qd_cons (q_call G__law_draw hG (hr.mono (by decide)) (by rfl) A__law_draw.m A__law_draw.F.kp A__law_draw.b (qa_k 0 (qa_d (q_addF (qv 2) q_int) qa_nil))) qd_nil))) (qg_tup rfl (qgs_cons (qg_name 3 sc__law_cards.nd) (qgs_cons (qg_name 4 sc__law_cards.nd) qgs_nil))))
      (qss_cons (qs_if (q_teq hu (qv 3) q_int) (qss_one (qs_ret (q_tuple (by rfl) T.b_tuple (q_frz (ql_rep (q_frz (ql_lst (qd_cons (q_call G__law_draw hG (hr.mono (by decide)) (by rfl) A__law_draw.m A__law_draw.F.kp A__law_draw.b (qa_k 0 (qa_d (qv 1) qa_nil))) qd_nil))) (qv 4)))))) qss_nil)
      (qss_cons (qs_set 5 sc__law_cards.nd (q_addF q_int (q_call G__law_draw hG (hr.mono (by decide)) (by rfl) A__law_draw.m A__law_draw.F.kp A__law_draw.b (qa_k 0 (qa_d (qv 1) qa_nil)))))
      (qss_one (qs_ret (q_tuple (by rfl) T.b_tuple (q_frz (ql_lc (own := [("_law_turn", 6)]) rfl sc__law_cards.nd (qi_range1 (by rfl) T.b_range (qv 4)) (blkOk_by (own := [("_law_turn", 6)]) (N := N__law_cards) (sc := defScope (top 43)) (by decide +kernel)) (fun _ _ _ _ _ => (qg_name 6 sc__law_cards.nd)) (by decide) (fun _ _ _ _ _ => qts_nil) (fun _ _ _ _ _ => (q_call G__law_draw hG (hr.mono (by decide)) (by rfl) A__law_draw.m A__law_draw.F.kp A__law_draw.b (qa_k 0 (qa_d (q_ifExp (q_teq hu (qv 3) q_int) (qv 5) (qv 1)) qa_nil))))))))))))) hread
theorem dv__law_order (T : Txt K mg)
    {f__law_draw : Addr} {fd__law_draw : FuncData} {S__law_draw : PSpec} (A__law_draw : At K mg "_law_draw" ["_law_deck_here", "_law_many"] (top 41) f__law_draw fd__law_draw) (G__law_draw : FnG P w K mg base 1 f__law_draw fd__law_draw ["_law_deck_here", "_law_many"] S__law_draw) {S : PSpec}
    {f : Addr} {fd : FuncData} (F : Fun K "_law_order" "_law_order" (top 44) f fd) (len : ∀ as R, S as R → as.length = 2)
    (hread : ∀ as R, S as R → (t__law_order S__law_draw) { nx := fun _ => R .none, rt := R } (enOf as 3)) : FnG P w K mg base 2 f fd ["_law_deck_here", "_law_n"] S :=
  FnG.of F sc__law_order len (t := t__law_order S__law_draw) (fun cdv A outer s H hG hr => by
    have hu := hr.units
    exact (qss_cons (qs_par2 2 3 rfl sc__law_order.nd (qp_o (ql_listRg1 rfl (by rfl) T.b_list (by rfl) T.b_range (qv 1)) (qp_o (ql_lst qd_nil) qp_nil)))
      (qss_cons (qs_for PassesOwn.never rfl (qi_range1 (by rfl) T.b_range (qv 1)) (qg_name 4 sc__law_order.nd) (qss_one (qs_expr (q_append 3 (q_pop1 2 (q_call G__law_draw hG (hr.mono (by decide)) (by rfl) A__law_draw.m A__law_draw.F.kp A__law_draw.b (qa_k 0 (qa_d (q_lenN 2 (by rfl) T.b_len) qa_nil))))))))
      (qss_one (qs_ret (q_tuple (by rfl) T.b_tuple (qv 3))))))) hread
theorem dv__law_throw (T : Txt K mg)
    {f__law_draw : Addr} {fd__law_draw : FuncData} {S__law_draw : PSpec} (A__law_draw : At K mg "_law_draw" ["_law_deck_here", "_law_many"] (top 41) f__law_draw fd__law_draw) (G__law_draw : FnG P w K mg base 1 f__law_draw fd__law_draw ["_law_deck_here", "_law_many"] S__law_draw)
    {f__law_order : Addr} {fd__law_order : FuncData} {S__law_order : PSpec} (A__law_order : At K mg "_law_order" ["_law_deck_here", "_law_n"] (top 44) f__law_order fd__law_order) (G__law_order : FnG P w K mg base 2 f__law_order fd__law_order ["_law_deck_here", "_law_n"] S__law_order)
    {f__law_pick : Addr} {fd__law_pick : FuncData} {S__law_pick : PSpec} (A__law_pick : At K mg "_law_pick" ["_law_deck_here", "_law_some"] (top 42) f__law_pick fd__law_pick) (G__law_pick : FnG P w K mg base 2 f__law_pick fd__law_pick ["_law_deck_here", "_law_some"] S__law_pick) {S : PSpec}
    {f : Addr} {fd : FuncData} (F : Fun K "_law_throw" "_law_throw" (top 45) f fd) (len : ∀ as R, S as R → as.length = 2)
    (hread : ∀ as R, S as R → (t__law_throw S__law_draw S__law_order S__law_pick) { nx := fun _ => R .none, rt := R } (enOf as 8)) : FnG P w K mg base 3 f fd ["_law_deck_here", "_law_size"] S :=
  FnG.of F sc__law_throw len (t := t__law_throw S__law_draw S__law_order S__law_pick) (fun cdv A outer s H hG hr => by
    have hu := hr.units
    exact (qss_cons (qs_asg (q_tup (qd_cons (q_call G__law_draw hG (hr.mono (by decide)) (by rfl) A__law_draw.m A__law_draw.F.kp A__law_draw.b (qa_k 0 (qa_d q_int qa_nil))) (qd_cons (q_addF q_int (q_call G__law_draw hG (hr.mono (by decide)) (by rfl) A__law_draw.m A__law_draw.F.kp A__law_draw.b (qa_k 0 (qa_d (qv 1) qa_nil)))) qd_nil))) (qg_tup rfl (qgs_cons (qg_name 2 sc__law_throw.nd) (qgs_cons (qg_name 3 sc__law_throw.nd) qgs_nil))))
      (qss_cons (qs_if (q_teq hu (qv 2) q_int) (qss_one (qs_set 3 sc__law_throw.nd q_int)) qss_nil)
      (qss_cons (qs_set 4 sc__law_throw.nd (q_ifExp (q_tne hu (qv 2) q_int) (q_frz (ql_lc (own := [("_law_kind", 7)]) rfl sc__law_throw.nd (qi_range1 (by rfl) T.b_range (qv 1)) (blkOk_by (own := [("_law_kind", 7)]) (N := N__law_throw) (sc := defScope (top 45)) (by decide +kernel)) (fun _ _ _ _ _ => (qg_name 7 sc__law_throw.nd)) (by decide) (fun _ _ _ _ _ => qts_nil) (fun _ _ _ _ _ => (q_call G__law_draw hG (hr.mono (by decide)) (by rfl) A__law_draw.m A__law_draw.F.kp A__law_draw.b (qa_k 0 (qa_d (qv 3) qa_nil)))))) (q_frz (ql_list (by rfl) T.b_list (q_call G__law_order hG (hr.mono (by decide)) (by rfl) A__law_order.m A__law_order.F.kp A__law_order.b (qa_k 0 (qa_d (qv 1) qa_nil)))))))
      (qss_cons (qs_setLc 5 (own := [("_law_at", 8)]) rfl sc__law_throw.nd rfl (sw_true rfl rfl rfl (by decide +kernel)) (qi_range1 (by rfl) T.b_range (q_addF (q_max rfl (by rfl) T.b_max (qd_cons (qv 4) qd_nil)) q_int)) (blkOk_by (own := [("_law_at", 8)]) (N := N__law_throw) (sc := defScope (top 45)) (by decide +kernel)) (fun _ _ _ _ _ => (qg_name 8 sc__law_throw.nd)) (by decide) (fun _ _ _ _ _ => qts_nil) (fun _ _ _ _ _ => (q_tuple (by rfl) T.b_tuple (q_frz (ql_lc (own := [("_law_kind", 7)]) rfl sc__law_throw.nd (qi_range1 (by rfl) T.b_range (qv 1)) (blkIn (own := [("_law_kind", 7)]) (N := N__law_throw) (by decide +kernel)) (fun _ _ _ _ _ => (qg_name 7 sc__law_throw.nd)) (by decide) (fun _ _ _ _ _ => (qts_one (q_teq hu (q_ixN 4 (qv 7)) (qv 8)))) (fun _ _ _ _ _ => (qv 7)))))))
      (qss_cons (qs_set 6 sc__law_throw.nd (q_call G__law_pick hG (hr.mono (by decide)) (by rfl) A__law_pick.m A__law_pick.F.kp A__law_pick.b (qa_k 0 (qa_d (q_tup (qd_cons q_int (qd_cons (q_neg q_int) qd_nil))) qa_nil))))
      (qss_one (qs_ret (q_tuple (by rfl) T.b_tuple (q_frz (ql_lc (own := [("_law_lot", 9)]) rfl sc__law_throw.nd (qi_e (qv 5)) (blkOk_by (own := [("_law_lot", 9)]) (N := N__law_throw) (sc := defScope (top 45)) (by decide +kernel)) (fun _ _ _ _ _ => (qg_name 9 sc__law_throw.nd)) (by decide) (fun _ _ _ _ _ => (qts_one (q_tne hu (qv 9) (q_tup qd_nil)))) (fun _ _ _ _ _ => (q_tup (qd_cons (qv 9) (qd_cons (q_ifExp (q_teq hu (qv 2) q_int) (qv 6) (q_call G__law_pick hG (hr.mono (by decide)) (by rfl) A__law_pick.m A__law_pick.F.kp A__law_pick.b (qa_k 0 (qa_d (q_tup (qd_cons q_int (qd_cons (q_neg q_int) qd_nil))) qa_nil)))) qd_nil))))))))))))))) hread
theorem dv__law_after (T : Txt K mg) {S : PSpec}
    {f : Addr} {fd : FuncData} (F : Fun K "_law_after" "_law_after" (top 46) f fd) (len : ∀ as R, S as R → as.length = 2)
    (hread : ∀ as R, S as R → (t__law_after) { nx := fun _ => R .none, rt := R } (enOf as 9)) : FnG P w K mg base 1 f fd ["_law_throw_here", "_law_cards_here"] S :=
  FnG.of F sc__law_after len (t := t__law_after) (fun cdv A outer s H hG hr => by
    have hu := hr.units
    exact (qss_cons (qs_par2 2 3 rfl sc__law_after.nd (qp_dn (qp_o (ql_lc (own := [("_law_lot", 5)]) rfl sc__law_after.nd (qi_e (qv 0)) (blkOk_by (own := [("_law_lot", 5)]) (N := N__law_after) (sc := defScope (top 46)) (by decide +kernel)) (fun _ _ _ _ _ => (qg_name 5 sc__law_after.nd)) (by decide) (fun _ _ _ _ _ => qts_nil) (fun _ _ _ _ _ => (q_frz (ql_lst qd_nil)))) qp_nil)))
      (qss_cons (qs_for PassesOwn.never rfl (qi_enum (by rfl) T.b_enumerate (qv 0)) (qg_tup rfl (qgs_cons (qg_name 4 sc__law_after.nd) (qgs_cons (qg_tup rfl (qgs_cons (qg_name 5 sc__law_after.nd) (qgs_cons (qg_name 6 sc__law_after.nd) qgs_nil))) qgs_nil))) (qss_one (qs_for PassesOwn.never rfl (qi_e (qv 5)) (qg_name 7 sc__law_after.nd) (qss_one (qs_setD 2 hu (qv 4) (qv 7))))))
      (qss_cons (qs_for PassesOwn.never rfl (qi_enum (by rfl) T.b_enumerate (qv 1)) (qg_tup rfl (qgs_cons (qg_name 8 sc__law_after.nd) (qgs_cons (qg_name 7 sc__law_after.nd) qgs_nil))) (qss_cons (qs_set 4 sc__law_after.nd (q_dgetN 2 hu (qv 7)))
      (qss_one (qs_setIx 3 (q_ifExp (q_teq hu (q_ix (q_ixN 0 (qv 4)) q_int) q_int) (q_addF (q_ixN 3 (qv 4)) (q_frz (ql_lst (qd_cons (qv 8) qd_nil)))) (q_addF (q_frz (ql_lst (qd_cons (qv 8) qd_nil))) (q_ixN 3 (qv 4)))) (qv 4)))))
      (qss_cons (qs_setL 9 sc__law_after.nd (ql_lst qd_nil))
      (qss_cons (qs_for PassesOwn.never rfl (qi_e (qv 3)) (qg_name 10 sc__law_after.nd) (qss_one (qs_expr (q_extend 9 (qv 10)))))
      (qss_one (qs_ret (q_tuple (by rfl) T.b_tuple (qv 9)))))))))) hread
theorem dv__law_laid (T : Txt K mg) {S : PSpec}
    {f : Addr} {fd : FuncData} (F : Fun K "_law_laid" "_law_laid" (top 47) f fd) (len : ∀ as R, S as R → as.length = 2)
    (hread : ∀ as R, S as R → (t__law_laid) { nx := fun _ => R .none, rt := R } (enOf as 1)) : FnG P w K mg base 1 f fd ["_law_cards_here", "_law_order_here"] S :=
  FnG.of F sc__law_laid len (t := t__law_laid) (fun cdv A outer s H hG hr => by
    have hu := hr.units
    exact (qss_one (qs_ret (q_tuple (by rfl) T.b_tuple (q_frz (ql_lc (own := [("_law_card", 2)]) rfl sc__law_laid.nd (qi_e (qv 1)) (blkOk_by (own := [("_law_card", 2)]) (N := N__law_laid) (sc := defScope (top 47)) (by decide +kernel)) (fun _ _ _ _ _ => (qg_name 2 sc__law_laid.nd)) (by decide) (fun _ _ _ _ _ => qts_nil) (fun _ _ _ _ _ => (q_ixN 0 (qv 2))))))))) hread
theorem dv__law_together (T : Txt K mg) {S : PSpec}
    {f : Addr} {fd : FuncData} (F : Fun K "_law_together" "_law_together" (top 48) f fd) (len : ∀ as R, S as R → as.length = 2)
    (hread : ∀ as R, S as R → (t__law_together) { nx := fun _ => R .none, rt := R } (enOf as 3)) : FnG P w K mg base 1 f fd ["_law_one", "_law_other"] S :=
  FnG.of F sc__law_together len (t := t__law_together) (fun cdv A outer s H hG hr => by
    have hu := hr.units
    exact (qss_cons (qs_set 2 sc__law_together.nd (q_frz (ql_lc (own := [("_law_card", 3)]) rfl sc__law_together.nd (qi_e (qv 0)) (blkOk_by (own := [("_law_card", 3)]) (N := N__law_together) (sc := defScope (top 48)) (by decide +kernel)) (fun _ _ _ _ _ => (qg_name 3 sc__law_together.nd)) (by decide) (fun _ _ _ _ _ => qts_nil) (fun _ _ _ _ _ => (qv 3)))))
      (qss_one (qs_ret (q_tuple (by rfl) T.b_tuple (q_frz (ql_lc (own := [("_law_at", 4)]) rfl sc__law_together.nd (qi_e (qv 1)) (blkOk_by (own := [("_law_at", 4)]) (N := N__law_together) (sc := defScope (top 48)) (by decide +kernel)) (fun _ _ _ _ _ => (qg_name 4 sc__law_together.nd)) (by decide) (fun _ _ _ _ _ => qts_nil) (fun _ _ _ _ _ => (q_ixN 2 (qv 4)))))))))) hread
theorem dv__law_undone (T : Txt K mg) {S : PSpec}
    {f : Addr} {fd : FuncData} (F : Fun K "_law_undone" "_law_undone" (top 49) f fd) (len : ∀ as R, S as R → as.length = 1)
    (hread : ∀ as R, S as R → (t__law_undone) { nx := fun _ => R .none, rt := R } (enOf as 3)) : FnG P w K mg base 1 f fd ["_law_order_here"] S :=
  FnG.of F sc__law_undone len (t := t__law_undone) (fun cdv A outer s H hG hr => by
    have hu := hr.units
    exact (qss_cons (qs_setL 1 sc__law_undone.nd (ql_rep (q_frz (ql_lst (qd_cons q_int qd_nil))) (q_lenN 0 (by rfl) T.b_len)))
      (qss_cons (qs_for PassesOwn.never rfl (qi_enum (by rfl) T.b_enumerate (qv 0)) (qg_tup rfl (qgs_cons (qg_name 2 sc__law_undone.nd) (qgs_cons (qg_name 3 sc__law_undone.nd) qgs_nil))) (qss_one (qs_setIx 1 (qv 2) (qv 3))))
      (qss_one (qs_ret (q_tuple (by rfl) T.b_tuple (qv 1))))))) hread
theorem dv__law_are_orders_right (T : Txt K mg)
    {f__law_together : Addr} {fd__law_together : FuncData} {S__law_together : PSpec} (A__law_together : At K mg "_law_together" ["_law_one", "_law_other"] (top 48) f__law_together fd__law_together) (G__law_together : FnG P w K mg base 1 f__law_together fd__law_together ["_law_one", "_law_other"] S__law_together)
    {f__law_laid : Addr} {fd__law_laid : FuncData} {S__law_laid : PSpec} (A__law_laid : At K mg "_law_laid" ["_law_cards_here", "_law_order_here"] (top 47) f__law_laid fd__law_laid) (G__law_laid : FnG P w K mg base 1 f__law_laid fd__law_laid ["_law_cards_here", "_law_order_here"] S__law_laid)
    {f_laid : Addr} {fd_laid : FuncData} {S_laid : PSpec} (A_laid : At K mg "laid" ["deck", "order"] (top 29) f_laid fd_laid) (G_laid : FnG P w K mg base 6 f_laid fd_laid ["deck", "order"] S_laid)
    {f_together : Addr} {fd_together : FuncData} {S_together : PSpec} (A_together : At K mg "together" ["one", "other"] (top 30) f_together fd_together) (G_together : FnG P w K mg base 6 f_together fd_together ["one", "other"] S_together)
    {f__law_undone : Addr} {fd__law_undone : FuncData} {S__law_undone : PSpec} (A__law_undone : At K mg "_law_undone" ["_law_order_here"] (top 49) f__law_undone fd__law_undone) (G__law_undone : FnG P w K mg base 1 f__law_undone fd__law_undone ["_law_order_here"] S__law_undone)
    {f_undone_order : Addr} {fd_undone_order : FuncData} {S_undone_order : PSpec} (A_undone_order : At K mg "undone_order" ["order"] (top 31) f_undone_order fd_undone_order) (G_undone_order : FnG P w K mg base 6 f_undone_order fd_undone_order ["order"] S_undone_order)
    {f_opposite : Addr} {fd_opposite : FuncData} {S_opposite : PSpec} (A_opposite : At K mg "opposite" ["order"] (top 32) f_opposite fd_opposite) (G_opposite : FnG P w K mg base 6 f_opposite fd_opposite ["order"] S_opposite)
    {f_is_order : Addr} {fd_is_order : FuncData} {S_is_order : PSpec} (A_is_order : At K mg "is_order" ["n", "thing"] (top 26) f_is_order fd_is_order) (G_is_order : FnG P w K mg base 5 f_is_order fd_is_order ["n", "thing"] S_is_order) {S : PSpec}
    {f : Addr} {fd : FuncData} (F : Fun K "_law_are_orders_right" "_law_are_orders_right" (top 50) f fd) (len : ∀ as R, S as R → as.length = 4)
    (hread : ∀ as R, S as R → (t__law_are_orders_right S__law_together S__law_laid S_laid S_together S__law_undone S_undone_order S_opposite S_is_order) { nx := fun _ => R .none, rt := R } (enOf as 5)) : FnG P w K mg base 7 f fd ["_law_cards_here", "_law_one", "_law_other", "_law_third"] S :=
  FnG.of F sc__law_are_orders_right len (t := t__law_are_orders_right S__law_together S__law_laid S_laid S_together S__law_undone S_undone_order S_opposite S_is_order) (fun cdv A outer s H hG hr => by
    have hu := hr.units
    exact (qss_cons (qs_par2 4 5 rfl sc__law_are_orders_right.nd (qp_d (q_call G__law_laid hG (hr.mono (by decide)) (by rfl) A__law_laid.m A__law_laid.F.kp A__law_laid.b (qa_d (qv 0) (qa_d (qv 1) qa_nil))) (qp_d (q_call G__law_together hG (hr.mono (by decide)) (by rfl) A__law_together.m A__law_together.F.kp A__law_together.b (qa_d (qv 1) (qa_d (qv 2) qa_nil))) qp_nil)))
      (qss_cons (qs_if (q_tne hu (q_repr hG hu (by rfl) T.b_repr (q_tup (qd_cons (q_call G_laid hG (hr.mono (by decide)) (by rfl) A_laid.m A_laid.F.kp A_laid.b (qa_d (qv 0) (qa_d (qv 1) qa_nil))) (qd_cons (q_callK0 G_laid hG (hr.mono (by decide)) (by rfl) A_laid.m A_laid.F.kp (kw_laid_0_order_deck A_laid.F) (qk_d (qv 1) (qk_d (qv 0) qk_nil))) qd_nil)))) (q_repr hG hu (by rfl) T.b_repr (q_tup (qd_cons (qv 4) (qd_cons (qv 4) qd_nil))))) (qss_one (qs_ret q_bl)) qss_nil)
      (qss_cons (qs_if (q_tne hu (q_repr hG hu (by rfl) T.b_repr (q_tup (qd_cons (q_call G_together hG (hr.mono (by decide)) (by rfl) A_together.m A_together.F.kp A_together.b (qa_d (qv 1) (qa_d (qv 2) qa_nil))) (qd_cons (q_callK0 G_together hG (hr.mono (by decide)) (by rfl) A_together.m A_together.F.kp (kw_together_0_other_one A_together.F) (qk_d (qv 2) (qk_d (qv 1) qk_nil))) (qd_cons (q_call G_laid hG (hr.mono (by decide)) (by rfl) A_laid.m A_laid.F.kp A_laid.b (qa_d (qv 0) (qa_d (qv 5) qa_nil))) qd_nil))))) (q_repr hG hu (by rfl) T.b_repr (q_tup (qd_cons (qv 5) (qd_cons (qv 5) (qd_cons (q_call G_laid hG (hr.mono (by decide)) (by rfl) A_laid.m A_laid.F.kp A_laid.b (qa_d (qv 4) (qa_d (qv 2) qa_nil))) qd_nil)))))) (qss_one (qs_ret q_bl)) qss_nil)
      (qss_cons (qs_if (q_tne hu (q_repr hG hu (by rfl) T.b_repr (q_call G_together hG (hr.mono (by decide)) (by rfl) A_together.m A_together.F.kp A_together.b (qa_d (qv 5) (qa_d (qv 3) qa_nil)))) (q_repr hG hu (by rfl) T.b_repr (q_call G_together hG (hr.mono (by decide)) (by rfl) A_together.m A_together.F.kp A_together.b (qa_d (qv 1) (qa_d (q_call G_together hG (hr.mono (by decide)) (by rfl) A_together.m A_together.F.kp A_together.b (qa_d (qv 2) (qa_d (qv 3) qa_nil))) qa_nil))))) (qss_one (qs_ret q_bl)) qss_nil)
      (qss_cons (qs_par3 6 7 8 rfl sc__law_are_orders_right.nd (qp_d (q_tupRg1 rfl (by rfl) T.b_tuple (by rfl) T.b_range (q_lenN 0 (by rfl) T.b_len)) (qp_d (q_call G__law_undone hG (hr.mono (by decide)) (by rfl) A__law_undone.m A__law_undone.F.kp A__law_undone.b (qa_d (qv 1) qa_nil)) (qp_d (q_rev (qv 1)) qp_nil))))
      (qss_cons (qs_if (q_tne hu (q_repr hG hu (by rfl) T.b_repr (q_tup (qd_cons (q_call G_undone_order hG (hr.mono (by decide)) (by rfl) A_undone_order.m A_undone_order.F.kp A_undone_order.b (qa_d (qv 1) qa_nil)) (qd_cons (q_callK0 G_undone_order hG (hr.mono (by decide)) (by rfl) A_undone_order.m A_undone_order.F.kp (kw_undone_order_0_order A_undone_order.F) (qk_d (qv 1) qk_nil)) (qd_cons (q_call G_opposite hG (hr.mono (by decide)) (by rfl) A_opposite.m A_opposite.F.kp A_opposite.b (qa_d (qv 1) qa_nil)) (qd_cons (q_callK0 G_opposite hG (hr.mono (by decide)) (by rfl) A_opposite.m A_opposite.F.kp (kw_opposite_0_order A_opposite.F) (qk_d (qv 1) qk_nil)) qd_nil)))))) (q_repr hG hu (by rfl) T.b_repr (q_tup (qd_cons (qv 7) (qd_cons (qv 7) (qd_cons (qv 8) (qd_cons (qv 8) qd_nil))))))) (qss_one (qs_ret q_bl)) qss_nil)
      (qss_cons (qs_if (q_tne hu (q_repr hG hu (by rfl) T.b_repr (q_tup (qd_cons (q_call G_together hG (hr.mono (by decide)) (by rfl) A_together.m A_together.F.kp A_together.b (qa_d (qv 1) (qa_d (qv 7) qa_nil))) (qd_cons (q_call G_together hG (hr.mono (by decide)) (by rfl) A_together.m A_together.F.kp A_together.b (qa_d (qv 7) (qa_d (qv 1) qa_nil))) (qd_cons (q_call G_together hG (hr.mono (by decide)) (by rfl) A_together.m A_together.F.kp A_together.b (qa_d (qv 1) (qa_d (qv 6) qa_nil))) (qd_cons (q_call G_together hG (hr.mono (by decide)) (by rfl) A_together.m A_together.F.kp A_together.b (qa_d (qv 6) (qa_d (qv 1) qa_nil))) qd_nil)))))) (q_repr hG hu (by rfl) T.b_repr (q_tup (qd_cons (qv 6) (qd_cons (qv 6) (qd_cons (qv 1) (qd_cons (qv 1) qd_nil))))))) (qss_one (qs_ret q_bl)) qss_nil)
      (qss_cons (qs_if (q_tne hu (q_repr hG hu (by rfl) T.b_repr (q_tup (qd_cons (q_call G_opposite hG (hr.mono (by decide)) (by rfl) A_opposite.m A_opposite.F.kp A_opposite.b (qa_d (qv 8) qa_nil)) (qd_cons (q_call G_undone_order hG (hr.mono (by decide)) (by rfl) A_undone_order.m A_undone_order.F.kp A_undone_order.b (qa_d (qv 7) qa_nil)) (qd_cons (q_call G_laid hG (hr.mono (by decide)) (by rfl) A_laid.m A_laid.F.kp A_laid.b (qa_d (qv 4) (qa_d (qv 7) qa_nil))) qd_nil))))) (q_repr hG hu (by rfl) T.b_repr (q_tup (qd_cons (qv 1) (qd_cons (qv 1) (qd_cons (qv 0) qd_nil)))))) (qss_one (qs_ret q_bl)) qss_nil)
      (qss_cons (qs_if (q_tne hu (q_repr hG hu (by rfl) T.b_repr (q_tup (qd_cons (q_call G_together hG (hr.mono (by decide)) (by rfl) A_together.m A_together.F.kp A_together.b (qa_d (qv 1) (qa_d (q_call G_opposite hG (hr.mono (by decide)) (by rfl) A_opposite.m A_opposite.F.kp A_opposite.b (qa_d (qv 6) qa_nil)) qa_nil))) (qd_cons (q_call G_undone_order hG (hr.mono (by decide)) (by rfl) A_undone_order.m A_undone_order.F.kp A_undone_order.b (qa_d (qv 5) qa_nil)) qd_nil)))) (q_repr hG hu (by rfl) T.b_repr (q_tup (qd_cons (qv 8) (qd_cons (q_call G_together hG (hr.mono (by decide)) (by rfl) A_together.m A_together.F.kp A_together.b (qa_d (q_call G__law_undone hG (hr.mono (by decide)) (by rfl) A__law_undone.m A__law_undone.F.kp A__law_undone.b (qa_d (qv 2) qa_nil)) (qa_d (qv 7) qa_nil))) qd_nil))))) (qss_one (qs_ret q_bl)) qss_nil)
      (qss_one (qs_ret (q_isB (q_call G_is_order hG (hr.mono (by decide)) (by rfl) A_is_order.m A_is_order.F.kp A_is_order.b (qa_d (q_lenN 0 (by rfl) T.b_len) (qa_d (qv 5) qa_nil))) q_bl))))))))))))) hread
theorem dv__law_are_throws_right (T : Txt K mg)
    {f_order_after : Addr} {fd_order_after : FuncData} {S_order_after : PSpec} (A_order_after : At K mg "order_after" ["throw", "deck"] (top 37) f_order_after fd_order_after) (G_order_after : FnG P w K mg base 7 f_order_after fd_order_after ["throw", "deck"] S_order_after)
    {f_deck_after : Addr} {fd_deck_after : FuncData} {S_deck_after : PSpec} (A_deck_after : At K mg "deck_after" ["throw", "deck"] (top 38) f_deck_after fd_deck_after) (G_deck_after : FnG P w K mg base 7 f_deck_after fd_deck_after ["throw", "deck"] S_deck_after)
    {f__law_after : Addr} {fd__law_after : FuncData} {S__law_after : PSpec} (A__law_after : At K mg "_law_after" ["_law_throw_here", "_law_cards_here"] (top 46) f__law_after fd__law_after) (G__law_after : FnG P w K mg base 1 f__law_after fd__law_after ["_law_throw_here", "_law_cards_here"] S__law_after)
    {f__law_laid : Addr} {fd__law_laid : FuncData} {S__law_laid : PSpec} (A__law_laid : At K mg "_law_laid" ["_law_cards_here", "_law_order_here"] (top 47) f__law_laid fd__law_laid) (G__law_laid : FnG P w K mg base 1 f__law_laid fd__law_laid ["_law_cards_here", "_law_order_here"] S__law_laid)
    {f_laid : Addr} {fd_laid : FuncData} {S_laid : PSpec} (A_laid : At K mg "laid" ["deck", "order"] (top 29) f_laid fd_laid) (G_laid : FnG P w K mg base 6 f_laid fd_laid ["deck", "order"] S_laid)
    {f_together : Addr} {fd_together : FuncData} {S_together : PSpec} (A_together : At K mg "together" ["one", "other"] (top 30) f_together fd_together) (G_together : FnG P w K mg base 6 f_together fd_together ["one", "other"] S_together)
    {f_counts_of : Addr} {fd_counts_of : FuncData} {S_counts_of : PSpec} (A_counts_of : At K mg "counts_of" ["size", "deck"] (top 33) f_counts_of fd_counts_of) (G_counts_of : FnG P w K mg base 6 f_counts_of fd_counts_of ["size", "deck"] S_counts_of)
    {f_is_deck : Addr} {fd_is_deck : FuncData} {S_is_deck : PSpec} (A_is_deck : At K mg "is_deck" ["size", "thing"] (top 25) f_is_deck fd_is_deck) (G_is_deck : FnG P w K mg base 5 f_is_deck fd_is_deck ["size", "thing"] S_is_deck)
    {f_undone_order : Addr} {fd_undone_order : FuncData} {S_undone_order : PSpec} (A_undone_order : At K mg "undone_order" ["order"] (top 31) f_undone_order fd_undone_order) (G_undone_order : FnG P w K mg base 6 f_undone_order fd_undone_order ["order"] S_undone_order) {S : PSpec}
    {f : Addr} {fd : FuncData} (F : Fun K "_law_are_throws_right" "_law_are_throws_right" (top 51) f fd) (len : ∀ as R, S as R → as.length = 4)
    (hread : ∀ as R, S as R → (t__law_are_throws_right S_order_after S_deck_after S__law_after S__law_laid S_laid S_together S_counts_of S_is_deck S_undone_order) { nx := fun _ => R .none, rt := R } (enOf as 3)) : FnG P w K mg base 8 f fd ["_law_size", "_law_cards_here", "_law_throw_here", "_law_other"] S :=
  FnG.of F sc__law_are_throws_right len (t := t__law_are_throws_right S_order_after S_deck_after S__law_after S__law_laid S_laid S_together S_counts_of S_is_deck S_undone_order) (fun cdv A outer s H hG hr => by
    have hu := hr.units
    exact (qss_cons (qs_set 4 sc__law_are_throws_right.nd (q_call G_order_after hG (hr.mono (by decide)) (by rfl) A_order_after.m A_order_after.F.kp A_order_after.b (qa_d (qv 2) (qa_d (qv 1) qa_nil))))
      (qss_cons (qs_set 5 sc__law_are_throws_right.nd (q_call G_deck_after hG (hr.mono (by decide)) (by rfl) A_deck_after.m A_deck_after.F.kp A_deck_after.b (qa_d (qv 2) (qa_d (qv 1) qa_nil))))
      (qss_cons (qs_if (q_tne hu (q_repr hG hu (by rfl) T.b_repr (q_tup (qd_cons (qv 4) (qd_cons (qv 5) qd_nil)))) (q_repr hG hu (by rfl) T.b_repr (q_tup (qd_cons (q_call G__law_after hG (hr.mono (by decide)) (by rfl) A__law_after.m A__law_after.F.kp A__law_after.b (qa_d (qv 2) (qa_d (qv 1) qa_nil))) (qd_cons (q_call G__law_laid hG (hr.mono (by decide)) (by rfl) A__law_laid.m A__law_laid.F.kp A__law_laid.b (qa_d (qv 1) (qa_d (qv 4) qa_nil))) qd_nil))))) (qss_one (qs_ret q_bl)) qss_nil)
      (qss_cons (qs_set 6 sc__law_are_throws_right.nd (q_call G_order_after hG (hr.mono (by decide)) (by rfl) A_order_after.m A_order_after.F.kp A_order_after.b (qa_d (qv 3) (qa_d (qv 5) qa_nil))))
      (qss_cons (qs_if (q_tne hu (q_repr hG hu (by rfl) T.b_repr (q_tup (qd_cons (q_call G_laid hG (hr.mono (by decide)) (by rfl) A_laid.m A_laid.F.kp A_laid.b (qa_d (qv 1) (qa_d (q_call G_together hG (hr.mono (by decide)) (by rfl) A_together.m A_together.F.kp A_together.b (qa_d (qv 4) (qa_d (qv 6) qa_nil))) qa_nil))) (qd_cons (q_call G_counts_of hG (hr.mono (by decide)) (by rfl) A_counts_of.m A_counts_of.F.kp A_counts_of.b (qa_d (qv 0) (qa_d (qv 5) qa_nil))) qd_nil)))) (q_repr hG hu (by rfl) T.b_repr (q_tup (qd_cons (q_call G_deck_after hG (hr.mono (by decide)) (by rfl) A_deck_after.m A_deck_after.F.kp A_deck_after.b (qa_d (qv 3) (qa_d (qv 5) qa_nil))) (qd_cons (q_call G_counts_of hG (hr.mono (by decide)) (by rfl) A_counts_of.m A_counts_of.F.kp A_counts_of.b (qa_d (qv 0) (qa_d (qv 1) qa_nil))) qd_nil))))) (qss_one (qs_ret q_bl)) qss_nil)
      (qss_one (qs_ret (q_and (q_isB (q_call G_is_deck hG (hr.mono (by decide)) (by rfl) A_is_deck.m A_is_deck.F.kp A_is_deck.b (qa_d (qv 0) (qa_d (qv 5) qa_nil))) q_bl) (q_one (q_eq hu (q_repr hG hu (by rfl) T.b_repr (q_call G_laid hG (hr.mono (by decide)) (by rfl) A_laid.m A_laid.F.kp A_laid.b (qa_d (qv 5) (qa_d (q_call G_undone_order hG (hr.mono (by decide)) (by rfl) A_undone_order.m A_undone_order.F.kp A_undone_order.b (qa_d (qv 4) qa_nil)) qa_nil)))) (q_repr hG hu (by rfl) T.b_repr (qv 1))))))))))))) hread
end
end T01
end P18
section P19
namespace Q
open PySem PySem.Spec PyProof.Rows L2 HT
/-! ### the deck of draws -/
def kv (c : Addr) (m n : Int) : List (Key × V) := [(.inr "cells", .ref c), (.inr "mixed", .int m), (.inr "draws", .int n)]
theorem kcm : ¬ ((Sum.inr (Str.ofString "cells") : Key) = Sum.inr (Str.ofString "mixed")) := by decide +kernel
theorem kcd : ¬ ((Sum.inr (Str.ofString "cells") : Key) = Sum.inr (Str.ofString "draws")) := by decide +kernel
theorem kmd : ¬ ((Sum.inr (Str.ofString "mixed") : Key) = Sum.inr (Str.ofString "draws")) := by decide +kernel
theorem scm : ¬ (Str.ofString "cells" = Str.ofString "mixed") := by decide +kernel
theorem scd : ¬ (Str.ofString "cells" = Str.ofString "draws") := by decide +kernel
theorem smd : ¬ (Str.ofString "mixed" = Str.ofString "draws") := by decide +kernel
theorem get_cells {c : Addr} {m n : Int} : valV (kv c m n) (Sum.inr (Str.ofString "cells")) = some (.ref c) := valV_pos rfl
theorem get_mixed {c : Addr} {m n : Int} : valV (kv c m n) (Sum.inr (Str.ofString "mixed")) = some (.int m) := by
  unfold kv
  rw [valV_neg kcm, valV_pos rfl]
theorem get_draws {c : Addr} {m n : Int} : valV (kv c m n) (Sum.inr (Str.ofString "draws")) = some (.int n) := by
  unfold kv
  rw [valV_neg kcd, valV_neg kmd, valV_pos rfl]
theorem put_draws {c : Addr} {m n k : Int} : putK (kv c m n) (Sum.inr (Str.ofString "draws")) (.int k) = kv c m k := by
  unfold kv putK
  have h : (List.any [((Sum.inr (Str.ofString "cells") : Key), V.ref c), (.inr "mixed", .int m), (.inr "draws", .int n)] fun kv => decide (kv.1 = Sum.inr (Str.ofString "draws"))) = true := by
    simp [List.any_cons]
  rw [if_pos h]
  simp only [List.map_cons, List.map_nil, if_neg kcd, if_neg kmd, if_true]
theorem dg_cells {H : Hp} {d c : Addr} {m n : Int} (h : H d = some (.dK (kv c m n))) : DGet H d (.str "cells") (some (.ref c)) := by
  have := DGet.k (k := Sum.inr (Str.ofString "cells")) h
  rw [get_cells] at this
  exact this
theorem dg_mixed {H : Hp} {d c : Addr} {m n : Int} (h : H d = some (.dK (kv c m n))) : DGet H d (.str "mixed") (some (.int m)) := by
  have := DGet.k (k := Sum.inr (Str.ofString "mixed")) h
  rw [get_mixed] at this
  exact this
theorem dg_draws {H : Hp} {d c : Addr} {m n : Int} (h : H d = some (.dK (kv c m n))) : DGet H d (.str "draws") (some (.int n)) := by
  have := DGet.k (k := Sum.inr (Str.ofString "draws")) h
  rw [get_draws] at this
  exact this
theorem dp_ints {K : PySem.W.Frag} {H : Hp} : ∀ ns : List Int, DpAll K H (ns.map .int) (ns.map .int)
  | [] => .nil
  | n :: ns => .cons (.int n) (dp_ints ns)
theorem lay_i0 : ∀ ns : List Int, PyData.canLayAll0 (ns.map .int) = true
  | [] => by simp [PyData.canLayAll0]
  | n :: ns => by simp [PyData.canLayAll0, PyData.canLay0, lay_i0 ns]
theorem dep_i0 : ∀ ns : List Int, PyData.depthAll (ns.map .int) = 0
  | [] => by simp [PyData.depthAll]
  | n :: ns => by simp [PyData.depthAll, PyData.depth, dep_i0 ns]
theorem shaped_ints (ns : List Int) : SeqAt.shaped (.list (ns.map .int)) = true := by
  unfold SeqAt.shaped
  simp [PyData.canLay0, lay_i0, PyData.depth, dep_i0]
theorem ite_t2 {b : Bool} {A B : Prop} (h : b = true) (x : A) : if b = true then A else B := by rw [if_pos h]; exact x
theorem snoc_cases {α : Type} (l : List α) : l = [] ∨ ∃ cs z, l = cs ++ [z] := by
  rcases List.eq_nil_or_concat l with h | ⟨cs, z, h⟩
  · exact .inl h
  · exact .inr ⟨cs, z, by simpa using h⟩
theorem small3 : 3 < sizeLine := by decide
theorem merge3 {c : Addr} {m n : Int} : mergeK [] [((Sum.inr (Str.ofString "cells") : Key), V.ref c), (.inr "mixed", .int m), (.inr "draws", .int n)] = [(.inr "cells", .ref c), (.inr "mixed", .int m), (.inr "draws", .int n)] := by
  have a : putK ([] : List (Key × V)) (Sum.inr (Str.ofString "cells")) (.ref c) = [(.inr "cells", .ref c)] := rfl
  have b : putK [((Sum.inr (Str.ofString "cells") : Key), V.ref c)] (Sum.inr (Str.ofString "mixed")) (.int m) = [(.inr "cells", .ref c), (.inr "mixed", .int m)] := by
    unfold putK
    rw [if_neg (by simp [List.any_cons, scm])]
    rfl
  have d : putK [((Sum.inr (Str.ofString "cells") : Key), V.ref c), (.inr "mixed", .int m)] (Sum.inr (Str.ofString "draws")) (.int n) = [(.inr "cells", .ref c), (.inr "mixed", .int m), (.inr "draws", .int n)] := by
    unfold putK
    rw [if_neg (by simp [List.any_cons, scd, smd])]
    rfl
  simp only [mergeK, List.foldl_cons, List.foldl_nil]
  rw [a, b, d]
end Q
open PySem PySem.Spec PyProof.Rows L2 HT Q
namespace T01
section
variable {P : Program} {w : World} {K : PySem.W.Frag} {mg : Str → Option Value} {base : Heap}
theorem scDraw : FnScope ["_law_deck_here", "_law_many", "_law_number", "_law_cell"] ["_law_deck_here", "_law_many"] (defScope (top 41)) := ⟨rfl, rfl, rfl, by decide +kernel, rfl, by decide +kernel, by decide +kernel⟩
theorem ok_draw {f : Addr} {fd : FuncData} (F : Fun K "_law_draw" "_law_draw" (top 41) f fd) (mInt : mg "int" = none) (mMax : mg "max" = none) : FnOk P w K mg base CX0 1 f fd ["_law_deck_here", "_law_many"] spDraw := by
  refine F.ok scDraw (fun vs H Q E h => ?_) (fun cdv A outer s H vs Q E hr h => ?_)
  · obtain ⟨d, c, n, rfl, _⟩ := h
    rfl
  · obtain ⟨d, c, n, rfl, ⟨hdc, cells, m, t, hd, hc, hl⟩, hn, hn2, k⟩ := h
    have hd : H d = some (.dK (kv c m t)) := hd
    have hu := hu_of hr
    have hu64 := hr.units
    refine ⟨_, pss_cons (ps_dput hu (pv 0) pe_str (pe_op op_add (pe_dget hu (pv 0) pe_str (fun _ _ => rfl)) pe_int) rfl)
      (pss_cons (ps_set (i := 2) scDraw.nd rfl (Or.inl rfl) (pe_op op_add (pe_dget hu (pv 0) pe_str (fun _ _ => rfl)) (pe_op op_mul pe_int (pe_dget hu (pv 0) pe_str (fun _ _ => rfl)))))
      (pss_cons (ps_if (pt_cmpR (op_neD hu64) (pe_dget hu (pv 0) pe_str (fun _ _ => rfl)) (pe_lst pa_nil) (nomark _))
        (pss_cons (ps_set (i := 3) scDraw.nd rfl (Or.inl rfl) (pe_bm0 PySem.F.plainAttrs_list PySem.F.slot_list_pop PySem.F.type_list_pop mt_pop (pe_dget hu (pv 0) pe_str (fun _ _ => rfl))))
        (pss_cons (ps_if (pt_cmpR op_ge (pv 3) (pe_op op_pow pe_int pe_int) (nomark _))
          (pss_cons (ps_expr (pe_bm PySem.F.plainAttrs_list PySem.F.slot_list_append PySem.F.type_list_append mt_append (pe_dget hu (pv 0) pe_str (fun _ _ => rfl))
            (pa_cons (pe_op op_fdiv (pv 3) (pe_callB (call_max2 rfl) (by rfl) mMax PyProof.Rows.boot_max (pa_cons pe_int (pa_cons (pv 1) pa_nil)))) pa_nil)))
          (pss_one (ps_ret (pe_op op_mod (pe_callTy call_int1 (by rfl) mInt PyProof.Rows.boot_int (pa_cons (pv 3) pa_nil)) (pv 1))))) pss_nil)
        (pss_one (ps_set (i := 2) scDraw.nd rfl (Or.inl rfl) (pe_op op_add (pv 2) (pe_op op_mod (pe_callTy call_int1 (by rfl) mInt PyProof.Rows.boot_int (pa_cons (pv 3) pa_nil)) pe_int)))))) pss_nil)
      (pss_cons (ps_set (i := 2) scDraw.nd rfl (Or.inl rfl) (pe_op op_mod (pe_callTy call_int1 (by rfl) mInt PyProof.Rows.boot_int (pa_cons (pe_op op_add (pe_op op_mul (pv 2) pe_int) pe_int) pa_nil)) pe_int))
      (pss_cons (ps_set (i := 2) scDraw.nd rfl (Or.inl rfl) (pe_op op_mod (pe_callTy call_int1 (by rfl) mInt PyProof.Rows.boot_int (pa_cons (pe_op op_add (pe_op op_add (pe_op op_mul (pv 2) (pv 2)) (pe_op op_mul pe_int (pe_dget hu (pv 0) pe_str (fun _ _ => rfl)))) pe_int) pa_nil)) pe_int))
      (pss_cons (ps_set (i := 2) scDraw.nd rfl (Or.inl rfl) (pe_op op_mod (pe_callTy call_int1 (by rfl) mInt PyProof.Rows.boot_int (pa_cons (pe_op op_mul (pv 2) pe_int) pa_nil)) pe_int))
      (pss_one (ps_ret (pe_op op_mod (pe_callTy call_int1 (by rfl) mInt PyProof.Rows.boot_int (pa_cons (pe_op op_fdiv (pv 2) pe_int) pa_nil)) (pv 1))))))))), ?_⟩
    -- draws = draws + 1
    refine ⟨.ref d, rfl, d, .int t, rfl, dg_draws hd, t, 1, rfl, rfl, .ref d, rfl, d, _, rfl, DPut.k (k := Sum.inr (Str.ofString "draws")) hd small3, ?_⟩
    rw [put_draws]
    have hd1 : upd H d (.dK (kv c m (t + 1))) d = some (.dK (kv c m (t + 1))) := upd_same
    have hc1 : upd H d (.dK (kv c m (t + 1))) c = some (.lst (cells.map .int)) := by rw [upd_ne (Ne.symm hdc)]; exact hc
    have kp1 : ∀ a o, H a = some o → a ≠ d → upd H d (.dK (kv c m (t + 1))) a = some o := fun a o e z => by rw [upd_ne z]; exact e
    generalize upd H d (.dK (kv c m (t + 1))) = H1 at hd1 hc1 kp1 ⊢
    -- number = mixed + C * draws
    refine ⟨.ref d, rfl, d, .int m, rfl, dg_mixed hd1, .ref d, rfl, d, .int (t + 1), rfl, dg_draws hd1, _, _, rfl, rfl, .inl ⟨by decide, by decide⟩, m, _, rfl, rfl, ?_⟩
    -- cells != []
    refine ⟨.ref d, rfl, d, .ref c, rfl, dg_cells hd1, Nat.zero_le _, fun p hp => ?_⟩
    have sm := same_upd (o := .lst []) hp
    refine ⟨.list (cells.map .int), .list [], .lst (SqL.of (sm _ _ hc1)) (dp_ints cells), .lst (SqL.of upd_same) .nil, shaped_ints cells, shaped_ints [], _, rfl, ?_⟩
    have hd2 := sm _ _ hd1
    have hc2 := sm _ _ hc1
    have kp2 : ∀ a o, H a = some o → a ≠ d → upd H1 p (.lst []) a = some o := fun a o e z => sm _ _ (kp1 a o e z)
    clear sm hp
    generalize upd H1 p (.lst []) = H2 at hd2 hc2 kp2 ⊢
    have nn : 0 < n := hn
    rcases snoc_cases cells with rfl | ⟨cs, z, rfl⟩
    · refine iteF ?_
      have dk2 : DkOk H2 d c := ⟨hdc, [], m, t + 1, hd2, hc2, by simp⟩
      refine ⟨_, rfl, _, _, rfl, rfl, .inr ⟨by decide, by decide⟩, _, _, rfl, rfl, .inl ⟨_, rfl, _, _, rfl, rfl, by show (0 : Int) < _; decide, ?_⟩⟩
      refine ⟨_, rfl, _, rfl, _, _, rfl, rfl, .inl ⟨?_, ?_⟩, .ref d, rfl, d, .int (t + 1), rfl, dg_draws hd2, _, _, rfl, rfl, .inl ⟨by decide, by decide⟩, _, _, rfl, rfl, _, _, rfl, rfl, .inl ⟨_, rfl, _, _, rfl, rfl, by show (0 : Int) < _; decide, ?_⟩⟩
      · omega
      · omega
      refine ⟨_, rfl, _, _, rfl, rfl, .inr ⟨by decide, by decide⟩, .inl ⟨_, rfl, _, _, rfl, rfl, by show (0 : Int) < _; decide, ?_⟩⟩
      refine ⟨_, rfl, _, _, rfl, rfl, ⟨by decide, by decide⟩, .inl ⟨_, rfl, _, rfl, _, _, rfl, rfl, nn, ?_⟩⟩
      exact k _ H2 (Int.emod_nonneg _ (by omega)) (Int.emod_lt_of_pos _ nn) dk2 fun a o e z _ => kp2 a o e z
    · have ev : PyData.eqv (.list ((cs ++ [z]).map .int)) (.list []) = false := by
        cases cs <;> simp [PyData.eqv, PyData.eqvAll]
      refine ite_t2 (by rw [ev]; rfl) ?_
      have hc2 : H2 c = some (.lst (cs.map V.int ++ [V.int z])) := by rw [hc2]; simp
      have hl' : cs.length ≤ 62 := by simp at hl; omega
      -- pop
      refine ⟨.ref d, rfl, d, .ref c, rfl, dg_cells hd2, .inl ⟨rfl, _, SqL.of hc2⟩, c, _, .int z, rfl, rfl, hc2, by simp, ?_⟩
      rw [List.dropLast_concat]
      have hd3 : upd H2 c (.lst (cs.map V.int)) d = some (.dK (kv c m (t + 1))) := by rw [upd_ne hdc]; exact hd2
      have hc3 : upd H2 c (.lst (cs.map V.int)) c = some (.lst (cs.map V.int)) := upd_same
      have kp3 : ∀ a o, H a = some o → a ≠ d → a ≠ c → upd H2 c (.lst (cs.map V.int)) a = some o := fun a o e z1 z2 => by rw [upd_ne z2]; exact kp2 a o e z1
      generalize upd H2 c (.lst (cs.map V.int)) = H3 at hd3 hc3 kp3 ⊢
      have dk3 : DkOk H3 d c := ⟨hdc, cs, m, t + 1, hd3, hc3, by omega⟩
      -- cell >= 10 ** 18
      refine ⟨_, rfl, _, _, rfl, rfl, ⟨by decide, by decide, by decide⟩, _, _, rfl, rfl, _, rfl, ?_⟩
      refine ite2 (fun _ => ?_) (fun _ => ?_)
      · -- cells.append(cell // max(2, many)); return int(cell) % many
        refine ⟨.ref d, rfl, d, .ref c, rfl, dg_cells hd3, .inl ⟨rfl, _, SqL.of hc3⟩, _, rfl, _, rfl, _, _, rfl, _, _, rfl, rfl, ⟨?_, ?_⟩, c, _, _, rfl, rfl, hc3, ?_, ?_⟩
        · split <;> omega
        · split <;> omega
        · rw [List.length_map]; exact Nat.lt_of_le_of_lt hl' (by decide)
        refine ⟨_, rfl, .inl ⟨_, rfl, _, rfl, _, _, rfl, rfl, nn, ?_⟩⟩
        refine k _ _ (Int.emod_nonneg _ (by omega)) (Int.emod_lt_of_pos _ nn) ?_ fun a o e z1 z2 => by rw [upd_ne z2]; exact kp3 a o e z1 z2
        refine ⟨hdc, cs ++ [z / (if n > 2 then n else 2)], m, t + 1, by rw [upd_ne hdc]; exact hd3, ?_, by simp; omega⟩
        rw [upd_same, List.map_append]
        rfl
      · refine ⟨_, rfl, _, rfl, .inl ⟨_, rfl, _, _, rfl, rfl, by show (0 : Int) < _; decide, _, _, rfl, rfl, ?_⟩⟩
        refine ⟨_, rfl, _, _, rfl, rfl, .inr ⟨by decide, by decide⟩, _, _, rfl, rfl, .inl ⟨_, rfl, _, _, rfl, rfl, by show (0 : Int) < _; decide, ?_⟩⟩
        refine ⟨_, rfl, _, rfl, _, _, rfl, rfl, .inl ⟨?_, ?_⟩, .ref d, rfl, d, .int (t + 1), rfl, dg_draws hd3, _, _, rfl, rfl, .inl ⟨by decide, by decide⟩, _, _, rfl, rfl, _, _, rfl, rfl, .inl ⟨_, rfl, _, _, rfl, rfl, by show (0 : Int) < _; decide, ?_⟩⟩
        · omega
        · omega
        refine ⟨_, rfl, _, _, rfl, rfl, .inr ⟨by decide, by decide⟩, .inl ⟨_, rfl, _, _, rfl, rfl, by show (0 : Int) < _; decide, ?_⟩⟩
        refine ⟨_, rfl, _, _, rfl, rfl, ⟨by decide, by decide⟩, .inl ⟨_, rfl, _, rfl, _, _, rfl, rfl, nn, ?_⟩⟩
        exact k _ H3 (Int.emod_nonneg _ (by omega)) (Int.emod_lt_of_pos _ nn) dk3 kp3
theorem scDeck : FnScope ["_law_script", "_law_mixed", "_law_cell"] ["_law_script"] (defScope (top 40)) := ⟨rfl, rfl, rfl, by decide +kernel, rfl, by decide +kernel, by decide +kernel⟩
theorem ok_deck {f : Addr} {fd : FuncData} (F : Fun K "_law_deck" "_law_deck" (top 40) f fd) (mInt : mg "int" = none) (mList : mg "list" = none) : FnOk P w K mg base CX0 1 f fd ["_law_script"] (spDeck K) := by
  refine F.ok scDeck (fun vs H Q E h => ?_) (fun cdv A outer s H vs Q E hr h => ?_)
  · obtain ⟨a, ns, rfl, _⟩ := h
    rfl
  · obtain ⟨a, ns, rfl, hS, hl, k⟩ := h
    refine ⟨_, pss_cons (ps_set (i := 1) scDeck.nd rfl (Or.inl rfl) pe_int)
      (pss_cons (ps_for PassesOwn.never rfl (pi_list (pe_slice sl_list (pv 0) po_none (po_some pe_int))) (pg_name (i := 2) scDeck.nd rfl (Or.inl rfl))
        (pss_one (ps_set (i := 1) scDeck.nd rfl (Or.inl rfl) (pe_op op_mod (pe_callTy call_int1 (by rfl) mInt PyProof.Rows.boot_int (pa_cons (pe_op op_add (pe_op op_add (pe_op op_mul (pv 1) pe_int) (pe_op op_mod (pe_callTy call_int1 (by rfl) mInt PyProof.Rows.boot_int (pa_cons (pv 2) pa_nil)) pe_int)) pe_int) pa_nil)) pe_int))))
      (pss_one (ps_ret (pe_disp (pps_cons pe_str (pe_revL (pe_callTy call_list_of (by rfl) mList PyProof.Rows.boot_list (pa_cons (pe_slice sl_list (pv 0) po_none (po_some pe_int)) pa_nil))) (pps_cons pe_str (pv 1) (pps_cons pe_str pe_int pps_nil))) (by rfl) (by rfl) (fun z => by cases z) (by decide))))), ?_⟩
    have cut : ∀ z : Int, z = 63 → cutV (ns.map V.int) none (some z) = ns.map V.int := fun z hz => by
      subst hz
      unfold cutV
      rw [HT.sIx_none, List.drop_zero]
      have : HT.sIx (ns.map V.int).length (ns.map V.int).length (some 63) = (ns.map V.int).length := by
        have := HT.sIx_nat (ns.map V.int).length (ns.map V.int).length 63
        rw [show ((63 : Nat) : Int) = 63 from rfl] at this
        rw [this, List.length_map]
        omega
      rw [this, Nat.sub_zero, List.take_length]
    refine ⟨_, rfl, _, rfl, a, _, rfl, hS, fun p hp => ?_⟩
    rw [cut _ rfl]
    have s1 := same_upd (o := .lst (ns.map V.int)) hp
    refine ⟨p, rfl, ⟨_, SqL.of upd_same⟩, for_list (K := K) (a := p) (xs := ns.map V.int) (fun i σ H2 => ∃ (m : Int) (v : Option V), σ = [some (.ref a), some (.int m), v] ∧ Same H H2 ∧ SqL K H2 p (ns.map V.int))
      ⟨_, none, rfl, s1, SqL.of upd_same⟩ (fun i σ H2 _ ⟨_, _, _, _, q⟩ => q) ?_ ?_⟩
    · rintro i y σ H2 hi ⟨m, v, rfl, s2, q⟩
      obtain ⟨z, rfl⟩ : ∃ z, y = V.int z := by
        rw [List.getElem?_map] at hi
        cases e : ns[i]? with
        | none => rw [e] at hi; cases hi
        | some z => rw [e] at hi; exact ⟨z, (Option.some.inj hi).symm⟩
      exact ⟨_, rfl, _, _, rfl, rfl, .inr ⟨by decide, by decide⟩, _, rfl, .inl ⟨_, rfl, _, _, rfl, rfl, by show (0 : Int) < _; decide, _, _, rfl, rfl, _, _, rfl, rfl, .inl ⟨_, rfl, _, _, rfl, rfl, by show (0 : Int) < _; decide, _, _, rfl, s2, q⟩⟩⟩
    · rintro σ H2 ⟨m, v, rfl, s2, q⟩
      intro d hd
      have sd := same_upd (o := .dK []) hd
      refine ⟨_, rfl, _, rfl, a, _, rfl, sd.seq (s2.seq hS), fun p2 hp2 => ?_⟩
      rw [cut _ rfl]
      have sp2 := same_upd (o := .lst (ns.map V.int)) hp2
      refine ⟨p2, _, rfl, .inl (SqL.of upd_same), fun l hl' => ?_⟩
      have sl := same_upd (o := .lst (ns.map V.int)) hl'
      refine ⟨l, _, rfl, SqL.of upd_same, fun c hc => ?_⟩
      have sc := same_upd (o := .lst (ns.map V.int).reverse) hc
      have S : Same H (upd (upd (upd (upd H2 d (.dK [])) p2 (.lst (ns.map V.int))) l (.lst (ns.map V.int))) c (.lst (ns.map V.int).reverse)) := s2.trans (sd.trans (sp2.trans (sl.trans sc)))
      have S2 : Same (upd H2 d (.dK [])) (upd (upd (upd (upd H2 d (.dK [])) p2 (.lst (ns.map V.int))) l (.lst (ns.map V.int))) c (.lst (ns.map V.int).reverse)) := sp2.trans (sl.trans sc)
      have hdd := S2 _ _ (upd_same (H := H2) (a := d) (o := .dK []))
      have n1 : H d = none := s2.free hd
      have n2 : H c = none := (s2.trans (sd.trans (sp2.trans sl))).free hc
      have hcc : (upd (upd (upd (upd H2 d (.dK [])) p2 (.lst (ns.map V.int))) l (.lst (ns.map V.int))) c (.lst (ns.map V.int).reverse)) c = some (.lst (ns.map V.int).reverse) := upd_same
      generalize (upd (upd (upd (upd H2 d (.dK [])) p2 (.lst (ns.map V.int))) l (.lst (ns.map V.int))) c (.lst (ns.map V.int).reverse)) = H3 at S hdd hcc ⊢
      have dc : d ≠ c := ne_of hdd hcc (by intro z; cases z)
      refine ⟨_, rfl, hdd, [(.inr "cells", .ref c), (.inr "mixed", .int m), (.inr "draws", .int 0)], rfl, by simp, ?_⟩
      refine k d c _ n1 n2 ⟨dc, ns.reverse, m, 0, ?_, ?_, by rw [List.length_reverse]; exact hl⟩ fun b o e => ?_
      · rw [upd_same]
        exact congrArg (fun l => some (HO.dK l)) merge3
      · rw [upd_ne (Ne.symm dc), hcc, List.map_reverse]
      · rw [upd_ne (ne_of_none e n1)]
        exact S b o e
end
end T01
end P19
section P20
namespace T01
/-! ### orders, as lists of places -/
def row (n : Nat) : List Int := (List.range n).map fun (i : Nat) => (i : Int)
def laidL (d o : List Int) : List Int := o.map fun c => d.getD c.toNat 0
def Ord (n : Nat) (o : List Int) : Prop := o.Perm (row n)
theorem row_length (n : Nat) : (row n).length = n := by simp [row]
theorem mem_row {n : Nat} {i : Int} : i ∈ row n ↔ 0 ≤ i ∧ i < n := by
  simp only [row, List.mem_map, List.mem_range]
  constructor
  · rintro ⟨k, hk, rfl⟩; omega
  · rintro ⟨h1, h2⟩; exact ⟨i.toNat, by omega, by omega⟩
theorem row_getD {n k : Nat} (h : k < n) : (row n).getD k 0 = (k : Int) := by simp [row, List.getD_eq_getElem?_getD, h]
theorem row_nodup (n : Nat) : (row n).Nodup := by
  unfold row List.Nodup
  rw [List.pairwise_map]
  exact List.Pairwise.imp (fun h e => h (Int.ofNat.inj e)) (List.nodup_range (n := n))
theorem Ord.length {n : Nat} {o : List Int} (h : Ord n o) : o.length = n := by rw [List.Perm.length_eq h, row_length]
theorem Ord.mem {n : Nat} {o : List Int} (h : Ord n o) {i : Int} (hi : i ∈ o) : 0 ≤ i ∧ i < n := mem_row.mp ((List.Perm.mem_iff h).mp hi)
theorem Ord.nodup {n : Nat} {o : List Int} (h : Ord n o) : o.Nodup := (List.Perm.nodup_iff h).mpr (row_nodup n)
theorem Ord.row (n : Nat) : Ord n (row n) := List.Perm.refl _
theorem Ord.rev {n : Nat} {o : List Int} (h : Ord n o) : Ord n o.reverse := (List.reverse_perm o).trans h
theorem laid_length (d o : List Int) : (laidL d o).length = o.length := by simp [laidL]
theorem laid_row (d : List Int) : laidL d (row d.length) = d := by
  apply List.ext_getElem
  · simp [laidL, row_length]
  · intro i h1 h2
    simp [laidL, row, List.getD_eq_getElem?_getD, h2]
theorem row_laid {n : Nat} {o : List Int} (h : ∀ c, c ∈ o → 0 ≤ c ∧ c < n) : laidL (row n) o = o := by
  unfold laidL
  have : ∀ c, c ∈ o → (fun c : Int => (T01.row n).getD c.toNat 0) c = id c := fun c hc => by
    obtain ⟨h1, h2⟩ := h c hc
    show (T01.row n).getD c.toNat 0 = c
    rw [row_getD (by omega)]
    omega
  rw [List.map_congr_left this, List.map_id]
theorem laid_laid {d a b : List Int} (h : ∀ c, c ∈ b → 0 ≤ c ∧ c < a.length) : laidL (laidL d a) b = laidL d (laidL a b) := by
  unfold laidL
  rw [List.map_map]
  refine List.map_congr_left fun c hc => ?_
  obtain ⟨h1, h2⟩ := h c hc
  have h3 : c.toNat < a.length := by omega
  simp [List.getD_eq_getElem?_getD, h3]
theorem Ord.lt {n : Nat} {a b : List Int} (ha : Ord n a) (hb : Ord n b) : ∀ c, c ∈ b → 0 ≤ c ∧ c < a.length := fun c hc => by
  rw [ha.length]; exact hb.mem hc
/-- what an order lays is a rearrangement -/
theorem laid_perm {d o : List Int} (h : Ord d.length o) : (laidL d o).Perm d := by
  have := List.Perm.map (fun c : Int => d.getD c.toNat 0) h
  have e := laid_row d
  unfold laidL at e
  rw [e] at this
  exact this
theorem Ord.laid {n : Nat} {a b : List Int} (ha : Ord n a) (hb : Ord n b) : Ord n (laidL a b) := (laid_perm (by rw [ha.length]; exact hb)).trans ha
theorem laid_rev (d o : List Int) : laidL d o.reverse = (laidL d o).reverse := by simp [laidL, List.map_reverse]
/-! ### undoing -/
def undL : List Int → Nat → List Int → List Int
  | [], _, f => f
  | c :: cs, i, f => undL cs (i + 1) (f.set c.toNat (i : Int))
def undo (o : List Int) : List Int := undL o 0 (List.replicate o.length 0)
theorem undL_length : ∀ (cs : List Int) (i : Nat) (f : List Int), (undL cs i f).length = f.length
  | [], _, _ => rfl
  | c :: cs, i, f => by unfold undL; rw [undL_length cs, List.length_set]
theorem undL_out : ∀ (cs : List Int) (i : Nat) (f : List Int) (j : Nat), (∀ c, c ∈ cs → c.toNat ≠ j) → (undL cs i f).getD j 0 = f.getD j 0
  | [], _, _, _, _ => rfl
  | c :: cs, i, f, j, h => by
    unfold undL
    rw [undL_out cs (i + 1) _ j fun x hx => h x (by simp [hx])]
    have := h c (by simp)
    simp [List.getD_eq_getElem?_getD, List.getElem?_set_ne this]
theorem undL_in : ∀ (cs : List Int) (i : Nat) (f : List Int), cs.Nodup → (∀ c, c ∈ cs → 0 ≤ c ∧ c < f.length) → ∀ (k : Nat), k < cs.length → (undL cs i f).getD (cs.getD k 0).toNat 0 = ((i + k : Nat) : Int)
  | [], _, _, _, _, k, h => absurd h (by simp)
  | c :: cs, i, f, nd, hb, 0, _ => by
    unfold undL
    rw [List.nodup_cons] at nd
    have hc := hb c (by simp)
    rw [List.getD_cons_zero]
    rw [undL_out cs (i + 1) _ c.toNat fun x hx e => by
      have hx2 := hb x (by simp [hx])
      have : x = c := by omega
      exact nd.1 (this ▸ hx)]
    have h3 : c.toNat < f.length := by omega
    simp [List.getD_eq_getElem?_getD, h3]
  | c :: cs, i, f, nd, hb, k + 1, hk => by
    unfold undL
    rw [List.nodup_cons] at nd
    rw [List.getD_cons_succ, undL_in cs (i + 1) _ nd.2 (fun x hx => by rw [List.length_set]; exact hb x (by simp [hx])) k (by simpa using hk)]
    omega
theorem undo_length (o : List Int) : (undo o).length = o.length := by unfold undo; rw [undL_length, List.length_replicate]
theorem undo_laid {n : Nat} {o : List Int} (h : Ord n o) : laidL (undo o) o = row n := by
  have hl := h.length
  apply List.ext_getElem
  · rw [laid_length, row_length, hl]
  · intro i h1 h2
    rw [laid_length] at h1
    have := undL_in o 0 (List.replicate o.length 0) h.nodup (fun c hc => by rw [List.length_replicate, hl]; exact h.mem hc) i h1
    rw [Nat.zero_add] at this
    have e : o.getD i 0 = o[i] := by simp [List.getD_eq_getElem?_getD, h1]
    rw [e] at this
    simp only [laidL, List.getElem_map]
    rw [show (undo o).getD (o[i]).toNat 0 = (i : Int) from this]
    simp [row]
theorem Ord.undo {n : Nat} {o : List Int} (h : Ord n o) : Ord n (undo o) := by
  have p : (laidL (T01.undo o) o).Perm (T01.undo o) := laid_perm (by rw [undo_length, h.length]; exact h)
  rw [undo_laid h] at p
  exact p.symm
theorem inv_unique {n : Nat} {x c u : List Int} (hx : Ord n x) (hc : Ord n c) (hu : Ord n u) (h1 : laidL x c = row n) (h2 : laidL c u = row n) : x = u := by
  have a : laidL (laidL x c) u = laidL x (laidL c u) := laid_laid (hc.lt hu)
  rw [h1, h2, row_laid fun c hc => hu.mem hc] at a
  have b := laid_row x
  rw [hx.length] at b
  rw [b] at a
  exact a.symm
theorem laid_undo {n : Nat} {o : List Int} (h : Ord n o) : laidL o (undo o) = row n := by
  have hu := h.undo
  have e : undo (undo o) = o := inv_unique hu.undo hu h (undo_laid hu) (undo_laid h)
  have := undo_laid hu
  rw [e] at this
  exact this
theorem undo_undo {n : Nat} {o : List Int} (h : Ord n o) : undo (undo o) = o := inv_unique h.undo.undo h.undo h (undo_laid h.undo) (undo_laid h)
theorem undo_both {n : Nat} {a b : List Int} (ha : Ord n a) (hb : Ord n b) : undo (laidL a b) = laidL (undo b) (undo a) := by
  have hab := ha.laid hb
  have hua := ha.undo
  have hub := hb.undo
  refine (inv_unique (hub.laid hua) hab hab.undo ?_ (laid_undo hab)).symm
  rw [laid_laid (hua.lt hab), ← laid_laid (ha.lt hb), undo_laid ha, row_laid fun c hc => hb.mem hc, undo_laid hb]
/-! ### throws -/
abbrev Thr := List (List Int × Int)
def cardsF (p : Int → Bool) : Nat → List Int → List Int
  | _, [] => []
  | i, k :: ks => if p k = true then (i : Int) :: cardsF p (i + 1) ks else cardsF p (i + 1) ks
def kinds (th : Thr) : List Int := (th.map (·.1)).flatten
def heapOf (deck : List Int) (p : List Int × Int) : List Int := if p.2 = 1 then cardsF (fun k => p.1.contains k) 0 deck else (cardsF (fun k => p.1.contains k) 0 deck).reverse
def rawOrder (th : Thr) (deck : List Int) : List Int := (th.map (heapOf deck)).flatten
structure LotOk (lot : List Int) (sg : Int) : Prop where
  ne : lot ≠ []
  bd : ∀ k, k ∈ lot → 0 ≤ k ∧ k ≤ 7
  up : lot.Pairwise (· < ·)
  sg : sg = 1 ∨ sg = -1
  few : lot.length ≤ 8
structure ThrowOk (th : Thr) : Prop where
  ne : th ≠ []
  lots : ∀ p, p ∈ th → LotOk p.1 p.2
  perm : (kinds th).Perm (row (kinds th).length)
  few : (kinds th).length ≤ 8
theorem cards_all : ∀ (i : Nat) (ks : List Int) (p : Int → Bool), (∀ k, k ∈ ks → p k = true) → cardsF p i ks = (List.range ks.length).map fun (j : Nat) => ((i + j : Nat) : Int)
  | _, [], _, _ => rfl
  | i, k :: ks, p, h => by
    unfold cardsF
    rw [if_pos (h k (by simp)), cards_all (i + 1) ks p fun x hx => h x (by simp [hx]), List.length_cons, List.range_succ_eq_map, List.map_cons, List.map_map]
    congr 1
    refine List.map_congr_left fun j _ => ?_
    simp only [Function.comp]
    omega
theorem cards_congr {p q : Int → Bool} : ∀ (i : Nat) (ks : List Int), (∀ k, k ∈ ks → p k = q k) → cardsF p i ks = cardsF q i ks
  | _, [], _ => rfl
  | i, k :: ks, h => by
    unfold cardsF
    rw [h k (by simp), cards_congr (i + 1) ks fun x hx => h x (by simp [hx])]
theorem cards_or {p q : Int → Bool} (hd : ∀ k, p k = true → q k = true → False) : ∀ (i : Nat) (ks : List Int), (cardsF p i ks ++ cardsF q i ks).Perm (cardsF (fun k => p k || q k) i ks)
  | _, [] => .refl _
  | i, k :: ks => by
    have ih := cards_or hd (i + 1) ks
    unfold cardsF
    cases hp : p k with
    | true =>
      cases hq : q k with
      | true => exact (hd k hp hq).elim
      | false => simpa using ih
    | false =>
      cases hq : q k with
      | true => simpa using List.perm_middle.trans (List.Perm.cons _ ih)
      | false => simpa using ih
theorem raw_perm : ∀ (th : Thr) (deck : List Int), (kinds th).Nodup → (rawOrder th deck).Perm (cardsF (fun k => (kinds th).contains k) 0 deck)
  | [], deck, _ => by
    have : ∀ (i : Nat) (ks : List Int), cardsF (fun k => (kinds []).contains k) i ks = [] := by
      intro i ks
      induction ks generalizing i with
      | nil => rfl
      | cons k ks ih => unfold cardsF; simp [kinds] ; simpa [kinds] using ih (i + 1)
    rw [this]
    exact .refl _
  | p :: th, deck, nd => by
    have e : kinds (p :: th) = p.1 ++ kinds th := by simp [kinds]
    rw [e] at nd
    obtain ⟨n1, n2, n3⟩ := List.nodup_append.mp nd
    have ih := raw_perm th deck n2
    have e2 : rawOrder (p :: th) deck = heapOf deck p ++ rawOrder th deck := by simp [rawOrder]
    rw [e2, e]
    have h1 : (heapOf deck p).Perm (cardsF (fun k => p.1.contains k) 0 deck) := by
      unfold heapOf
      split
      · exact .refl _
      · exact List.reverse_perm _
    refine (h1.append ih).trans ((cards_or (fun k a b => ?_) 0 deck).trans ?_)
    · exact n3 k (by simpa using a) k (by simpa using b) rfl
    · rw [cards_congr 0 deck (q := fun k => (p.1 ++ kinds th).contains k) fun k _ => by simp [List.contains_eq_mem]]
theorem ThrowOk.nodup {th : Thr} (h : ThrowOk th) : (kinds th).Nodup := (List.Perm.nodup_iff h.perm).mpr (row_nodup _)
theorem raw_ord {th : Thr} {deck : List Int} (h : ThrowOk th) (hd : ∀ k, k ∈ deck → 0 ≤ k ∧ k < (kinds th).length) : Ord deck.length (rawOrder th deck) := by
  refine (raw_perm th deck h.nodup).trans ?_
  rw [cards_all 0 deck _ fun k hk => by
    have := (List.Perm.mem_iff h.perm).mpr (mem_row.mpr (hd k hk))
    simpa using this]
  have : (fun (j : Nat) => ((0 + j : Nat) : Int)) = fun (j : Nat) => (j : Int) := by funext j; simp
  rw [this]
  exact .refl _
/-- counting -/
def countsL (size : Nat) (deck : List Int) : List Int := (row size).map fun k => ((deck.filter fun c => decide (c = k)).length : Int)
theorem counts_perm {size : Nat} {d e : List Int} (h : d.Perm e) : countsL size d = countsL size e := by
  unfold countsL
  refine List.map_congr_left fun k _ => ?_
  rw [(h.filter _).length_eq]
end T01
end P20
section P21
open PySem PySem.Spec PyProof.Rows L2 HT Q
namespace T01
abbrev tupI (xs : List Int) : PyData := .tuple (xs.map .int)
def lotD (p : List Int × Int) : PyData := .tuple [tupI p.1, .int p.2]
def thrD (th : Thr) : PyData := .tuple (th.map lotD)
theorem and_b {p q : Bool} {R : PyData → Prop} (h : R (.bool (p && q))) : if p = true then R (.bool q) else R (.bool false) := by cases p <;> simpa using h
theorem at_int {xs : List Int} {c : Int} (h0 : 0 ≤ c) (h1 : c < xs.length) : atI (xs.map PyData.int) c = some (.int (xs.getD c.toNat 0)) := by
  obtain ⟨n, rfl⟩ := Int.eq_ofNat_of_zero_le h0
  refine atI_nat ?_
  have h2 : n < xs.length := by omega
  simp [List.getD_eq_getElem?_getD, h2]
theorem all_tr {α : Type} {l : List α} : ((l.map fun _ => true).all fun b => b) = true := by simp [Function.comp_def]
/-! ### looks -/
def sp_is_integer : PSpec := fun as R => ∃ i : Int, as = [.d (.int i)] ∧ R (.bool true)
theorem len_is_integer : ∀ as R, sp_is_integer as R → as.length = 1 := by rintro as R ⟨i, rfl, _⟩; rfl
theorem rd_is_integer : ∀ as R, sp_is_integer as R → t_is_integer { nx := fun _ => R .none, rt := R } (enOf as 0) := by
  rintro as R ⟨i, rfl, h⟩
  simpa only [t_is_integer, Q.enOf, Q.tV, Q.tK, Q.t2, Q.t1, Q.tB, Q.cI, Q.cIp, Q.addI, Q.subI, Q.mulI, Q.fdivI, Q.modI, Q.powI, Q.ltI, Q.leI, Q.gtI, Q.geI, Q.negI, Q.vAnd, Q.vOr, Q.vNot, Q.qAnd, Q.qOr, Q.qNot, Q.qIf, Q.chI, Q.tTupQ, Q.dNil, Q.dCons, Q.tLstQ, Q.tFz, Q.tCA, Q.lenD, Q.tupD, Q.isD, Q.isInt, Q.isBool, Q.isTup, Q.isStr, Q.isLst, Q.tLenN, Q.tIxN, Q.setQ, Q.aNil, Q.aD, Q.aK, Q.tCallQ, Q.tCallKQ, Q.pick, Q.sNil, Q.sSeq, Q.sRet, Q.sRetN, Q.sExpr, Q.sIf, Q.sSet, Q.sSetL, Q.sAsg, Q.sFor, Q.sPar2, Q.sPar3, Q.pNil, Q.pD, Q.pO, Q.pDn, Q.gN, Q.gT, Q.gsNil, Q.gsCons, Q.iQ, Q.itD, Q.iEn, Q.itE, Q.rg1, Q.rg2, Q.oNone, Q.oSome, Q.tSlQ, Q.revD, Q.tOwnM, Q.appC, Q.popC, Q.extC, Q.ownL, Q.tRepL, Q.repC, Q.sSetIx, Q.ixOwn, Q.tLcQ, Q.noOwn, Q.rstQ, Q.wipeQ, Q.sDn, Q.sSetD, Q.tDgetN, Q.dOwn, Q.tTupRg, Q.sNever, Q.isB, Q.listD, Q.listC, Q.reprD, Q.Sl.isOwn, List.map_cons, List.map_nil, List.replicate_succ, List.replicate_zero, List.cons_append, List.nil_append, List.append_nil, List.getElem?_cons_zero, List.getElem?_cons_succ, List.set_cons_zero, List.set_cons_succ, List.getD_cons_zero, List.getD_cons_succ, List.filterMap_cons, List.filterMap_nil, List.all_cons, List.all_nil, Bool.and_true, Bool.true_and, Bool.not_true, Bool.not_false, Bool.not_eq_true, Bool.false_eq_true, Bool.and_self, if_true, if_false, true_and, and_true, ↓reduceIte] using h
def sp_is_between : PSpec := fun as R => ∃ i a b : Int, as = [.d (.int i), .d (.int a), .d (.int b)] ∧ R (.bool (decide (a ≤ i) && decide (i ≤ b)))
theorem len_is_between : ∀ as R, sp_is_between as R → as.length = 3 := by rintro as R ⟨i, a, b, rfl, _⟩; rfl
theorem rd_is_between : ∀ as R, sp_is_between as R → t_is_between sp_is_integer { nx := fun _ => R .none, rt := R } (enOf as 0) := by
  rintro as R ⟨i, a, b, rfl, h⟩
  simp only [t_is_between, Q.enOf, Q.tV, Q.tK, Q.t2, Q.t1, Q.tB, Q.cI, Q.cIp, Q.addI, Q.subI, Q.mulI, Q.fdivI, Q.modI, Q.powI, Q.ltI, Q.leI, Q.gtI, Q.geI, Q.negI, Q.vAnd, Q.vOr, Q.vNot, Q.qAnd, Q.qOr, Q.qNot, Q.qIf, Q.chI, Q.tTupQ, Q.dNil, Q.dCons, Q.tLstQ, Q.tFz, Q.tCA, Q.lenD, Q.tupD, Q.isD, Q.isInt, Q.isBool, Q.isTup, Q.isStr, Q.isLst, Q.tLenN, Q.tIxN, Q.setQ, Q.aNil, Q.aD, Q.aK, Q.tCallQ, Q.tCallKQ, Q.pick, Q.sNil, Q.sSeq, Q.sRet, Q.sRetN, Q.sExpr, Q.sIf, Q.sSet, Q.sSetL, Q.sAsg, Q.sFor, Q.sPar2, Q.sPar3, Q.pNil, Q.pD, Q.pO, Q.pDn, Q.gN, Q.gT, Q.gsNil, Q.gsCons, Q.iQ, Q.itD, Q.iEn, Q.itE, Q.rg1, Q.rg2, Q.oNone, Q.oSome, Q.tSlQ, Q.revD, Q.tOwnM, Q.appC, Q.popC, Q.extC, Q.ownL, Q.tRepL, Q.repC, Q.sSetIx, Q.ixOwn, Q.tLcQ, Q.noOwn, Q.rstQ, Q.wipeQ, Q.sDn, Q.sSetD, Q.tDgetN, Q.dOwn, Q.tTupRg, Q.sNever, Q.isB, Q.listD, Q.listC, Q.reprD, Q.Sl.isOwn, List.map_cons, List.map_nil, List.replicate_succ, List.replicate_zero, List.cons_append, List.nil_append, List.append_nil, List.getElem?_cons_zero, List.getElem?_cons_succ, List.set_cons_zero, List.set_cons_succ, List.getD_cons_zero, List.getD_cons_succ, List.filterMap_cons, List.filterMap_nil, List.all_cons, List.all_nil, Bool.and_true, Bool.true_and, Bool.not_true, Bool.not_false, Bool.not_eq_true, Bool.false_eq_true, Bool.and_self, if_true, if_false, true_and, and_true, ↓reduceIte]
  refine ⟨i, rfl, ?_⟩
  simp only [Q.enOf, Q.tV, Q.tK, Q.t2, Q.t1, Q.tB, Q.cI, Q.cIp, Q.addI, Q.subI, Q.mulI, Q.fdivI, Q.modI, Q.powI, Q.ltI, Q.leI, Q.gtI, Q.geI, Q.negI, Q.vAnd, Q.vOr, Q.vNot, Q.qAnd, Q.qOr, Q.qNot, Q.qIf, Q.chI, Q.tTupQ, Q.dNil, Q.dCons, Q.tLstQ, Q.tFz, Q.tCA, Q.lenD, Q.tupD, Q.isD, Q.isInt, Q.isBool, Q.isTup, Q.isStr, Q.isLst, Q.tLenN, Q.tIxN, Q.setQ, Q.aNil, Q.aD, Q.aK, Q.tCallQ, Q.tCallKQ, Q.pick, Q.sNil, Q.sSeq, Q.sRet, Q.sRetN, Q.sExpr, Q.sIf, Q.sSet, Q.sSetL, Q.sAsg, Q.sFor, Q.sPar2, Q.sPar3, Q.pNil, Q.pD, Q.pO, Q.pDn, Q.gN, Q.gT, Q.gsNil, Q.gsCons, Q.iQ, Q.itD, Q.iEn, Q.itE, Q.rg1, Q.rg2, Q.oNone, Q.oSome, Q.tSlQ, Q.revD, Q.tOwnM, Q.appC, Q.popC, Q.extC, Q.ownL, Q.tRepL, Q.repC, Q.sSetIx, Q.ixOwn, Q.tLcQ, Q.noOwn, Q.rstQ, Q.wipeQ, Q.sDn, Q.sSetD, Q.tDgetN, Q.dOwn, Q.tTupRg, Q.sNever, Q.isB, Q.listD, Q.listC, Q.reprD, Q.Sl.isOwn, List.map_cons, List.map_nil, List.replicate_succ, List.replicate_zero, List.cons_append, List.nil_append, List.append_nil, List.getElem?_cons_zero, List.getElem?_cons_succ, List.set_cons_zero, List.set_cons_succ, List.getD_cons_zero, List.getD_cons_succ, List.filterMap_cons, List.filterMap_nil, List.all_cons, List.all_nil, Bool.and_true, Bool.true_and, Bool.not_true, Bool.not_false, Bool.not_eq_true, Bool.false_eq_true, Bool.and_self, if_true, if_false, true_and, and_true, ↓reduceIte]
  exact and_b h
def sp_are_between : PSpec := fun as R => ∃ (xs : List Int) (a b : Int), as = [.d (tupI xs), .d (.int a), .d (.int b)] ∧ R (.bool (xs.all fun i => decide (a ≤ i) && decide (i ≤ b)))
theorem len_are_between : ∀ as R, sp_are_between as R → as.length = 3 := by rintro as R ⟨i, a, b, rfl, _⟩; rfl
theorem rd_are_between : ∀ as R, sp_are_between as R → t_are_between sp_is_between { nx := fun _ => R .none, rt := R } (enOf as 1) := by
  rintro as R ⟨xs, a, b, rfl, h⟩
  simp only [t_are_between, tupI, Q.enOf, Q.tV, Q.tK, Q.t2, Q.t1, Q.tB, Q.cI, Q.cIp, Q.addI, Q.subI, Q.mulI, Q.fdivI, Q.modI, Q.powI, Q.ltI, Q.leI, Q.gtI, Q.geI, Q.negI, Q.vAnd, Q.vOr, Q.vNot, Q.qAnd, Q.qOr, Q.qNot, Q.qIf, Q.chI, Q.tTupQ, Q.dNil, Q.dCons, Q.tLstQ, Q.tFz, Q.tCA, Q.lenD, Q.tupD, Q.isD, Q.isInt, Q.isBool, Q.isTup, Q.isStr, Q.isLst, Q.tLenN, Q.tIxN, Q.setQ, Q.aNil, Q.aD, Q.aK, Q.tCallQ, Q.tCallKQ, Q.pick, Q.sNil, Q.sSeq, Q.sRet, Q.sRetN, Q.sExpr, Q.sIf, Q.sSet, Q.sSetL, Q.sAsg, Q.sFor, Q.sPar2, Q.sPar3, Q.pNil, Q.pD, Q.pO, Q.pDn, Q.gN, Q.gT, Q.gsNil, Q.gsCons, Q.iQ, Q.itD, Q.iEn, Q.itE, Q.rg1, Q.rg2, Q.oNone, Q.oSome, Q.tSlQ, Q.revD, Q.tOwnM, Q.appC, Q.popC, Q.extC, Q.ownL, Q.tRepL, Q.repC, Q.sSetIx, Q.ixOwn, Q.tLcQ, Q.noOwn, Q.rstQ, Q.wipeQ, Q.sDn, Q.sSetD, Q.tDgetN, Q.dOwn, Q.tTupRg, Q.sNever, Q.isB, Q.listD, Q.listC, Q.reprD, Q.Sl.isOwn, List.map_cons, List.map_nil, List.replicate_succ, List.replicate_zero, List.cons_append, List.nil_append, List.append_nil, List.getElem?_cons_zero, List.getElem?_cons_succ, List.set_cons_zero, List.set_cons_succ, List.getD_cons_zero, List.getD_cons_succ, List.filterMap_cons, List.filterMap_nil, List.all_cons, List.all_nil, Bool.and_true, Bool.true_and, Bool.not_true, Bool.not_false, Bool.not_eq_true, Bool.false_eq_true, Bool.and_self, if_true, if_false, true_and, and_true, ↓reduceIte]
  refine comp_map (fun y => match y with | .int i => .bool (decide (a ≤ i) && decide (i ≤ b)) | _ => .none) (fun x hx Rk hk => ?_) ?_
  · obtain ⟨i, hi, rfl⟩ := List.mem_map.mp hx
    simp only [Q.enOf, Q.tV, Q.tK, Q.t2, Q.t1, Q.tB, Q.cI, Q.cIp, Q.addI, Q.subI, Q.mulI, Q.fdivI, Q.modI, Q.powI, Q.ltI, Q.leI, Q.gtI, Q.geI, Q.negI, Q.vAnd, Q.vOr, Q.vNot, Q.qAnd, Q.qOr, Q.qNot, Q.qIf, Q.chI, Q.tTupQ, Q.dNil, Q.dCons, Q.tLstQ, Q.tFz, Q.tCA, Q.lenD, Q.tupD, Q.isD, Q.isInt, Q.isBool, Q.isTup, Q.isStr, Q.isLst, Q.tLenN, Q.tIxN, Q.setQ, Q.aNil, Q.aD, Q.aK, Q.tCallQ, Q.tCallKQ, Q.pick, Q.sNil, Q.sSeq, Q.sRet, Q.sRetN, Q.sExpr, Q.sIf, Q.sSet, Q.sSetL, Q.sAsg, Q.sFor, Q.sPar2, Q.sPar3, Q.pNil, Q.pD, Q.pO, Q.pDn, Q.gN, Q.gT, Q.gsNil, Q.gsCons, Q.iQ, Q.itD, Q.iEn, Q.itE, Q.rg1, Q.rg2, Q.oNone, Q.oSome, Q.tSlQ, Q.revD, Q.tOwnM, Q.appC, Q.popC, Q.extC, Q.ownL, Q.tRepL, Q.repC, Q.sSetIx, Q.ixOwn, Q.tLcQ, Q.noOwn, Q.rstQ, Q.wipeQ, Q.sDn, Q.sSetD, Q.tDgetN, Q.dOwn, Q.tTupRg, Q.sNever, Q.isB, Q.listD, Q.listC, Q.reprD, Q.Sl.isOwn, List.map_cons, List.map_nil, List.replicate_succ, List.replicate_zero, List.cons_append, List.nil_append, List.append_nil, List.getElem?_cons_zero, List.getElem?_cons_succ, List.set_cons_zero, List.set_cons_succ, List.getD_cons_zero, List.getD_cons_succ, List.filterMap_cons, List.filterMap_nil, List.all_cons, List.all_nil, Bool.and_true, Bool.true_and, Bool.not_true, Bool.not_false, Bool.not_eq_true, Bool.false_eq_true, Bool.and_self, if_true, if_false, true_and, and_true, ↓reduceIte]
    refine ⟨i, a, b, rfl, ?_⟩
    refine hk _ ?_
    simp only [Q.enOf, Q.tV, Q.tK, Q.t2, Q.t1, Q.tB, Q.cI, Q.cIp, Q.addI, Q.subI, Q.mulI, Q.fdivI, Q.modI, Q.powI, Q.ltI, Q.leI, Q.gtI, Q.geI, Q.negI, Q.vAnd, Q.vOr, Q.vNot, Q.qAnd, Q.qOr, Q.qNot, Q.qIf, Q.chI, Q.tTupQ, Q.dNil, Q.dCons, Q.tLstQ, Q.tFz, Q.tCA, Q.lenD, Q.tupD, Q.isD, Q.isInt, Q.isBool, Q.isTup, Q.isStr, Q.isLst, Q.tLenN, Q.tIxN, Q.setQ, Q.aNil, Q.aD, Q.aK, Q.tCallQ, Q.tCallKQ, Q.pick, Q.sNil, Q.sSeq, Q.sRet, Q.sRetN, Q.sExpr, Q.sIf, Q.sSet, Q.sSetL, Q.sAsg, Q.sFor, Q.sPar2, Q.sPar3, Q.pNil, Q.pD, Q.pO, Q.pDn, Q.gN, Q.gT, Q.gsNil, Q.gsCons, Q.iQ, Q.itD, Q.iEn, Q.itE, Q.rg1, Q.rg2, Q.oNone, Q.oSome, Q.tSlQ, Q.revD, Q.tOwnM, Q.appC, Q.popC, Q.extC, Q.ownL, Q.tRepL, Q.repC, Q.sSetIx, Q.ixOwn, Q.tLcQ, Q.noOwn, Q.rstQ, Q.wipeQ, Q.sDn, Q.sSetD, Q.tDgetN, Q.dOwn, Q.tTupRg, Q.sNever, Q.isB, Q.listD, Q.listC, Q.reprD, Q.Sl.isOwn, List.map_cons, List.map_nil, List.replicate_succ, List.replicate_zero, List.cons_append, List.nil_append, List.append_nil, List.getElem?_cons_zero, List.getElem?_cons_succ, List.set_cons_zero, List.set_cons_succ, List.getD_cons_zero, List.getD_cons_succ, List.filterMap_cons, List.filterMap_nil, List.all_cons, List.all_nil, Bool.and_true, Bool.true_and, Bool.not_true, Bool.not_false, Bool.not_eq_true, Bool.false_eq_true, Bool.and_self, if_true, if_false, true_and, and_true, ↓reduceIte]
  · simp only [Q.enOf, Q.tV, Q.tK, Q.t2, Q.t1, Q.tB, Q.cI, Q.cIp, Q.addI, Q.subI, Q.mulI, Q.fdivI, Q.modI, Q.powI, Q.ltI, Q.leI, Q.gtI, Q.geI, Q.negI, Q.vAnd, Q.vOr, Q.vNot, Q.qAnd, Q.qOr, Q.qNot, Q.qIf, Q.chI, Q.tTupQ, Q.dNil, Q.dCons, Q.tLstQ, Q.tFz, Q.tCA, Q.lenD, Q.tupD, Q.isD, Q.isInt, Q.isBool, Q.isTup, Q.isStr, Q.isLst, Q.tLenN, Q.tIxN, Q.setQ, Q.aNil, Q.aD, Q.aK, Q.tCallQ, Q.tCallKQ, Q.pick, Q.sNil, Q.sSeq, Q.sRet, Q.sRetN, Q.sExpr, Q.sIf, Q.sSet, Q.sSetL, Q.sAsg, Q.sFor, Q.sPar2, Q.sPar3, Q.pNil, Q.pD, Q.pO, Q.pDn, Q.gN, Q.gT, Q.gsNil, Q.gsCons, Q.iQ, Q.itD, Q.iEn, Q.itE, Q.rg1, Q.rg2, Q.oNone, Q.oSome, Q.tSlQ, Q.revD, Q.tOwnM, Q.appC, Q.popC, Q.extC, Q.ownL, Q.tRepL, Q.repC, Q.sSetIx, Q.ixOwn, Q.tLcQ, Q.noOwn, Q.rstQ, Q.wipeQ, Q.sDn, Q.sSetD, Q.tDgetN, Q.dOwn, Q.tTupRg, Q.sNever, Q.isB, Q.listD, Q.listC, Q.reprD, Q.Sl.isOwn, List.map_cons, List.map_nil, List.replicate_succ, List.replicate_zero, List.cons_append, List.nil_append, List.append_nil, List.getElem?_cons_zero, List.getElem?_cons_succ, List.set_cons_zero, List.set_cons_succ, List.getD_cons_zero, List.getD_cons_succ, List.filterMap_cons, List.filterMap_nil, List.all_cons, List.all_nil, Bool.and_true, Bool.true_and, Bool.not_true, Bool.not_false, Bool.not_eq_true, Bool.false_eq_true, Bool.and_self, if_true, if_false, true_and, and_true, ↓reduceIte, allD]
    refine ⟨xs.map fun i => decide (a ≤ i) && decide (i ≤ b), by simp, ?_⟩
    simpa [Function.comp_def] using h
theorem all_in {xs : List Int} {a b : Int} (h : ∀ i, i ∈ xs → a ≤ i ∧ i ≤ b) : (xs.all fun i => decide (a ≤ i) && decide (i ≤ b)) = true := by
  rw [List.all_eq_true]
  intro i hi
  simp [h i hi]
def sp_is_size : PSpec := fun as R => ∃ i : Int, as = [.d (.int i)] ∧ 1 ≤ i ∧ i ≤ 8 ∧ R (.bool true)
theorem len_is_size : ∀ as R, sp_is_size as R → as.length = 1 := by rintro as R ⟨i, rfl, _⟩; rfl
theorem rd_is_size : ∀ as R, sp_is_size as R → t_is_size sp_is_between { nx := fun _ => R .none, rt := R } (enOf as 0) := by
  rintro as R ⟨i, rfl, h1, h2, h⟩
  simp only [t_is_size, Q.enOf, Q.tV, Q.tK, Q.t2, Q.t1, Q.tB, Q.cI, Q.cIp, Q.addI, Q.subI, Q.mulI, Q.fdivI, Q.modI, Q.powI, Q.ltI, Q.leI, Q.gtI, Q.geI, Q.negI, Q.vAnd, Q.vOr, Q.vNot, Q.qAnd, Q.qOr, Q.qNot, Q.qIf, Q.chI, Q.tTupQ, Q.dNil, Q.dCons, Q.tLstQ, Q.tFz, Q.tCA, Q.lenD, Q.tupD, Q.isD, Q.isInt, Q.isBool, Q.isTup, Q.isStr, Q.isLst, Q.tLenN, Q.tIxN, Q.setQ, Q.aNil, Q.aD, Q.aK, Q.tCallQ, Q.tCallKQ, Q.pick, Q.sNil, Q.sSeq, Q.sRet, Q.sRetN, Q.sExpr, Q.sIf, Q.sSet, Q.sSetL, Q.sAsg, Q.sFor, Q.sPar2, Q.sPar3, Q.pNil, Q.pD, Q.pO, Q.pDn, Q.gN, Q.gT, Q.gsNil, Q.gsCons, Q.iQ, Q.itD, Q.iEn, Q.itE, Q.rg1, Q.rg2, Q.oNone, Q.oSome, Q.tSlQ, Q.revD, Q.tOwnM, Q.appC, Q.popC, Q.extC, Q.ownL, Q.tRepL, Q.repC, Q.sSetIx, Q.ixOwn, Q.tLcQ, Q.noOwn, Q.rstQ, Q.wipeQ, Q.sDn, Q.sSetD, Q.tDgetN, Q.dOwn, Q.tTupRg, Q.sNever, Q.isB, Q.listD, Q.listC, Q.reprD, Q.Sl.isOwn, List.map_cons, List.map_nil, List.replicate_succ, List.replicate_zero, List.cons_append, List.nil_append, List.append_nil, List.getElem?_cons_zero, List.getElem?_cons_succ, List.set_cons_zero, List.set_cons_succ, List.getD_cons_zero, List.getD_cons_succ, List.filterMap_cons, List.filterMap_nil, List.all_cons, List.all_nil, Bool.and_true, Bool.true_and, Bool.not_true, Bool.not_false, Bool.not_eq_true, Bool.false_eq_true, Bool.and_self, if_true, if_false, true_and, and_true, ↓reduceIte]
  refine ⟨i, 1, 8, rfl, ?_⟩
  simpa [h1, h2] using h
structure DeckOk (n : Int) (xs : List Int) : Prop where
  bd : ∀ i, i ∈ xs → 0 ≤ i ∧ i ≤ n - 1
  few : xs.length ≤ 60
def sp_is_deck_value : PSpec := fun as R => ∃ (n : Int) (xs : List Int), as = [.d (.int n), .d (tupI xs)] ∧ DeckOk n xs ∧ R (.bool true)
theorem len_is_deck_value : ∀ as R, sp_is_deck_value as R → as.length = 2 := by rintro as R ⟨i, xs, rfl, _⟩; rfl
theorem rd_is_deck_value : ∀ as R, sp_is_deck_value as R → t_is_deck_value sp_are_between { nx := fun _ => R .none, rt := R } (enOf as 0) := by
  rintro as R ⟨n, xs, rfl, h1, h⟩
  simp only [t_is_deck_value, tupI, Q.enOf, Q.tV, Q.tK, Q.t2, Q.t1, Q.tB, Q.cI, Q.cIp, Q.addI, Q.subI, Q.mulI, Q.fdivI, Q.modI, Q.powI, Q.ltI, Q.leI, Q.gtI, Q.geI, Q.negI, Q.vAnd, Q.vOr, Q.vNot, Q.qAnd, Q.qOr, Q.qNot, Q.qIf, Q.chI, Q.tTupQ, Q.dNil, Q.dCons, Q.tLstQ, Q.tFz, Q.tCA, Q.lenD, Q.tupD, Q.isD, Q.isInt, Q.isBool, Q.isTup, Q.isStr, Q.isLst, Q.tLenN, Q.tIxN, Q.setQ, Q.aNil, Q.aD, Q.aK, Q.tCallQ, Q.tCallKQ, Q.pick, Q.sNil, Q.sSeq, Q.sRet, Q.sRetN, Q.sExpr, Q.sIf, Q.sSet, Q.sSetL, Q.sAsg, Q.sFor, Q.sPar2, Q.sPar3, Q.pNil, Q.pD, Q.pO, Q.pDn, Q.gN, Q.gT, Q.gsNil, Q.gsCons, Q.iQ, Q.itD, Q.iEn, Q.itE, Q.rg1, Q.rg2, Q.oNone, Q.oSome, Q.tSlQ, Q.revD, Q.tOwnM, Q.appC, Q.popC, Q.extC, Q.ownL, Q.tRepL, Q.repC, Q.sSetIx, Q.ixOwn, Q.tLcQ, Q.noOwn, Q.rstQ, Q.wipeQ, Q.sDn, Q.sSetD, Q.tDgetN, Q.dOwn, Q.tTupRg, Q.sNever, Q.isB, Q.listD, Q.listC, Q.reprD, Q.Sl.isOwn, List.map_cons, List.map_nil, List.replicate_succ, List.replicate_zero, List.cons_append, List.nil_append, List.append_nil, List.getElem?_cons_zero, List.getElem?_cons_succ, List.set_cons_zero, List.set_cons_succ, List.getD_cons_zero, List.getD_cons_succ, List.filterMap_cons, List.filterMap_nil, List.all_cons, List.all_nil, Bool.and_true, Bool.true_and, Bool.not_true, Bool.not_false, Bool.not_eq_true, Bool.false_eq_true, Bool.and_self, if_true, if_false, true_and, and_true, ↓reduceIte]
  refine ⟨xs, 0, n - 1, rfl, ?_⟩
  rw [all_in h1.bd]
  simp only [Q.enOf, Q.tV, Q.tK, Q.t2, Q.t1, Q.tB, Q.cI, Q.cIp, Q.addI, Q.subI, Q.mulI, Q.fdivI, Q.modI, Q.powI, Q.ltI, Q.leI, Q.gtI, Q.geI, Q.negI, Q.vAnd, Q.vOr, Q.vNot, Q.qAnd, Q.qOr, Q.qNot, Q.qIf, Q.chI, Q.tTupQ, Q.dNil, Q.dCons, Q.tLstQ, Q.tFz, Q.tCA, Q.lenD, Q.tupD, Q.isD, Q.isInt, Q.isBool, Q.isTup, Q.isStr, Q.isLst, Q.tLenN, Q.tIxN, Q.setQ, Q.aNil, Q.aD, Q.aK, Q.tCallQ, Q.tCallKQ, Q.pick, Q.sNil, Q.sSeq, Q.sRet, Q.sRetN, Q.sExpr, Q.sIf, Q.sSet, Q.sSetL, Q.sAsg, Q.sFor, Q.sPar2, Q.sPar3, Q.pNil, Q.pD, Q.pO, Q.pDn, Q.gN, Q.gT, Q.gsNil, Q.gsCons, Q.iQ, Q.itD, Q.iEn, Q.itE, Q.rg1, Q.rg2, Q.oNone, Q.oSome, Q.tSlQ, Q.revD, Q.tOwnM, Q.appC, Q.popC, Q.extC, Q.ownL, Q.tRepL, Q.repC, Q.sSetIx, Q.ixOwn, Q.tLcQ, Q.noOwn, Q.rstQ, Q.wipeQ, Q.sDn, Q.sSetD, Q.tDgetN, Q.dOwn, Q.tTupRg, Q.sNever, Q.isB, Q.listD, Q.listC, Q.reprD, Q.Sl.isOwn, List.map_cons, List.map_nil, List.replicate_succ, List.replicate_zero, List.cons_append, List.nil_append, List.append_nil, List.getElem?_cons_zero, List.getElem?_cons_succ, List.set_cons_zero, List.set_cons_succ, List.getD_cons_zero, List.getD_cons_succ, List.filterMap_cons, List.filterMap_nil, List.all_cons, List.all_nil, Bool.and_true, Bool.true_and, Bool.not_true, Bool.not_false, Bool.not_eq_true, Bool.false_eq_true, Bool.and_self, if_true, if_false, true_and, and_true, ↓reduceIte, List.length_map]
  have : decide ((xs.length : Int) ≤ 60) = true := by have := h1.few; simp; omega
  rw [this]
  exact h
def sp_is_order_value : PSpec := fun as R => ∃ (n : Nat) (xs : List Int), as = [.d (.int n), .d (tupI xs)] ∧ Ord n xs ∧ n ≤ 60 ∧ R (.bool true)
theorem len_is_order_value : ∀ as R, sp_is_order_value as R → as.length = 2 := by rintro as R ⟨i, xs, rfl, _⟩; rfl
theorem rd_is_order_value : ∀ as R, sp_is_order_value as R → t_is_order_value sp_are_between { nx := fun _ => R .none, rt := R } (enOf as 0) := by
  rintro as R ⟨n, xs, rfl, h1, h2, h⟩
  simp only [t_is_order_value, tupI, Q.enOf, Q.tV, Q.tK, Q.t2, Q.t1, Q.tB, Q.cI, Q.cIp, Q.addI, Q.subI, Q.mulI, Q.fdivI, Q.modI, Q.powI, Q.ltI, Q.leI, Q.gtI, Q.geI, Q.negI, Q.vAnd, Q.vOr, Q.vNot, Q.qAnd, Q.qOr, Q.qNot, Q.qIf, Q.chI, Q.tTupQ, Q.dNil, Q.dCons, Q.tLstQ, Q.tFz, Q.tCA, Q.lenD, Q.tupD, Q.isD, Q.isInt, Q.isBool, Q.isTup, Q.isStr, Q.isLst, Q.tLenN, Q.tIxN, Q.setQ, Q.aNil, Q.aD, Q.aK, Q.tCallQ, Q.tCallKQ, Q.pick, Q.sNil, Q.sSeq, Q.sRet, Q.sRetN, Q.sExpr, Q.sIf, Q.sSet, Q.sSetL, Q.sAsg, Q.sFor, Q.sPar2, Q.sPar3, Q.pNil, Q.pD, Q.pO, Q.pDn, Q.gN, Q.gT, Q.gsNil, Q.gsCons, Q.iQ, Q.itD, Q.iEn, Q.itE, Q.rg1, Q.rg2, Q.oNone, Q.oSome, Q.tSlQ, Q.revD, Q.tOwnM, Q.appC, Q.popC, Q.extC, Q.ownL, Q.tRepL, Q.repC, Q.sSetIx, Q.ixOwn, Q.tLcQ, Q.noOwn, Q.rstQ, Q.wipeQ, Q.sDn, Q.sSetD, Q.tDgetN, Q.dOwn, Q.tTupRg, Q.sNever, Q.isB, Q.listD, Q.listC, Q.reprD, Q.Sl.isOwn, List.map_cons, List.map_nil, List.replicate_succ, List.replicate_zero, List.cons_append, List.nil_append, List.append_nil, List.getElem?_cons_zero, List.getElem?_cons_succ, List.set_cons_zero, List.set_cons_succ, List.getD_cons_zero, List.getD_cons_succ, List.filterMap_cons, List.filterMap_nil, List.all_cons, List.all_nil, Bool.and_true, Bool.true_and, Bool.not_true, Bool.not_false, Bool.not_eq_true, Bool.false_eq_true, Bool.and_self, if_true, if_false, true_and, and_true, ↓reduceIte]
  refine ⟨xs, 0, n - 1, rfl, ?_⟩
  rw [all_in fun i hi => by have := h1.mem hi; omega]
  simp only [Q.enOf, Q.tV, Q.tK, Q.t2, Q.t1, Q.tB, Q.cI, Q.cIp, Q.addI, Q.subI, Q.mulI, Q.fdivI, Q.modI, Q.powI, Q.ltI, Q.leI, Q.gtI, Q.geI, Q.negI, Q.vAnd, Q.vOr, Q.vNot, Q.qAnd, Q.qOr, Q.qNot, Q.qIf, Q.chI, Q.tTupQ, Q.dNil, Q.dCons, Q.tLstQ, Q.tFz, Q.tCA, Q.lenD, Q.tupD, Q.isD, Q.isInt, Q.isBool, Q.isTup, Q.isStr, Q.isLst, Q.tLenN, Q.tIxN, Q.setQ, Q.aNil, Q.aD, Q.aK, Q.tCallQ, Q.tCallKQ, Q.pick, Q.sNil, Q.sSeq, Q.sRet, Q.sRetN, Q.sExpr, Q.sIf, Q.sSet, Q.sSetL, Q.sAsg, Q.sFor, Q.sPar2, Q.sPar3, Q.pNil, Q.pD, Q.pO, Q.pDn, Q.gN, Q.gT, Q.gsNil, Q.gsCons, Q.iQ, Q.itD, Q.iEn, Q.itE, Q.rg1, Q.rg2, Q.oNone, Q.oSome, Q.tSlQ, Q.revD, Q.tOwnM, Q.appC, Q.popC, Q.extC, Q.ownL, Q.tRepL, Q.repC, Q.sSetIx, Q.ixOwn, Q.tLcQ, Q.noOwn, Q.rstQ, Q.wipeQ, Q.sDn, Q.sSetD, Q.tDgetN, Q.dOwn, Q.tTupRg, Q.sNever, Q.isB, Q.listD, Q.listC, Q.reprD, Q.Sl.isOwn, List.map_cons, List.map_nil, List.replicate_succ, List.replicate_zero, List.cons_append, List.nil_append, List.append_nil, List.getElem?_cons_zero, List.getElem?_cons_succ, List.set_cons_zero, List.set_cons_succ, List.getD_cons_zero, List.getD_cons_succ, List.filterMap_cons, List.filterMap_nil, List.all_cons, List.all_nil, Bool.and_true, Bool.true_and, Bool.not_true, Bool.not_false, Bool.not_eq_true, Bool.false_eq_true, Bool.and_self, if_true, if_false, true_and, and_true, ↓reduceIte, List.length_map, eqD, sh_int, eqv_int, h1.length, decide_true, true_and, lenSetT]
  refine ⟨xs, rfl, by rw [h1.length]; omega, fun ks hk hm => ?_⟩
  have : ks.length = n := by
    rw [← h1.length]
    refine List.Perm.length_eq ((List.perm_ext_iff_of_nodup hk h1.nodup).mpr hm)
  simp only [this, decide_true]
  exact h
def sp_is_lot_value : PSpec := fun as R => ∃ (lot : List Int) (sg : Int), as = [.d (lotD (lot, sg))] ∧ LotOk lot sg ∧ R (.bool true)
theorem len_is_lot_value : ∀ as R, sp_is_lot_value as R → as.length = 1 := by rintro as R ⟨i, xs, rfl, _⟩; rfl
theorem at0 {x y : PyData} : atI [x, y] 0 = some x := atI_nat (j := 0) rfl
theorem at1 {x y : PyData} : atI [x, y] 1 = some y := atI_nat (j := 1) rfl
theorem up_at {xs : List Int} (h : xs.Pairwise (· < ·)) {i : Nat} (h1 : 1 ≤ i) (h2 : i < xs.length) : xs.getD (i - 1) 0 < xs.getD i 0 := by
  have := List.pairwise_iff_getElem.mp h (i - 1) i (by omega) h2 (by omega)
  have h3 : i - 1 < xs.length := by omega
  simpa [List.getD_eq_getElem?_getD, h2, h3] using this
theorem rd_is_lot_value : ∀ as R, sp_is_lot_value as R → t_is_lot_value sp_is_integer sp_are_between { nx := fun _ => R .none, rt := R } (enOf as 2) := by
  rintro as R ⟨lot, sg, rfl, h1, h⟩
  simp only [t_is_lot_value, lotD, Q.enOf, Q.tV, Q.tK, Q.t2, Q.t1, Q.tB, Q.cI, Q.cIp, Q.addI, Q.subI, Q.mulI, Q.fdivI, Q.modI, Q.powI, Q.ltI, Q.leI, Q.gtI, Q.geI, Q.negI, Q.vAnd, Q.vOr, Q.vNot, Q.qAnd, Q.qOr, Q.qNot, Q.qIf, Q.chI, Q.tTupQ, Q.dNil, Q.dCons, Q.tLstQ, Q.tFz, Q.tCA, Q.lenD, Q.tupD, Q.isD, Q.isInt, Q.isBool, Q.isTup, Q.isStr, Q.isLst, Q.tLenN, Q.tIxN, Q.setQ, Q.aNil, Q.aD, Q.aK, Q.tCallQ, Q.tCallKQ, Q.pick, Q.sNil, Q.sSeq, Q.sRet, Q.sRetN, Q.sExpr, Q.sIf, Q.sSet, Q.sSetL, Q.sAsg, Q.sFor, Q.sPar2, Q.sPar3, Q.pNil, Q.pD, Q.pO, Q.pDn, Q.gN, Q.gT, Q.gsNil, Q.gsCons, Q.iQ, Q.itD, Q.iEn, Q.itE, Q.rg1, Q.rg2, Q.oNone, Q.oSome, Q.tSlQ, Q.revD, Q.tOwnM, Q.appC, Q.popC, Q.extC, Q.ownL, Q.tRepL, Q.repC, Q.sSetIx, Q.ixOwn, Q.tLcQ, Q.noOwn, Q.rstQ, Q.wipeQ, Q.sDn, Q.sSetD, Q.tDgetN, Q.dOwn, Q.tTupRg, Q.sNever, Q.isB, Q.listD, Q.listC, Q.reprD, Q.Sl.isOwn, List.map_cons, List.map_nil, List.replicate_succ, List.replicate_zero, List.cons_append, List.nil_append, List.append_nil, List.getElem?_cons_zero, List.getElem?_cons_succ, List.set_cons_zero, List.set_cons_succ, List.getD_cons_zero, List.getD_cons_succ, List.filterMap_cons, List.filterMap_nil, List.all_cons, List.all_nil, Bool.and_true, Bool.true_and, Bool.not_true, Bool.not_false, Bool.not_eq_true, Bool.false_eq_true, Bool.and_self, if_true, if_false, true_and, and_true, ↓reduceIte, neD, ixD, sh_int, eqv_int, true_and]
  simp only [List.length_cons, List.length_nil, Nat.zero_add, Nat.reduceAdd]
  have e2 : (!decide ((((2 : Nat) : Int)) = 2)) = false := by decide
  rw [e2]
  simp only [Q.enOf, Q.tV, Q.tK, Q.t2, Q.t1, Q.tB, Q.cI, Q.cIp, Q.addI, Q.subI, Q.mulI, Q.fdivI, Q.modI, Q.powI, Q.ltI, Q.leI, Q.gtI, Q.geI, Q.negI, Q.vAnd, Q.vOr, Q.vNot, Q.qAnd, Q.qOr, Q.qNot, Q.qIf, Q.chI, Q.tTupQ, Q.dNil, Q.dCons, Q.tLstQ, Q.tFz, Q.tCA, Q.lenD, Q.tupD, Q.isD, Q.isInt, Q.isBool, Q.isTup, Q.isStr, Q.isLst, Q.tLenN, Q.tIxN, Q.setQ, Q.aNil, Q.aD, Q.aK, Q.tCallQ, Q.tCallKQ, Q.pick, Q.sNil, Q.sSeq, Q.sRet, Q.sRetN, Q.sExpr, Q.sIf, Q.sSet, Q.sSetL, Q.sAsg, Q.sFor, Q.sPar2, Q.sPar3, Q.pNil, Q.pD, Q.pO, Q.pDn, Q.gN, Q.gT, Q.gsNil, Q.gsCons, Q.iQ, Q.itD, Q.iEn, Q.itE, Q.rg1, Q.rg2, Q.oNone, Q.oSome, Q.tSlQ, Q.revD, Q.tOwnM, Q.appC, Q.popC, Q.extC, Q.ownL, Q.tRepL, Q.repC, Q.sSetIx, Q.ixOwn, Q.tLcQ, Q.noOwn, Q.rstQ, Q.wipeQ, Q.sDn, Q.sSetD, Q.tDgetN, Q.dOwn, Q.tTupRg, Q.sNever, Q.isB, Q.listD, Q.listC, Q.reprD, Q.Sl.isOwn, List.map_cons, List.map_nil, List.replicate_succ, List.replicate_zero, List.cons_append, List.nil_append, List.append_nil, List.getElem?_cons_zero, List.getElem?_cons_succ, List.set_cons_zero, List.set_cons_succ, List.getD_cons_zero, List.getD_cons_succ, List.filterMap_cons, List.filterMap_nil, List.all_cons, List.all_nil, Bool.and_true, Bool.true_and, Bool.not_true, Bool.not_false, Bool.not_eq_true, Bool.false_eq_true, Bool.and_self, if_true, if_false, true_and, and_true, ↓reduceIte]
  refine ⟨_, at1, ⟨sg, rfl, ?_⟩⟩
  simp only [Q.enOf, Q.tV, Q.tK, Q.t2, Q.t1, Q.tB, Q.cI, Q.cIp, Q.addI, Q.subI, Q.mulI, Q.fdivI, Q.modI, Q.powI, Q.ltI, Q.leI, Q.gtI, Q.geI, Q.negI, Q.vAnd, Q.vOr, Q.vNot, Q.qAnd, Q.qOr, Q.qNot, Q.qIf, Q.chI, Q.tTupQ, Q.dNil, Q.dCons, Q.tLstQ, Q.tFz, Q.tCA, Q.lenD, Q.tupD, Q.isD, Q.isInt, Q.isBool, Q.isTup, Q.isStr, Q.isLst, Q.tLenN, Q.tIxN, Q.setQ, Q.aNil, Q.aD, Q.aK, Q.tCallQ, Q.tCallKQ, Q.pick, Q.sNil, Q.sSeq, Q.sRet, Q.sRetN, Q.sExpr, Q.sIf, Q.sSet, Q.sSetL, Q.sAsg, Q.sFor, Q.sPar2, Q.sPar3, Q.pNil, Q.pD, Q.pO, Q.pDn, Q.gN, Q.gT, Q.gsNil, Q.gsCons, Q.iQ, Q.itD, Q.iEn, Q.itE, Q.rg1, Q.rg2, Q.oNone, Q.oSome, Q.tSlQ, Q.revD, Q.tOwnM, Q.appC, Q.popC, Q.extC, Q.ownL, Q.tRepL, Q.repC, Q.sSetIx, Q.ixOwn, Q.tLcQ, Q.noOwn, Q.rstQ, Q.wipeQ, Q.sDn, Q.sSetD, Q.tDgetN, Q.dOwn, Q.tTupRg, Q.sNever, Q.isB, Q.listD, Q.listC, Q.reprD, Q.Sl.isOwn, List.map_cons, List.map_nil, List.replicate_succ, List.replicate_zero, List.cons_append, List.nil_append, List.append_nil, List.getElem?_cons_zero, List.getElem?_cons_succ, List.set_cons_zero, List.set_cons_succ, List.getD_cons_zero, List.getD_cons_succ, List.filterMap_cons, List.filterMap_nil, List.all_cons, List.all_nil, Bool.and_true, Bool.true_and, Bool.not_true, Bool.not_false, Bool.not_eq_true, Bool.false_eq_true, Bool.and_self, if_true, if_false, true_and, and_true, ↓reduceIte]
  refine ⟨_, at1, ?_⟩
  have e3 : inD true (.int sg) (.tuple [.int 1, .int (-1)]) = fun R => R (.bool false) := by
    funext R
    unfold inD
    rcases h1.sg with rfl | rfl <;> simp [flatD, eqv_int]
  simp only [List.length_cons, List.length_nil, Nat.zero_add, Nat.reduceAdd, e3, Q.enOf, Q.tV, Q.tK, Q.t2, Q.t1, Q.tB, Q.cI, Q.cIp, Q.addI, Q.subI, Q.mulI, Q.fdivI, Q.modI, Q.powI, Q.ltI, Q.leI, Q.gtI, Q.geI, Q.negI, Q.vAnd, Q.vOr, Q.vNot, Q.qAnd, Q.qOr, Q.qNot, Q.qIf, Q.chI, Q.tTupQ, Q.dNil, Q.dCons, Q.tLstQ, Q.tFz, Q.tCA, Q.lenD, Q.tupD, Q.isD, Q.isInt, Q.isBool, Q.isTup, Q.isStr, Q.isLst, Q.tLenN, Q.tIxN, Q.setQ, Q.aNil, Q.aD, Q.aK, Q.tCallQ, Q.tCallKQ, Q.pick, Q.sNil, Q.sSeq, Q.sRet, Q.sRetN, Q.sExpr, Q.sIf, Q.sSet, Q.sSetL, Q.sAsg, Q.sFor, Q.sPar2, Q.sPar3, Q.pNil, Q.pD, Q.pO, Q.pDn, Q.gN, Q.gT, Q.gsNil, Q.gsCons, Q.iQ, Q.itD, Q.iEn, Q.itE, Q.rg1, Q.rg2, Q.oNone, Q.oSome, Q.tSlQ, Q.revD, Q.tOwnM, Q.appC, Q.popC, Q.extC, Q.ownL, Q.tRepL, Q.repC, Q.sSetIx, Q.ixOwn, Q.tLcQ, Q.noOwn, Q.rstQ, Q.wipeQ, Q.sDn, Q.sSetD, Q.tDgetN, Q.dOwn, Q.tTupRg, Q.sNever, Q.isB, Q.listD, Q.listC, Q.reprD, Q.Sl.isOwn, List.map_cons, List.map_nil, List.replicate_succ, List.replicate_zero, List.cons_append, List.nil_append, List.append_nil, List.getElem?_cons_zero, List.getElem?_cons_succ, List.set_cons_zero, List.set_cons_succ, List.getD_cons_zero, List.getD_cons_succ, List.filterMap_cons, List.filterMap_nil, List.all_cons, List.all_nil, Bool.and_true, Bool.true_and, Bool.not_true, Bool.not_false, Bool.not_eq_true, Bool.false_eq_true, Bool.and_self, if_true, if_false, true_and, and_true, ↓reduceIte]
  refine ⟨by decide, ?_⟩
  refine ⟨_, at0, ?_⟩
  refine ⟨lot, 0, 7, rfl, ?_⟩
  rw [all_in h1.bd]
  simp only [Q.enOf, Q.tV, Q.tK, Q.t2, Q.t1, Q.tB, Q.cI, Q.cIp, Q.addI, Q.subI, Q.mulI, Q.fdivI, Q.modI, Q.powI, Q.ltI, Q.leI, Q.gtI, Q.geI, Q.negI, Q.vAnd, Q.vOr, Q.vNot, Q.qAnd, Q.qOr, Q.qNot, Q.qIf, Q.chI, Q.tTupQ, Q.dNil, Q.dCons, Q.tLstQ, Q.tFz, Q.tCA, Q.lenD, Q.tupD, Q.isD, Q.isInt, Q.isBool, Q.isTup, Q.isStr, Q.isLst, Q.tLenN, Q.tIxN, Q.setQ, Q.aNil, Q.aD, Q.aK, Q.tCallQ, Q.tCallKQ, Q.pick, Q.sNil, Q.sSeq, Q.sRet, Q.sRetN, Q.sExpr, Q.sIf, Q.sSet, Q.sSetL, Q.sAsg, Q.sFor, Q.sPar2, Q.sPar3, Q.pNil, Q.pD, Q.pO, Q.pDn, Q.gN, Q.gT, Q.gsNil, Q.gsCons, Q.iQ, Q.itD, Q.iEn, Q.itE, Q.rg1, Q.rg2, Q.oNone, Q.oSome, Q.tSlQ, Q.revD, Q.tOwnM, Q.appC, Q.popC, Q.extC, Q.ownL, Q.tRepL, Q.repC, Q.sSetIx, Q.ixOwn, Q.tLcQ, Q.noOwn, Q.rstQ, Q.wipeQ, Q.sDn, Q.sSetD, Q.tDgetN, Q.dOwn, Q.tTupRg, Q.sNever, Q.isB, Q.listD, Q.listC, Q.reprD, Q.Sl.isOwn, List.map_cons, List.map_nil, List.replicate_succ, List.replicate_zero, List.cons_append, List.nil_append, List.append_nil, List.getElem?_cons_zero, List.getElem?_cons_succ, List.set_cons_zero, List.set_cons_succ, List.getD_cons_zero, List.getD_cons_succ, List.filterMap_cons, List.filterMap_nil, List.all_cons, List.all_nil, Bool.and_true, Bool.true_and, Bool.not_true, Bool.not_false, Bool.not_eq_true, Bool.false_eq_true, Bool.and_self, if_true, if_false, true_and, and_true, ↓reduceIte, eqD]
  obtain ⟨k, ks, rfl⟩ : ∃ k ks, lot = k :: ks := by
    cases lot with
    | nil => exact (h1.ne rfl).elim
    | cons k ks => exact ⟨k, ks, rfl⟩
  refine ⟨by decide, sh_tupI, by exact sh_tupI (ns := []), ?_⟩
  have e5 : PyData.eqv (tupI (k :: ks)) (.tuple []) = false := eqv_tup0
  rw [e5]
  simp only [tupI, Q.enOf, Q.tV, Q.tK, Q.t2, Q.t1, Q.tB, Q.cI, Q.cIp, Q.addI, Q.subI, Q.mulI, Q.fdivI, Q.modI, Q.powI, Q.ltI, Q.leI, Q.gtI, Q.geI, Q.negI, Q.vAnd, Q.vOr, Q.vNot, Q.qAnd, Q.qOr, Q.qNot, Q.qIf, Q.chI, Q.tTupQ, Q.dNil, Q.dCons, Q.tLstQ, Q.tFz, Q.tCA, Q.lenD, Q.tupD, Q.isD, Q.isInt, Q.isBool, Q.isTup, Q.isStr, Q.isLst, Q.tLenN, Q.tIxN, Q.setQ, Q.aNil, Q.aD, Q.aK, Q.tCallQ, Q.tCallKQ, Q.pick, Q.sNil, Q.sSeq, Q.sRet, Q.sRetN, Q.sExpr, Q.sIf, Q.sSet, Q.sSetL, Q.sAsg, Q.sFor, Q.sPar2, Q.sPar3, Q.pNil, Q.pD, Q.pO, Q.pDn, Q.gN, Q.gT, Q.gsNil, Q.gsCons, Q.iQ, Q.itD, Q.iEn, Q.itE, Q.rg1, Q.rg2, Q.oNone, Q.oSome, Q.tSlQ, Q.revD, Q.tOwnM, Q.appC, Q.popC, Q.extC, Q.ownL, Q.tRepL, Q.repC, Q.sSetIx, Q.ixOwn, Q.tLcQ, Q.noOwn, Q.rstQ, Q.wipeQ, Q.sDn, Q.sSetD, Q.tDgetN, Q.dOwn, Q.tTupRg, Q.sNever, Q.isB, Q.listD, Q.listC, Q.reprD, Q.Sl.isOwn, List.map_cons, List.map_nil, List.replicate_succ, List.replicate_zero, List.cons_append, List.nil_append, List.append_nil, List.getElem?_cons_zero, List.getElem?_cons_succ, List.set_cons_zero, List.set_cons_succ, List.getD_cons_zero, List.getD_cons_succ, List.filterMap_cons, List.filterMap_nil, List.all_cons, List.all_nil, Bool.and_true, Bool.true_and, Bool.not_true, Bool.not_false, Bool.not_eq_true, Bool.false_eq_true, Bool.and_self, if_true, if_false, true_and, and_true, ↓reduceIte]
  have hl := h1.few
  simp only [List.length_cons, List.length_map] at hl ⊢
  refine ⟨by decide, by decide, by omega, by omega, ?_⟩
  refine comp_map (fun y => .bool true) (fun x hx Rk hk => ?_) ?_
  · unfold rg at hx
    obtain ⟨i, hi, rfl⟩ := List.mem_map.mp hx
    rw [List.mem_range] at hi
    simp only [Q.enOf, Q.tV, Q.tK, Q.t2, Q.t1, Q.tB, Q.cI, Q.cIp, Q.addI, Q.subI, Q.mulI, Q.fdivI, Q.modI, Q.powI, Q.ltI, Q.leI, Q.gtI, Q.geI, Q.negI, Q.vAnd, Q.vOr, Q.vNot, Q.qAnd, Q.qOr, Q.qNot, Q.qIf, Q.chI, Q.tTupQ, Q.dNil, Q.dCons, Q.tLstQ, Q.tFz, Q.tCA, Q.lenD, Q.tupD, Q.isD, Q.isInt, Q.isBool, Q.isTup, Q.isStr, Q.isLst, Q.tLenN, Q.tIxN, Q.setQ, Q.aNil, Q.aD, Q.aK, Q.tCallQ, Q.tCallKQ, Q.pick, Q.sNil, Q.sSeq, Q.sRet, Q.sRetN, Q.sExpr, Q.sIf, Q.sSet, Q.sSetL, Q.sAsg, Q.sFor, Q.sPar2, Q.sPar3, Q.pNil, Q.pD, Q.pO, Q.pDn, Q.gN, Q.gT, Q.gsNil, Q.gsCons, Q.iQ, Q.itD, Q.iEn, Q.itE, Q.rg1, Q.rg2, Q.oNone, Q.oSome, Q.tSlQ, Q.revD, Q.tOwnM, Q.appC, Q.popC, Q.extC, Q.ownL, Q.tRepL, Q.repC, Q.sSetIx, Q.ixOwn, Q.tLcQ, Q.noOwn, Q.rstQ, Q.wipeQ, Q.sDn, Q.sSetD, Q.tDgetN, Q.dOwn, Q.tTupRg, Q.sNever, Q.isB, Q.listD, Q.listC, Q.reprD, Q.Sl.isOwn, List.map_cons, List.map_nil, List.replicate_succ, List.replicate_zero, List.cons_append, List.nil_append, List.append_nil, List.getElem?_cons_zero, List.getElem?_cons_succ, List.set_cons_zero, List.set_cons_succ, List.getD_cons_zero, List.getD_cons_succ, List.filterMap_cons, List.filterMap_nil, List.all_cons, List.all_nil, Bool.and_true, Bool.true_and, Bool.not_true, Bool.not_false, Bool.not_eq_true, Bool.false_eq_true, Bool.and_self, if_true, if_false, true_and, and_true, ↓reduceIte, ixD]
    have e : (PyData.int k :: List.map PyData.int ks) = (k :: ks).map .int := rfl
    rw [e]
    refine ⟨_, at_int (by omega) (by simp; omega), _, at_int (by omega) (by simp; omega), ?_⟩
    simp only [Q.enOf, Q.tV, Q.tK, Q.t2, Q.t1, Q.tB, Q.cI, Q.cIp, Q.addI, Q.subI, Q.mulI, Q.fdivI, Q.modI, Q.powI, Q.ltI, Q.leI, Q.gtI, Q.geI, Q.negI, Q.vAnd, Q.vOr, Q.vNot, Q.qAnd, Q.qOr, Q.qNot, Q.qIf, Q.chI, Q.tTupQ, Q.dNil, Q.dCons, Q.tLstQ, Q.tFz, Q.tCA, Q.lenD, Q.tupD, Q.isD, Q.isInt, Q.isBool, Q.isTup, Q.isStr, Q.isLst, Q.tLenN, Q.tIxN, Q.setQ, Q.aNil, Q.aD, Q.aK, Q.tCallQ, Q.tCallKQ, Q.pick, Q.sNil, Q.sSeq, Q.sRet, Q.sRetN, Q.sExpr, Q.sIf, Q.sSet, Q.sSetL, Q.sAsg, Q.sFor, Q.sPar2, Q.sPar3, Q.pNil, Q.pD, Q.pO, Q.pDn, Q.gN, Q.gT, Q.gsNil, Q.gsCons, Q.iQ, Q.itD, Q.iEn, Q.itE, Q.rg1, Q.rg2, Q.oNone, Q.oSome, Q.tSlQ, Q.revD, Q.tOwnM, Q.appC, Q.popC, Q.extC, Q.ownL, Q.tRepL, Q.repC, Q.sSetIx, Q.ixOwn, Q.tLcQ, Q.noOwn, Q.rstQ, Q.wipeQ, Q.sDn, Q.sSetD, Q.tDgetN, Q.dOwn, Q.tTupRg, Q.sNever, Q.isB, Q.listD, Q.listC, Q.reprD, Q.Sl.isOwn, List.map_cons, List.map_nil, List.replicate_succ, List.replicate_zero, List.cons_append, List.nil_append, List.append_nil, List.getElem?_cons_zero, List.getElem?_cons_succ, List.set_cons_zero, List.set_cons_succ, List.getD_cons_zero, List.getD_cons_succ, List.filterMap_cons, List.filterMap_nil, List.all_cons, List.all_nil, Bool.and_true, Bool.true_and, Bool.not_true, Bool.not_false, Bool.not_eq_true, Bool.false_eq_true, Bool.and_self, if_true, if_false, true_and, and_true, ↓reduceIte]
    have e4 : decide ((k :: ks).getD (1 + (i : Int) - 1).toNat 0 < (k :: ks).getD (1 + (i : Int)).toNat 0) = true := by
      have := up_at h1.up (i := i + 1) (by omega) (by simp; omega)
      have a1 : (1 + (i : Int) - 1).toNat = i + 1 - 1 := by omega
      have a2 : (1 + (i : Int)).toNat = i + 1 := by omega
      rw [a1, a2]
      simpa using this
    rw [e4]
    exact hk _ (by simp only [Q.enOf, Q.tV, Q.tK, Q.t2, Q.t1, Q.tB, Q.cI, Q.cIp, Q.addI, Q.subI, Q.mulI, Q.fdivI, Q.modI, Q.powI, Q.ltI, Q.leI, Q.gtI, Q.geI, Q.negI, Q.vAnd, Q.vOr, Q.vNot, Q.qAnd, Q.qOr, Q.qNot, Q.qIf, Q.chI, Q.tTupQ, Q.dNil, Q.dCons, Q.tLstQ, Q.tFz, Q.tCA, Q.lenD, Q.tupD, Q.isD, Q.isInt, Q.isBool, Q.isTup, Q.isStr, Q.isLst, Q.tLenN, Q.tIxN, Q.setQ, Q.aNil, Q.aD, Q.aK, Q.tCallQ, Q.tCallKQ, Q.pick, Q.sNil, Q.sSeq, Q.sRet, Q.sRetN, Q.sExpr, Q.sIf, Q.sSet, Q.sSetL, Q.sAsg, Q.sFor, Q.sPar2, Q.sPar3, Q.pNil, Q.pD, Q.pO, Q.pDn, Q.gN, Q.gT, Q.gsNil, Q.gsCons, Q.iQ, Q.itD, Q.iEn, Q.itE, Q.rg1, Q.rg2, Q.oNone, Q.oSome, Q.tSlQ, Q.revD, Q.tOwnM, Q.appC, Q.popC, Q.extC, Q.ownL, Q.tRepL, Q.repC, Q.sSetIx, Q.ixOwn, Q.tLcQ, Q.noOwn, Q.rstQ, Q.wipeQ, Q.sDn, Q.sSetD, Q.tDgetN, Q.dOwn, Q.tTupRg, Q.sNever, Q.isB, Q.listD, Q.listC, Q.reprD, Q.Sl.isOwn, List.map_cons, List.map_nil, List.replicate_succ, List.replicate_zero, List.cons_append, List.nil_append, List.append_nil, List.getElem?_cons_zero, List.getElem?_cons_succ, List.set_cons_zero, List.set_cons_succ, List.getD_cons_zero, List.getD_cons_succ, List.filterMap_cons, List.filterMap_nil, List.all_cons, List.all_nil, Bool.and_true, Bool.true_and, Bool.not_true, Bool.not_false, Bool.not_eq_true, Bool.false_eq_true, Bool.and_self, if_true, if_false, true_and, and_true, ↓reduceIte])
  · simp only [Q.enOf, Q.tV, Q.tK, Q.t2, Q.t1, Q.tB, Q.cI, Q.cIp, Q.addI, Q.subI, Q.mulI, Q.fdivI, Q.modI, Q.powI, Q.ltI, Q.leI, Q.gtI, Q.geI, Q.negI, Q.vAnd, Q.vOr, Q.vNot, Q.qAnd, Q.qOr, Q.qNot, Q.qIf, Q.chI, Q.tTupQ, Q.dNil, Q.dCons, Q.tLstQ, Q.tFz, Q.tCA, Q.lenD, Q.tupD, Q.isD, Q.isInt, Q.isBool, Q.isTup, Q.isStr, Q.isLst, Q.tLenN, Q.tIxN, Q.setQ, Q.aNil, Q.aD, Q.aK, Q.tCallQ, Q.tCallKQ, Q.pick, Q.sNil, Q.sSeq, Q.sRet, Q.sRetN, Q.sExpr, Q.sIf, Q.sSet, Q.sSetL, Q.sAsg, Q.sFor, Q.sPar2, Q.sPar3, Q.pNil, Q.pD, Q.pO, Q.pDn, Q.gN, Q.gT, Q.gsNil, Q.gsCons, Q.iQ, Q.itD, Q.iEn, Q.itE, Q.rg1, Q.rg2, Q.oNone, Q.oSome, Q.tSlQ, Q.revD, Q.tOwnM, Q.appC, Q.popC, Q.extC, Q.ownL, Q.tRepL, Q.repC, Q.sSetIx, Q.ixOwn, Q.tLcQ, Q.noOwn, Q.rstQ, Q.wipeQ, Q.sDn, Q.sSetD, Q.tDgetN, Q.dOwn, Q.tTupRg, Q.sNever, Q.isB, Q.listD, Q.listC, Q.reprD, Q.Sl.isOwn, List.map_cons, List.map_nil, List.replicate_succ, List.replicate_zero, List.cons_append, List.nil_append, List.append_nil, List.getElem?_cons_zero, List.getElem?_cons_succ, List.set_cons_zero, List.set_cons_succ, List.getD_cons_zero, List.getD_cons_succ, List.filterMap_cons, List.filterMap_nil, List.all_cons, List.all_nil, Bool.and_true, Bool.true_and, Bool.not_true, Bool.not_false, Bool.not_eq_true, Bool.false_eq_true, Bool.and_self, if_true, if_false, true_and, and_true, ↓reduceIte, allD]
    refine ⟨(rg 1 ((ks.length + 1 : Nat) - (1 : Int)).toNat).map fun _ => true, by simp, ?_⟩
    rw [all_tr]
    exact h
def sp_is_throw_value : PSpec := fun as R => ∃ th : Thr, as = [.d (thrD th)] ∧ ThrowOk th ∧ R (.bool true)
theorem len_is_throw_value : ∀ as R, sp_is_throw_value as R → as.length = 1 := by rintro as R ⟨th, rfl, _⟩; rfl
theorem loop_kinds (R : EndsQ) (x s4 : Sl) : ∀ (th : Thr) (acc : List Int) (s2 s3 : Sl), acc.length + (kinds th).length ≤ 1000 → (∀ s2 s3, R.nx [x, .own ((acc ++ kinds th).map .int), s2, s3, s4]) →
    forQ (gT 2 (gsCons (gN 2) (gsCons (gN 3) gsNil))) (sExpr (tOwnM 1 extC (dCons (tV 2) dNil))) R (th.map lotD) [x, .own (acc.map .int), s2, s3, s4]
  | [], acc, s2, s3, _, h => by
    have := h s2 s3
    simp only [kinds, List.map_nil, List.flatten_nil, List.append_nil] at this
    simpa only [List.map_nil, forQ] using this
  | p :: th, acc, s2, s3, hl, h => by
    have e : kinds (p :: th) = p.1 ++ kinds th := by simp [kinds]
    rw [e] at hl h
    rw [List.length_append] at hl
    simp only [List.map_cons, forQ, lotD, Q.enOf, Q.tV, Q.tK, Q.t2, Q.t1, Q.tB, Q.cI, Q.cIp, Q.addI, Q.subI, Q.mulI, Q.fdivI, Q.modI, Q.powI, Q.ltI, Q.leI, Q.gtI, Q.geI, Q.negI, Q.vAnd, Q.vOr, Q.vNot, Q.qAnd, Q.qOr, Q.qNot, Q.qIf, Q.chI, Q.tTupQ, Q.dNil, Q.dCons, Q.tLstQ, Q.tFz, Q.tCA, Q.lenD, Q.tupD, Q.isD, Q.isInt, Q.isBool, Q.isTup, Q.isStr, Q.isLst, Q.tLenN, Q.tIxN, Q.setQ, Q.aNil, Q.aD, Q.aK, Q.tCallQ, Q.tCallKQ, Q.pick, Q.sNil, Q.sSeq, Q.sRet, Q.sRetN, Q.sExpr, Q.sIf, Q.sSet, Q.sSetL, Q.sAsg, Q.sFor, Q.sPar2, Q.sPar3, Q.pNil, Q.pD, Q.pO, Q.pDn, Q.gN, Q.gT, Q.gsNil, Q.gsCons, Q.iQ, Q.itD, Q.iEn, Q.itE, Q.rg1, Q.rg2, Q.oNone, Q.oSome, Q.tSlQ, Q.revD, Q.tOwnM, Q.appC, Q.popC, Q.extC, Q.ownL, Q.tRepL, Q.repC, Q.sSetIx, Q.ixOwn, Q.tLcQ, Q.noOwn, Q.rstQ, Q.wipeQ, Q.sDn, Q.sSetD, Q.tDgetN, Q.dOwn, Q.tTupRg, Q.sNever, Q.isB, Q.listD, Q.listC, Q.reprD, Q.Sl.isOwn, List.map_cons, List.map_nil, List.replicate_succ, List.replicate_zero, List.cons_append, List.nil_append, List.append_nil, List.getElem?_cons_zero, List.getElem?_cons_succ, List.set_cons_zero, List.set_cons_succ, List.getD_cons_zero, List.getD_cons_succ, List.filterMap_cons, List.filterMap_nil, List.all_cons, List.all_nil, Bool.and_true, Bool.true_and, Bool.not_true, Bool.not_false, Bool.not_eq_true, Bool.false_eq_true, Bool.and_self, if_true, if_false, true_and, and_true, ↓reduceIte, List.length_cons, List.length_nil]
    refine ⟨by rw [List.length_map, List.length_map]; omega, ?_⟩
    have := loop_kinds R x s4 th (acc ++ p.1) (.d (tupI p.1)) (.d (.int p.2)) (by rw [List.length_append]; omega) (by rw [List.append_assoc]; exact h)
    rw [List.map_append] at this
    exact this
theorem rd_is_throw_value : ∀ as R, sp_is_throw_value as R → t_is_throw_value sp_is_lot_value { nx := fun _ => R .none, rt := R } (enOf as 4) := by
  rintro as R ⟨th, rfl, h1, h⟩
  simp only [t_is_throw_value, thrD, Q.enOf, Q.tV, Q.tK, Q.t2, Q.t1, Q.tB, Q.cI, Q.cIp, Q.addI, Q.subI, Q.mulI, Q.fdivI, Q.modI, Q.powI, Q.ltI, Q.leI, Q.gtI, Q.geI, Q.negI, Q.vAnd, Q.vOr, Q.vNot, Q.qAnd, Q.qOr, Q.qNot, Q.qIf, Q.chI, Q.tTupQ, Q.dNil, Q.dCons, Q.tLstQ, Q.tFz, Q.tCA, Q.lenD, Q.tupD, Q.isD, Q.isInt, Q.isBool, Q.isTup, Q.isStr, Q.isLst, Q.tLenN, Q.tIxN, Q.setQ, Q.aNil, Q.aD, Q.aK, Q.tCallQ, Q.tCallKQ, Q.pick, Q.sNil, Q.sSeq, Q.sRet, Q.sRetN, Q.sExpr, Q.sIf, Q.sSet, Q.sSetL, Q.sAsg, Q.sFor, Q.sPar2, Q.sPar3, Q.pNil, Q.pD, Q.pO, Q.pDn, Q.gN, Q.gT, Q.gsNil, Q.gsCons, Q.iQ, Q.itD, Q.iEn, Q.itE, Q.rg1, Q.rg2, Q.oNone, Q.oSome, Q.tSlQ, Q.revD, Q.tOwnM, Q.appC, Q.popC, Q.extC, Q.ownL, Q.tRepL, Q.repC, Q.sSetIx, Q.ixOwn, Q.tLcQ, Q.noOwn, Q.rstQ, Q.wipeQ, Q.sDn, Q.sSetD, Q.tDgetN, Q.dOwn, Q.tTupRg, Q.sNever, Q.isB, Q.listD, Q.listC, Q.reprD, Q.Sl.isOwn, List.map_cons, List.map_nil, List.replicate_succ, List.replicate_zero, List.cons_append, List.nil_append, List.append_nil, List.getElem?_cons_zero, List.getElem?_cons_succ, List.set_cons_zero, List.set_cons_succ, List.getD_cons_zero, List.getD_cons_succ, List.filterMap_cons, List.filterMap_nil, List.all_cons, List.all_nil, Bool.and_true, Bool.true_and, Bool.not_true, Bool.not_false, Bool.not_eq_true, Bool.false_eq_true, Bool.and_self, if_true, if_false, true_and, and_true, ↓reduceIte, eqD]
  have shT : SeqAt.shaped (.tuple (th.map lotD)) = true := by
    refine Tn.shaped (k := 3) (tn_tup (k := 2) (B := 200) (n := th.length) (fun x hx => ?_) (by simp)) (by decide)
    obtain ⟨p, hp, rfl⟩ := List.mem_map.mp hx
    have hlp := h1.lots p hp
    refine Tn.mono (tn_tup2 (k := 1) (B := 60) (Tn.mono (tn_ints (n := 8) (fun i hi => by have := hlp.bd i hi; omega) hlp.few) (by decide) (by decide)) (Tn.mono (tn_int (by rcases hlp.sg with e | e <;> rw [e] <;> decide) (by rcases hlp.sg with e | e <;> rw [e] <;> decide)) (by decide) (by decide))) (by decide) (by decide)
  have e0 : PyData.eqv (.tuple (th.map lotD)) (.tuple []) = false := by
    cases th with
    | nil => exact (h1.ne rfl).elim
    | cons p th => exact eqv_tup0
  refine ⟨by decide, shT, by exact sh_tupI (ns := []), ?_⟩
  rw [e0]
  simp only [Q.enOf, Q.tV, Q.tK, Q.t2, Q.t1, Q.tB, Q.cI, Q.cIp, Q.addI, Q.subI, Q.mulI, Q.fdivI, Q.modI, Q.powI, Q.ltI, Q.leI, Q.gtI, Q.geI, Q.negI, Q.vAnd, Q.vOr, Q.vNot, Q.qAnd, Q.qOr, Q.qNot, Q.qIf, Q.chI, Q.tTupQ, Q.dNil, Q.dCons, Q.tLstQ, Q.tFz, Q.tCA, Q.lenD, Q.tupD, Q.isD, Q.isInt, Q.isBool, Q.isTup, Q.isStr, Q.isLst, Q.tLenN, Q.tIxN, Q.setQ, Q.aNil, Q.aD, Q.aK, Q.tCallQ, Q.tCallKQ, Q.pick, Q.sNil, Q.sSeq, Q.sRet, Q.sRetN, Q.sExpr, Q.sIf, Q.sSet, Q.sSetL, Q.sAsg, Q.sFor, Q.sPar2, Q.sPar3, Q.pNil, Q.pD, Q.pO, Q.pDn, Q.gN, Q.gT, Q.gsNil, Q.gsCons, Q.iQ, Q.itD, Q.iEn, Q.itE, Q.rg1, Q.rg2, Q.oNone, Q.oSome, Q.tSlQ, Q.revD, Q.tOwnM, Q.appC, Q.popC, Q.extC, Q.ownL, Q.tRepL, Q.repC, Q.sSetIx, Q.ixOwn, Q.tLcQ, Q.noOwn, Q.rstQ, Q.wipeQ, Q.sDn, Q.sSetD, Q.tDgetN, Q.dOwn, Q.tTupRg, Q.sNever, Q.isB, Q.listD, Q.listC, Q.reprD, Q.Sl.isOwn, List.map_cons, List.map_nil, List.replicate_succ, List.replicate_zero, List.cons_append, List.nil_append, List.append_nil, List.getElem?_cons_zero, List.getElem?_cons_succ, List.set_cons_zero, List.set_cons_succ, List.getD_cons_zero, List.getD_cons_succ, List.filterMap_cons, List.filterMap_nil, List.all_cons, List.all_nil, Bool.and_true, Bool.true_and, Bool.not_true, Bool.not_false, Bool.not_eq_true, Bool.false_eq_true, Bool.and_self, if_true, if_false, true_and, and_true, ↓reduceIte]
  refine comp_map (fun y => .bool true) (fun x hx Rk hk => ?_) ?_
  · obtain ⟨p, hp, rfl⟩ := List.mem_map.mp hx
    simp only [Q.enOf, Q.tV, Q.tK, Q.t2, Q.t1, Q.tB, Q.cI, Q.cIp, Q.addI, Q.subI, Q.mulI, Q.fdivI, Q.modI, Q.powI, Q.ltI, Q.leI, Q.gtI, Q.geI, Q.negI, Q.vAnd, Q.vOr, Q.vNot, Q.qAnd, Q.qOr, Q.qNot, Q.qIf, Q.chI, Q.tTupQ, Q.dNil, Q.dCons, Q.tLstQ, Q.tFz, Q.tCA, Q.lenD, Q.tupD, Q.isD, Q.isInt, Q.isBool, Q.isTup, Q.isStr, Q.isLst, Q.tLenN, Q.tIxN, Q.setQ, Q.aNil, Q.aD, Q.aK, Q.tCallQ, Q.tCallKQ, Q.pick, Q.sNil, Q.sSeq, Q.sRet, Q.sRetN, Q.sExpr, Q.sIf, Q.sSet, Q.sSetL, Q.sAsg, Q.sFor, Q.sPar2, Q.sPar3, Q.pNil, Q.pD, Q.pO, Q.pDn, Q.gN, Q.gT, Q.gsNil, Q.gsCons, Q.iQ, Q.itD, Q.iEn, Q.itE, Q.rg1, Q.rg2, Q.oNone, Q.oSome, Q.tSlQ, Q.revD, Q.tOwnM, Q.appC, Q.popC, Q.extC, Q.ownL, Q.tRepL, Q.repC, Q.sSetIx, Q.ixOwn, Q.tLcQ, Q.noOwn, Q.rstQ, Q.wipeQ, Q.sDn, Q.sSetD, Q.tDgetN, Q.dOwn, Q.tTupRg, Q.sNever, Q.isB, Q.listD, Q.listC, Q.reprD, Q.Sl.isOwn, List.map_cons, List.map_nil, List.replicate_succ, List.replicate_zero, List.cons_append, List.nil_append, List.append_nil, List.getElem?_cons_zero, List.getElem?_cons_succ, List.set_cons_zero, List.set_cons_succ, List.getD_cons_zero, List.getD_cons_succ, List.filterMap_cons, List.filterMap_nil, List.all_cons, List.all_nil, Bool.and_true, Bool.true_and, Bool.not_true, Bool.not_false, Bool.not_eq_true, Bool.false_eq_true, Bool.and_self, if_true, if_false, true_and, and_true, ↓reduceIte]
    exact ⟨p.1, p.2, rfl, h1.lots p hp, hk _ (by simp only [Q.enOf, Q.tV, Q.tK, Q.t2, Q.t1, Q.tB, Q.cI, Q.cIp, Q.addI, Q.subI, Q.mulI, Q.fdivI, Q.modI, Q.powI, Q.ltI, Q.leI, Q.gtI, Q.geI, Q.negI, Q.vAnd, Q.vOr, Q.vNot, Q.qAnd, Q.qOr, Q.qNot, Q.qIf, Q.chI, Q.tTupQ, Q.dNil, Q.dCons, Q.tLstQ, Q.tFz, Q.tCA, Q.lenD, Q.tupD, Q.isD, Q.isInt, Q.isBool, Q.isTup, Q.isStr, Q.isLst, Q.tLenN, Q.tIxN, Q.setQ, Q.aNil, Q.aD, Q.aK, Q.tCallQ, Q.tCallKQ, Q.pick, Q.sNil, Q.sSeq, Q.sRet, Q.sRetN, Q.sExpr, Q.sIf, Q.sSet, Q.sSetL, Q.sAsg, Q.sFor, Q.sPar2, Q.sPar3, Q.pNil, Q.pD, Q.pO, Q.pDn, Q.gN, Q.gT, Q.gsNil, Q.gsCons, Q.iQ, Q.itD, Q.iEn, Q.itE, Q.rg1, Q.rg2, Q.oNone, Q.oSome, Q.tSlQ, Q.revD, Q.tOwnM, Q.appC, Q.popC, Q.extC, Q.ownL, Q.tRepL, Q.repC, Q.sSetIx, Q.ixOwn, Q.tLcQ, Q.noOwn, Q.rstQ, Q.wipeQ, Q.sDn, Q.sSetD, Q.tDgetN, Q.dOwn, Q.tTupRg, Q.sNever, Q.isB, Q.listD, Q.listC, Q.reprD, Q.Sl.isOwn, List.map_cons, List.map_nil, List.replicate_succ, List.replicate_zero, List.cons_append, List.nil_append, List.append_nil, List.getElem?_cons_zero, List.getElem?_cons_succ, List.set_cons_zero, List.set_cons_succ, List.getD_cons_zero, List.getD_cons_succ, List.filterMap_cons, List.filterMap_nil, List.all_cons, List.all_nil, Bool.and_true, Bool.true_and, Bool.not_true, Bool.not_false, Bool.not_eq_true, Bool.false_eq_true, Bool.and_self, if_true, if_false, true_and, and_true, ↓reduceIte])⟩
  · simp only [Q.enOf, Q.tV, Q.tK, Q.t2, Q.t1, Q.tB, Q.cI, Q.cIp, Q.addI, Q.subI, Q.mulI, Q.fdivI, Q.modI, Q.powI, Q.ltI, Q.leI, Q.gtI, Q.geI, Q.negI, Q.vAnd, Q.vOr, Q.vNot, Q.qAnd, Q.qOr, Q.qNot, Q.qIf, Q.chI, Q.tTupQ, Q.dNil, Q.dCons, Q.tLstQ, Q.tFz, Q.tCA, Q.lenD, Q.tupD, Q.isD, Q.isInt, Q.isBool, Q.isTup, Q.isStr, Q.isLst, Q.tLenN, Q.tIxN, Q.setQ, Q.aNil, Q.aD, Q.aK, Q.tCallQ, Q.tCallKQ, Q.pick, Q.sNil, Q.sSeq, Q.sRet, Q.sRetN, Q.sExpr, Q.sIf, Q.sSet, Q.sSetL, Q.sAsg, Q.sFor, Q.sPar2, Q.sPar3, Q.pNil, Q.pD, Q.pO, Q.pDn, Q.gN, Q.gT, Q.gsNil, Q.gsCons, Q.iQ, Q.itD, Q.iEn, Q.itE, Q.rg1, Q.rg2, Q.oNone, Q.oSome, Q.tSlQ, Q.revD, Q.tOwnM, Q.appC, Q.popC, Q.extC, Q.ownL, Q.tRepL, Q.repC, Q.sSetIx, Q.ixOwn, Q.tLcQ, Q.noOwn, Q.rstQ, Q.wipeQ, Q.sDn, Q.sSetD, Q.tDgetN, Q.dOwn, Q.tTupRg, Q.sNever, Q.isB, Q.listD, Q.listC, Q.reprD, Q.Sl.isOwn, List.map_cons, List.map_nil, List.replicate_succ, List.replicate_zero, List.cons_append, List.nil_append, List.append_nil, List.getElem?_cons_zero, List.getElem?_cons_succ, List.set_cons_zero, List.set_cons_succ, List.getD_cons_zero, List.getD_cons_succ, List.filterMap_cons, List.filterMap_nil, List.all_cons, List.all_nil, Bool.and_true, Bool.true_and, Bool.not_true, Bool.not_false, Bool.not_eq_true, Bool.false_eq_true, Bool.and_self, if_true, if_false, true_and, and_true, ↓reduceIte, allD]
    refine ⟨th.map fun _ => true, by simp, ?_⟩
    have e1 : ((th.map fun _ => true).all fun b => b) = true := by simp
    rw [e1]
    simp only [Q.enOf, Q.tV, Q.tK, Q.t2, Q.t1, Q.tB, Q.cI, Q.cIp, Q.addI, Q.subI, Q.mulI, Q.fdivI, Q.modI, Q.powI, Q.ltI, Q.leI, Q.gtI, Q.geI, Q.negI, Q.vAnd, Q.vOr, Q.vNot, Q.qAnd, Q.qOr, Q.qNot, Q.qIf, Q.chI, Q.tTupQ, Q.dNil, Q.dCons, Q.tLstQ, Q.tFz, Q.tCA, Q.lenD, Q.tupD, Q.isD, Q.isInt, Q.isBool, Q.isTup, Q.isStr, Q.isLst, Q.tLenN, Q.tIxN, Q.setQ, Q.aNil, Q.aD, Q.aK, Q.tCallQ, Q.tCallKQ, Q.pick, Q.sNil, Q.sSeq, Q.sRet, Q.sRetN, Q.sExpr, Q.sIf, Q.sSet, Q.sSetL, Q.sAsg, Q.sFor, Q.sPar2, Q.sPar3, Q.pNil, Q.pD, Q.pO, Q.pDn, Q.gN, Q.gT, Q.gsNil, Q.gsCons, Q.iQ, Q.itD, Q.iEn, Q.itE, Q.rg1, Q.rg2, Q.oNone, Q.oSome, Q.tSlQ, Q.revD, Q.tOwnM, Q.appC, Q.popC, Q.extC, Q.ownL, Q.tRepL, Q.repC, Q.sSetIx, Q.ixOwn, Q.tLcQ, Q.noOwn, Q.rstQ, Q.wipeQ, Q.sDn, Q.sSetD, Q.tDgetN, Q.dOwn, Q.tTupRg, Q.sNever, Q.isB, Q.listD, Q.listC, Q.reprD, Q.Sl.isOwn, List.map_cons, List.map_nil, List.replicate_succ, List.replicate_zero, List.cons_append, List.nil_append, List.append_nil, List.getElem?_cons_zero, List.getElem?_cons_succ, List.set_cons_zero, List.set_cons_succ, List.getD_cons_zero, List.getD_cons_succ, List.filterMap_cons, List.filterMap_nil, List.all_cons, List.all_nil, Bool.and_true, Bool.true_and, Bool.not_true, Bool.not_false, Bool.not_eq_true, Bool.false_eq_true, Bool.and_self, if_true, if_false, true_and, and_true, ↓reduceIte, List.length_nil]
    refine ⟨by decide, ?_⟩
    refine loop_kinds _ (.d (.tuple (th.map lotD))) .un th [] .un .un (by have := h1.few; simp; omega) fun s2 s3 => ?_
    simp only [List.nil_append, Q.enOf, Q.tV, Q.tK, Q.t2, Q.t1, Q.tB, Q.cI, Q.cIp, Q.addI, Q.subI, Q.mulI, Q.fdivI, Q.modI, Q.powI, Q.ltI, Q.leI, Q.gtI, Q.geI, Q.negI, Q.vAnd, Q.vOr, Q.vNot, Q.qAnd, Q.qOr, Q.qNot, Q.qIf, Q.chI, Q.tTupQ, Q.dNil, Q.dCons, Q.tLstQ, Q.tFz, Q.tCA, Q.lenD, Q.tupD, Q.isD, Q.isInt, Q.isBool, Q.isTup, Q.isStr, Q.isLst, Q.tLenN, Q.tIxN, Q.setQ, Q.aNil, Q.aD, Q.aK, Q.tCallQ, Q.tCallKQ, Q.pick, Q.sNil, Q.sSeq, Q.sRet, Q.sRetN, Q.sExpr, Q.sIf, Q.sSet, Q.sSetL, Q.sAsg, Q.sFor, Q.sPar2, Q.sPar3, Q.pNil, Q.pD, Q.pO, Q.pDn, Q.gN, Q.gT, Q.gsNil, Q.gsCons, Q.iQ, Q.itD, Q.iEn, Q.itE, Q.rg1, Q.rg2, Q.oNone, Q.oSome, Q.tSlQ, Q.revD, Q.tOwnM, Q.appC, Q.popC, Q.extC, Q.ownL, Q.tRepL, Q.repC, Q.sSetIx, Q.ixOwn, Q.tLcQ, Q.noOwn, Q.rstQ, Q.wipeQ, Q.sDn, Q.sSetD, Q.tDgetN, Q.dOwn, Q.tTupRg, Q.sNever, Q.isB, Q.listD, Q.listC, Q.reprD, Q.Sl.isOwn, List.map_cons, List.map_nil, List.replicate_succ, List.replicate_zero, List.cons_append, List.nil_append, List.append_nil, List.getElem?_cons_zero, List.getElem?_cons_succ, List.set_cons_zero, List.set_cons_succ, List.getD_cons_zero, List.getD_cons_succ, List.filterMap_cons, List.filterMap_nil, List.all_cons, List.all_nil, Bool.and_true, Bool.true_and, Bool.not_true, Bool.not_false, Bool.not_eq_true, Bool.false_eq_true, Bool.and_self, if_true, if_false, true_and, and_true, ↓reduceIte, sortD, List.length_map]
    refine ⟨_, rfl, by have := h1.few; omega, fun ms hm hs => ?_⟩
    have e2 : ms = row (kinds th).length := List.Perm.eq_of_pairwise (le := (· ≤ ·)) (fun a b _ _ h1 h2 => Int.le_antisymm h1 h2) hs (by
      unfold row
      rw [List.pairwise_map]
      exact List.Pairwise.imp (fun h => by omega) (List.pairwise_lt_range (n := (kinds th).length))) (hm.trans h1.perm)
    subst e2
    have e3 : rg 0 (((kinds th).length : Nat) : Int).toNat = (row (kinds th).length).map .int := by simp [rg, row]
    simp only [Q.enOf, Q.tV, Q.tK, Q.t2, Q.t1, Q.tB, Q.cI, Q.cIp, Q.addI, Q.subI, Q.mulI, Q.fdivI, Q.modI, Q.powI, Q.ltI, Q.leI, Q.gtI, Q.geI, Q.negI, Q.vAnd, Q.vOr, Q.vNot, Q.qAnd, Q.qOr, Q.qNot, Q.qIf, Q.chI, Q.tTupQ, Q.dNil, Q.dCons, Q.tLstQ, Q.tFz, Q.tCA, Q.lenD, Q.tupD, Q.isD, Q.isInt, Q.isBool, Q.isTup, Q.isStr, Q.isLst, Q.tLenN, Q.tIxN, Q.setQ, Q.aNil, Q.aD, Q.aK, Q.tCallQ, Q.tCallKQ, Q.pick, Q.sNil, Q.sSeq, Q.sRet, Q.sRetN, Q.sExpr, Q.sIf, Q.sSet, Q.sSetL, Q.sAsg, Q.sFor, Q.sPar2, Q.sPar3, Q.pNil, Q.pD, Q.pO, Q.pDn, Q.gN, Q.gT, Q.gsNil, Q.gsCons, Q.iQ, Q.itD, Q.iEn, Q.itE, Q.rg1, Q.rg2, Q.oNone, Q.oSome, Q.tSlQ, Q.revD, Q.tOwnM, Q.appC, Q.popC, Q.extC, Q.ownL, Q.tRepL, Q.repC, Q.sSetIx, Q.ixOwn, Q.tLcQ, Q.noOwn, Q.rstQ, Q.wipeQ, Q.sDn, Q.sSetD, Q.tDgetN, Q.dOwn, Q.tTupRg, Q.sNever, Q.isB, Q.listD, Q.listC, Q.reprD, Q.Sl.isOwn, List.map_cons, List.map_nil, List.replicate_succ, List.replicate_zero, List.cons_append, List.nil_append, List.append_nil, List.getElem?_cons_zero, List.getElem?_cons_succ, List.set_cons_zero, List.set_cons_succ, List.getD_cons_zero, List.getD_cons_succ, List.filterMap_cons, List.filterMap_nil, List.all_cons, List.all_nil, Bool.and_true, Bool.true_and, Bool.not_true, Bool.not_false, Bool.not_eq_true, Bool.false_eq_true, Bool.and_self, if_true, if_false, true_and, and_true, ↓reduceIte, List.length_map, e3]
    have := h1.few
    refine ⟨by omega, by omega, sh_lstI, sh_lstI, ?_⟩
    rw [eqv_ints]
    exact h
/-! ### needs -/
def sp_need_size : PSpec := fun as R => ∃ i : Int, as = [.d (.int i)] ∧ 1 ≤ i ∧ i ≤ 8 ∧ R .none
theorem len_need_size : ∀ as R, sp_need_size as R → as.length = 1 := by rintro as R ⟨i, rfl, _⟩; rfl
theorem rd_need_size : ∀ as R, sp_need_size as R → t_need_size sp_is_size { nx := fun _ => R .none, rt := R } (enOf as 0) := by
  rintro as R ⟨i, rfl, h1, h2, h⟩
  simp only [t_need_size, Q.enOf, Q.tV, Q.tK, Q.t2, Q.t1, Q.tB, Q.cI, Q.cIp, Q.addI, Q.subI, Q.mulI, Q.fdivI, Q.modI, Q.powI, Q.ltI, Q.leI, Q.gtI, Q.geI, Q.negI, Q.vAnd, Q.vOr, Q.vNot, Q.qAnd, Q.qOr, Q.qNot, Q.qIf, Q.chI, Q.tTupQ, Q.dNil, Q.dCons, Q.tLstQ, Q.tFz, Q.tCA, Q.lenD, Q.tupD, Q.isD, Q.isInt, Q.isBool, Q.isTup, Q.isStr, Q.isLst, Q.tLenN, Q.tIxN, Q.setQ, Q.aNil, Q.aD, Q.aK, Q.tCallQ, Q.tCallKQ, Q.pick, Q.sNil, Q.sSeq, Q.sRet, Q.sRetN, Q.sExpr, Q.sIf, Q.sSet, Q.sSetL, Q.sAsg, Q.sFor, Q.sPar2, Q.sPar3, Q.pNil, Q.pD, Q.pO, Q.pDn, Q.gN, Q.gT, Q.gsNil, Q.gsCons, Q.iQ, Q.itD, Q.iEn, Q.itE, Q.rg1, Q.rg2, Q.oNone, Q.oSome, Q.tSlQ, Q.revD, Q.tOwnM, Q.appC, Q.popC, Q.extC, Q.ownL, Q.tRepL, Q.repC, Q.sSetIx, Q.ixOwn, Q.tLcQ, Q.noOwn, Q.rstQ, Q.wipeQ, Q.sDn, Q.sSetD, Q.tDgetN, Q.dOwn, Q.tTupRg, Q.sNever, Q.isB, Q.listD, Q.listC, Q.reprD, Q.Sl.isOwn, List.map_cons, List.map_nil, List.replicate_succ, List.replicate_zero, List.cons_append, List.nil_append, List.append_nil, List.getElem?_cons_zero, List.getElem?_cons_succ, List.set_cons_zero, List.set_cons_succ, List.getD_cons_zero, List.getD_cons_succ, List.filterMap_cons, List.filterMap_nil, List.all_cons, List.all_nil, Bool.and_true, Bool.true_and, Bool.not_true, Bool.not_false, Bool.not_eq_true, Bool.false_eq_true, Bool.and_self, if_true, if_false, true_and, and_true, ↓reduceIte]
  exact ⟨i, rfl, h1, h2, by simpa only [Q.enOf, Q.tV, Q.tK, Q.t2, Q.t1, Q.tB, Q.cI, Q.cIp, Q.addI, Q.subI, Q.mulI, Q.fdivI, Q.modI, Q.powI, Q.ltI, Q.leI, Q.gtI, Q.geI, Q.negI, Q.vAnd, Q.vOr, Q.vNot, Q.qAnd, Q.qOr, Q.qNot, Q.qIf, Q.chI, Q.tTupQ, Q.dNil, Q.dCons, Q.tLstQ, Q.tFz, Q.tCA, Q.lenD, Q.tupD, Q.isD, Q.isInt, Q.isBool, Q.isTup, Q.isStr, Q.isLst, Q.tLenN, Q.tIxN, Q.setQ, Q.aNil, Q.aD, Q.aK, Q.tCallQ, Q.tCallKQ, Q.pick, Q.sNil, Q.sSeq, Q.sRet, Q.sRetN, Q.sExpr, Q.sIf, Q.sSet, Q.sSetL, Q.sAsg, Q.sFor, Q.sPar2, Q.sPar3, Q.pNil, Q.pD, Q.pO, Q.pDn, Q.gN, Q.gT, Q.gsNil, Q.gsCons, Q.iQ, Q.itD, Q.iEn, Q.itE, Q.rg1, Q.rg2, Q.oNone, Q.oSome, Q.tSlQ, Q.revD, Q.tOwnM, Q.appC, Q.popC, Q.extC, Q.ownL, Q.tRepL, Q.repC, Q.sSetIx, Q.ixOwn, Q.tLcQ, Q.noOwn, Q.rstQ, Q.wipeQ, Q.sDn, Q.sSetD, Q.tDgetN, Q.dOwn, Q.tTupRg, Q.sNever, Q.isB, Q.listD, Q.listC, Q.reprD, Q.Sl.isOwn, List.map_cons, List.map_nil, List.replicate_succ, List.replicate_zero, List.cons_append, List.nil_append, List.append_nil, List.getElem?_cons_zero, List.getElem?_cons_succ, List.set_cons_zero, List.set_cons_succ, List.getD_cons_zero, List.getD_cons_succ, List.filterMap_cons, List.filterMap_nil, List.all_cons, List.all_nil, Bool.and_true, Bool.true_and, Bool.not_true, Bool.not_false, Bool.not_eq_true, Bool.false_eq_true, Bool.and_self, if_true, if_false, true_and, and_true, ↓reduceIte] using h⟩
def sp_need_deck : PSpec := fun as R => ∃ (n : Int) (xs : List Int), as = [.d (.int n), .d (tupI xs)] ∧ DeckOk n xs ∧ R .none
theorem len_need_deck : ∀ as R, sp_need_deck as R → as.length = 2 := by rintro as R ⟨i, xs, rfl, _⟩; rfl
theorem rd_need_deck : ∀ as R, sp_need_deck as R → t_need_deck sp_is_deck_value { nx := fun _ => R .none, rt := R } (enOf as 0) := by
  rintro as R ⟨i, xs, rfl, h1, h⟩
  simp only [t_need_deck, Q.enOf, Q.tV, Q.tK, Q.t2, Q.t1, Q.tB, Q.cI, Q.cIp, Q.addI, Q.subI, Q.mulI, Q.fdivI, Q.modI, Q.powI, Q.ltI, Q.leI, Q.gtI, Q.geI, Q.negI, Q.vAnd, Q.vOr, Q.vNot, Q.qAnd, Q.qOr, Q.qNot, Q.qIf, Q.chI, Q.tTupQ, Q.dNil, Q.dCons, Q.tLstQ, Q.tFz, Q.tCA, Q.lenD, Q.tupD, Q.isD, Q.isInt, Q.isBool, Q.isTup, Q.isStr, Q.isLst, Q.tLenN, Q.tIxN, Q.setQ, Q.aNil, Q.aD, Q.aK, Q.tCallQ, Q.tCallKQ, Q.pick, Q.sNil, Q.sSeq, Q.sRet, Q.sRetN, Q.sExpr, Q.sIf, Q.sSet, Q.sSetL, Q.sAsg, Q.sFor, Q.sPar2, Q.sPar3, Q.pNil, Q.pD, Q.pO, Q.pDn, Q.gN, Q.gT, Q.gsNil, Q.gsCons, Q.iQ, Q.itD, Q.iEn, Q.itE, Q.rg1, Q.rg2, Q.oNone, Q.oSome, Q.tSlQ, Q.revD, Q.tOwnM, Q.appC, Q.popC, Q.extC, Q.ownL, Q.tRepL, Q.repC, Q.sSetIx, Q.ixOwn, Q.tLcQ, Q.noOwn, Q.rstQ, Q.wipeQ, Q.sDn, Q.sSetD, Q.tDgetN, Q.dOwn, Q.tTupRg, Q.sNever, Q.isB, Q.listD, Q.listC, Q.reprD, Q.Sl.isOwn, List.map_cons, List.map_nil, List.replicate_succ, List.replicate_zero, List.cons_append, List.nil_append, List.append_nil, List.getElem?_cons_zero, List.getElem?_cons_succ, List.set_cons_zero, List.set_cons_succ, List.getD_cons_zero, List.getD_cons_succ, List.filterMap_cons, List.filterMap_nil, List.all_cons, List.all_nil, Bool.and_true, Bool.true_and, Bool.not_true, Bool.not_false, Bool.not_eq_true, Bool.false_eq_true, Bool.and_self, if_true, if_false, true_and, and_true, ↓reduceIte]
  exact ⟨i, xs, rfl, h1, by simpa only [Q.enOf, Q.tV, Q.tK, Q.t2, Q.t1, Q.tB, Q.cI, Q.cIp, Q.addI, Q.subI, Q.mulI, Q.fdivI, Q.modI, Q.powI, Q.ltI, Q.leI, Q.gtI, Q.geI, Q.negI, Q.vAnd, Q.vOr, Q.vNot, Q.qAnd, Q.qOr, Q.qNot, Q.qIf, Q.chI, Q.tTupQ, Q.dNil, Q.dCons, Q.tLstQ, Q.tFz, Q.tCA, Q.lenD, Q.tupD, Q.isD, Q.isInt, Q.isBool, Q.isTup, Q.isStr, Q.isLst, Q.tLenN, Q.tIxN, Q.setQ, Q.aNil, Q.aD, Q.aK, Q.tCallQ, Q.tCallKQ, Q.pick, Q.sNil, Q.sSeq, Q.sRet, Q.sRetN, Q.sExpr, Q.sIf, Q.sSet, Q.sSetL, Q.sAsg, Q.sFor, Q.sPar2, Q.sPar3, Q.pNil, Q.pD, Q.pO, Q.pDn, Q.gN, Q.gT, Q.gsNil, Q.gsCons, Q.iQ, Q.itD, Q.iEn, Q.itE, Q.rg1, Q.rg2, Q.oNone, Q.oSome, Q.tSlQ, Q.revD, Q.tOwnM, Q.appC, Q.popC, Q.extC, Q.ownL, Q.tRepL, Q.repC, Q.sSetIx, Q.ixOwn, Q.tLcQ, Q.noOwn, Q.rstQ, Q.wipeQ, Q.sDn, Q.sSetD, Q.tDgetN, Q.dOwn, Q.tTupRg, Q.sNever, Q.isB, Q.listD, Q.listC, Q.reprD, Q.Sl.isOwn, List.map_cons, List.map_nil, List.replicate_succ, List.replicate_zero, List.cons_append, List.nil_append, List.append_nil, List.getElem?_cons_zero, List.getElem?_cons_succ, List.set_cons_zero, List.set_cons_succ, List.getD_cons_zero, List.getD_cons_succ, List.filterMap_cons, List.filterMap_nil, List.all_cons, List.all_nil, Bool.and_true, Bool.true_and, Bool.not_true, Bool.not_false, Bool.not_eq_true, Bool.false_eq_true, Bool.and_self, if_true, if_false, true_and, and_true, ↓reduceIte] using h⟩
def sp_need_throw : PSpec := fun as R => ∃ th : Thr, as = [.d (thrD th)] ∧ ThrowOk th ∧ R .none
theorem len_need_throw : ∀ as R, sp_need_throw as R → as.length = 1 := by rintro as R ⟨i, rfl, _⟩; rfl
theorem rd_need_throw : ∀ as R, sp_need_throw as R → t_need_throw sp_is_throw_value { nx := fun _ => R .none, rt := R } (enOf as 0) := by
  rintro as R ⟨i, rfl, h1, h⟩
  simp only [t_need_throw, Q.enOf, Q.tV, Q.tK, Q.t2, Q.t1, Q.tB, Q.cI, Q.cIp, Q.addI, Q.subI, Q.mulI, Q.fdivI, Q.modI, Q.powI, Q.ltI, Q.leI, Q.gtI, Q.geI, Q.negI, Q.vAnd, Q.vOr, Q.vNot, Q.qAnd, Q.qOr, Q.qNot, Q.qIf, Q.chI, Q.tTupQ, Q.dNil, Q.dCons, Q.tLstQ, Q.tFz, Q.tCA, Q.lenD, Q.tupD, Q.isD, Q.isInt, Q.isBool, Q.isTup, Q.isStr, Q.isLst, Q.tLenN, Q.tIxN, Q.setQ, Q.aNil, Q.aD, Q.aK, Q.tCallQ, Q.tCallKQ, Q.pick, Q.sNil, Q.sSeq, Q.sRet, Q.sRetN, Q.sExpr, Q.sIf, Q.sSet, Q.sSetL, Q.sAsg, Q.sFor, Q.sPar2, Q.sPar3, Q.pNil, Q.pD, Q.pO, Q.pDn, Q.gN, Q.gT, Q.gsNil, Q.gsCons, Q.iQ, Q.itD, Q.iEn, Q.itE, Q.rg1, Q.rg2, Q.oNone, Q.oSome, Q.tSlQ, Q.revD, Q.tOwnM, Q.appC, Q.popC, Q.extC, Q.ownL, Q.tRepL, Q.repC, Q.sSetIx, Q.ixOwn, Q.tLcQ, Q.noOwn, Q.rstQ, Q.wipeQ, Q.sDn, Q.sSetD, Q.tDgetN, Q.dOwn, Q.tTupRg, Q.sNever, Q.isB, Q.listD, Q.listC, Q.reprD, Q.Sl.isOwn, List.map_cons, List.map_nil, List.replicate_succ, List.replicate_zero, List.cons_append, List.nil_append, List.append_nil, List.getElem?_cons_zero, List.getElem?_cons_succ, List.set_cons_zero, List.set_cons_succ, List.getD_cons_zero, List.getD_cons_succ, List.filterMap_cons, List.filterMap_nil, List.all_cons, List.all_nil, Bool.and_true, Bool.true_and, Bool.not_true, Bool.not_false, Bool.not_eq_true, Bool.false_eq_true, Bool.and_self, if_true, if_false, true_and, and_true, ↓reduceIte]
  exact ⟨i, rfl, h1, by simpa only [Q.enOf, Q.tV, Q.tK, Q.t2, Q.t1, Q.tB, Q.cI, Q.cIp, Q.addI, Q.subI, Q.mulI, Q.fdivI, Q.modI, Q.powI, Q.ltI, Q.leI, Q.gtI, Q.geI, Q.negI, Q.vAnd, Q.vOr, Q.vNot, Q.qAnd, Q.qOr, Q.qNot, Q.qIf, Q.chI, Q.tTupQ, Q.dNil, Q.dCons, Q.tLstQ, Q.tFz, Q.tCA, Q.lenD, Q.tupD, Q.isD, Q.isInt, Q.isBool, Q.isTup, Q.isStr, Q.isLst, Q.tLenN, Q.tIxN, Q.setQ, Q.aNil, Q.aD, Q.aK, Q.tCallQ, Q.tCallKQ, Q.pick, Q.sNil, Q.sSeq, Q.sRet, Q.sRetN, Q.sExpr, Q.sIf, Q.sSet, Q.sSetL, Q.sAsg, Q.sFor, Q.sPar2, Q.sPar3, Q.pNil, Q.pD, Q.pO, Q.pDn, Q.gN, Q.gT, Q.gsNil, Q.gsCons, Q.iQ, Q.itD, Q.iEn, Q.itE, Q.rg1, Q.rg2, Q.oNone, Q.oSome, Q.tSlQ, Q.revD, Q.tOwnM, Q.appC, Q.popC, Q.extC, Q.ownL, Q.tRepL, Q.repC, Q.sSetIx, Q.ixOwn, Q.tLcQ, Q.noOwn, Q.rstQ, Q.wipeQ, Q.sDn, Q.sSetD, Q.tDgetN, Q.dOwn, Q.tTupRg, Q.sNever, Q.isB, Q.listD, Q.listC, Q.reprD, Q.Sl.isOwn, List.map_cons, List.map_nil, List.replicate_succ, List.replicate_zero, List.cons_append, List.nil_append, List.append_nil, List.getElem?_cons_zero, List.getElem?_cons_succ, List.set_cons_zero, List.set_cons_succ, List.getD_cons_zero, List.getD_cons_succ, List.filterMap_cons, List.filterMap_nil, List.all_cons, List.all_nil, Bool.and_true, Bool.true_and, Bool.not_true, Bool.not_false, Bool.not_eq_true, Bool.false_eq_true, Bool.and_self, if_true, if_false, true_and, and_true, ↓reduceIte] using h⟩
def sp_need_order : PSpec := fun as R => ∃ (n : Nat) (xs : List Int), as = [.d (.int n), .d (tupI xs)] ∧ Ord n xs ∧ n ≤ 60 ∧ R .none
theorem len_need_order : ∀ as R, sp_need_order as R → as.length = 2 := by rintro as R ⟨i, xs, rfl, _⟩; rfl
theorem rd_need_order : ∀ as R, sp_need_order as R → t_need_order sp_is_order_value { nx := fun _ => R .none, rt := R } (enOf as 0) := by
  rintro as R ⟨i, xs, rfl, h1, h2, h⟩
  simp only [t_need_order, Q.enOf, Q.tV, Q.tK, Q.t2, Q.t1, Q.tB, Q.cI, Q.cIp, Q.addI, Q.subI, Q.mulI, Q.fdivI, Q.modI, Q.powI, Q.ltI, Q.leI, Q.gtI, Q.geI, Q.negI, Q.vAnd, Q.vOr, Q.vNot, Q.qAnd, Q.qOr, Q.qNot, Q.qIf, Q.chI, Q.tTupQ, Q.dNil, Q.dCons, Q.tLstQ, Q.tFz, Q.tCA, Q.lenD, Q.tupD, Q.isD, Q.isInt, Q.isBool, Q.isTup, Q.isStr, Q.isLst, Q.tLenN, Q.tIxN, Q.setQ, Q.aNil, Q.aD, Q.aK, Q.tCallQ, Q.tCallKQ, Q.pick, Q.sNil, Q.sSeq, Q.sRet, Q.sRetN, Q.sExpr, Q.sIf, Q.sSet, Q.sSetL, Q.sAsg, Q.sFor, Q.sPar2, Q.sPar3, Q.pNil, Q.pD, Q.pO, Q.pDn, Q.gN, Q.gT, Q.gsNil, Q.gsCons, Q.iQ, Q.itD, Q.iEn, Q.itE, Q.rg1, Q.rg2, Q.oNone, Q.oSome, Q.tSlQ, Q.revD, Q.tOwnM, Q.appC, Q.popC, Q.extC, Q.ownL, Q.tRepL, Q.repC, Q.sSetIx, Q.ixOwn, Q.tLcQ, Q.noOwn, Q.rstQ, Q.wipeQ, Q.sDn, Q.sSetD, Q.tDgetN, Q.dOwn, Q.tTupRg, Q.sNever, Q.isB, Q.listD, Q.listC, Q.reprD, Q.Sl.isOwn, List.map_cons, List.map_nil, List.replicate_succ, List.replicate_zero, List.cons_append, List.nil_append, List.append_nil, List.getElem?_cons_zero, List.getElem?_cons_succ, List.set_cons_zero, List.set_cons_succ, List.getD_cons_zero, List.getD_cons_succ, List.filterMap_cons, List.filterMap_nil, List.all_cons, List.all_nil, Bool.and_true, Bool.true_and, Bool.not_true, Bool.not_false, Bool.not_eq_true, Bool.false_eq_true, Bool.and_self, if_true, if_false, true_and, and_true, ↓reduceIte]
  exact ⟨i, xs, rfl, h1, h2, by simpa only [Q.enOf, Q.tV, Q.tK, Q.t2, Q.t1, Q.tB, Q.cI, Q.cIp, Q.addI, Q.subI, Q.mulI, Q.fdivI, Q.modI, Q.powI, Q.ltI, Q.leI, Q.gtI, Q.geI, Q.negI, Q.vAnd, Q.vOr, Q.vNot, Q.qAnd, Q.qOr, Q.qNot, Q.qIf, Q.chI, Q.tTupQ, Q.dNil, Q.dCons, Q.tLstQ, Q.tFz, Q.tCA, Q.lenD, Q.tupD, Q.isD, Q.isInt, Q.isBool, Q.isTup, Q.isStr, Q.isLst, Q.tLenN, Q.tIxN, Q.setQ, Q.aNil, Q.aD, Q.aK, Q.tCallQ, Q.tCallKQ, Q.pick, Q.sNil, Q.sSeq, Q.sRet, Q.sRetN, Q.sExpr, Q.sIf, Q.sSet, Q.sSetL, Q.sAsg, Q.sFor, Q.sPar2, Q.sPar3, Q.pNil, Q.pD, Q.pO, Q.pDn, Q.gN, Q.gT, Q.gsNil, Q.gsCons, Q.iQ, Q.itD, Q.iEn, Q.itE, Q.rg1, Q.rg2, Q.oNone, Q.oSome, Q.tSlQ, Q.revD, Q.tOwnM, Q.appC, Q.popC, Q.extC, Q.ownL, Q.tRepL, Q.repC, Q.sSetIx, Q.ixOwn, Q.tLcQ, Q.noOwn, Q.rstQ, Q.wipeQ, Q.sDn, Q.sSetD, Q.tDgetN, Q.dOwn, Q.tTupRg, Q.sNever, Q.isB, Q.listD, Q.listC, Q.reprD, Q.Sl.isOwn, List.map_cons, List.map_nil, List.replicate_succ, List.replicate_zero, List.cons_append, List.nil_append, List.append_nil, List.getElem?_cons_zero, List.getElem?_cons_succ, List.set_cons_zero, List.set_cons_succ, List.getD_cons_zero, List.getD_cons_succ, List.filterMap_cons, List.filterMap_nil, List.all_cons, List.all_nil, Bool.and_true, Bool.true_and, Bool.not_true, Bool.not_false, Bool.not_eq_true, Bool.false_eq_true, Bool.and_self, if_true, if_false, true_and, and_true, ↓reduceIte] using h⟩
def sp_need_number : PSpec := fun as R => ∃ i : Int, as = [.d (.int i)] ∧ 0 ≤ i ∧ R .none
theorem len_need_number : ∀ as R, sp_need_number as R → as.length = 1 := by rintro as R ⟨i, rfl, _⟩; rfl
theorem rd_need_number : ∀ as R, sp_need_number as R → t_need_number sp_is_integer { nx := fun _ => R .none, rt := R } (enOf as 0) := by
  rintro as R ⟨i, rfl, h1, h⟩
  simp only [t_need_number, Q.enOf, Q.tV, Q.tK, Q.t2, Q.t1, Q.tB, Q.cI, Q.cIp, Q.addI, Q.subI, Q.mulI, Q.fdivI, Q.modI, Q.powI, Q.ltI, Q.leI, Q.gtI, Q.geI, Q.negI, Q.vAnd, Q.vOr, Q.vNot, Q.qAnd, Q.qOr, Q.qNot, Q.qIf, Q.chI, Q.tTupQ, Q.dNil, Q.dCons, Q.tLstQ, Q.tFz, Q.tCA, Q.lenD, Q.tupD, Q.isD, Q.isInt, Q.isBool, Q.isTup, Q.isStr, Q.isLst, Q.tLenN, Q.tIxN, Q.setQ, Q.aNil, Q.aD, Q.aK, Q.tCallQ, Q.tCallKQ, Q.pick, Q.sNil, Q.sSeq, Q.sRet, Q.sRetN, Q.sExpr, Q.sIf, Q.sSet, Q.sSetL, Q.sAsg, Q.sFor, Q.sPar2, Q.sPar3, Q.pNil, Q.pD, Q.pO, Q.pDn, Q.gN, Q.gT, Q.gsNil, Q.gsCons, Q.iQ, Q.itD, Q.iEn, Q.itE, Q.rg1, Q.rg2, Q.oNone, Q.oSome, Q.tSlQ, Q.revD, Q.tOwnM, Q.appC, Q.popC, Q.extC, Q.ownL, Q.tRepL, Q.repC, Q.sSetIx, Q.ixOwn, Q.tLcQ, Q.noOwn, Q.rstQ, Q.wipeQ, Q.sDn, Q.sSetD, Q.tDgetN, Q.dOwn, Q.tTupRg, Q.sNever, Q.isB, Q.listD, Q.listC, Q.reprD, Q.Sl.isOwn, List.map_cons, List.map_nil, List.replicate_succ, List.replicate_zero, List.cons_append, List.nil_append, List.append_nil, List.getElem?_cons_zero, List.getElem?_cons_succ, List.set_cons_zero, List.set_cons_succ, List.getD_cons_zero, List.getD_cons_succ, List.filterMap_cons, List.filterMap_nil, List.all_cons, List.all_nil, Bool.and_true, Bool.true_and, Bool.not_true, Bool.not_false, Bool.not_eq_true, Bool.false_eq_true, Bool.and_self, if_true, if_false, true_and, and_true, ↓reduceIte]
  have e : decide (i < 0) = false := by simp; omega
  exact ⟨i, rfl, by simpa only [Q.enOf, Q.tV, Q.tK, Q.t2, Q.t1, Q.tB, Q.cI, Q.cIp, Q.addI, Q.subI, Q.mulI, Q.fdivI, Q.modI, Q.powI, Q.ltI, Q.leI, Q.gtI, Q.geI, Q.negI, Q.vAnd, Q.vOr, Q.vNot, Q.qAnd, Q.qOr, Q.qNot, Q.qIf, Q.chI, Q.tTupQ, Q.dNil, Q.dCons, Q.tLstQ, Q.tFz, Q.tCA, Q.lenD, Q.tupD, Q.isD, Q.isInt, Q.isBool, Q.isTup, Q.isStr, Q.isLst, Q.tLenN, Q.tIxN, Q.setQ, Q.aNil, Q.aD, Q.aK, Q.tCallQ, Q.tCallKQ, Q.pick, Q.sNil, Q.sSeq, Q.sRet, Q.sRetN, Q.sExpr, Q.sIf, Q.sSet, Q.sSetL, Q.sAsg, Q.sFor, Q.sPar2, Q.sPar3, Q.pNil, Q.pD, Q.pO, Q.pDn, Q.gN, Q.gT, Q.gsNil, Q.gsCons, Q.iQ, Q.itD, Q.iEn, Q.itE, Q.rg1, Q.rg2, Q.oNone, Q.oSome, Q.tSlQ, Q.revD, Q.tOwnM, Q.appC, Q.popC, Q.extC, Q.ownL, Q.tRepL, Q.repC, Q.sSetIx, Q.ixOwn, Q.tLcQ, Q.noOwn, Q.rstQ, Q.wipeQ, Q.sDn, Q.sSetD, Q.tDgetN, Q.dOwn, Q.tTupRg, Q.sNever, Q.isB, Q.listD, Q.listC, Q.reprD, Q.Sl.isOwn, List.map_cons, List.map_nil, List.replicate_succ, List.replicate_zero, List.cons_append, List.nil_append, List.append_nil, List.getElem?_cons_zero, List.getElem?_cons_succ, List.set_cons_zero, List.set_cons_succ, List.getD_cons_zero, List.getD_cons_succ, List.filterMap_cons, List.filterMap_nil, List.all_cons, List.all_nil, Bool.and_true, Bool.true_and, Bool.not_true, Bool.not_false, Bool.not_eq_true, Bool.false_eq_true, Bool.and_self, if_true, if_false, true_and, and_true, ↓reduceIte, e] using h⟩
/-! ### decks -/
def sp_is_deck : PSpec := fun as R => ∃ (n : Int) (xs : List Int), as = [.d (.int n), .d (tupI xs)] ∧ 1 ≤ n ∧ n ≤ 8 ∧ DeckOk n xs ∧ R (.bool true)
theorem len_is_deck : ∀ as R, sp_is_deck as R → as.length = 2 := by rintro as R ⟨i, xs, rfl, _⟩; rfl
theorem rd_is_deck : ∀ as R, sp_is_deck as R → t_is_deck sp_need_size sp_is_deck_value { nx := fun _ => R .none, rt := R } (enOf as 0) := by
  rintro as R ⟨i, xs, rfl, h0, h1, h2, h⟩
  simp only [t_is_deck, Q.enOf, Q.tV, Q.tK, Q.t2, Q.t1, Q.tB, Q.cI, Q.cIp, Q.addI, Q.subI, Q.mulI, Q.fdivI, Q.modI, Q.powI, Q.ltI, Q.leI, Q.gtI, Q.geI, Q.negI, Q.vAnd, Q.vOr, Q.vNot, Q.qAnd, Q.qOr, Q.qNot, Q.qIf, Q.chI, Q.tTupQ, Q.dNil, Q.dCons, Q.tLstQ, Q.tFz, Q.tCA, Q.lenD, Q.tupD, Q.isD, Q.isInt, Q.isBool, Q.isTup, Q.isStr, Q.isLst, Q.tLenN, Q.tIxN, Q.setQ, Q.aNil, Q.aD, Q.aK, Q.tCallQ, Q.tCallKQ, Q.pick, Q.sNil, Q.sSeq, Q.sRet, Q.sRetN, Q.sExpr, Q.sIf, Q.sSet, Q.sSetL, Q.sAsg, Q.sFor, Q.sPar2, Q.sPar3, Q.pNil, Q.pD, Q.pO, Q.pDn, Q.gN, Q.gT, Q.gsNil, Q.gsCons, Q.iQ, Q.itD, Q.iEn, Q.itE, Q.rg1, Q.rg2, Q.oNone, Q.oSome, Q.tSlQ, Q.revD, Q.tOwnM, Q.appC, Q.popC, Q.extC, Q.ownL, Q.tRepL, Q.repC, Q.sSetIx, Q.ixOwn, Q.tLcQ, Q.noOwn, Q.rstQ, Q.wipeQ, Q.sDn, Q.sSetD, Q.tDgetN, Q.dOwn, Q.tTupRg, Q.sNever, Q.isB, Q.listD, Q.listC, Q.reprD, Q.Sl.isOwn, List.map_cons, List.map_nil, List.replicate_succ, List.replicate_zero, List.cons_append, List.nil_append, List.append_nil, List.getElem?_cons_zero, List.getElem?_cons_succ, List.set_cons_zero, List.set_cons_succ, List.getD_cons_zero, List.getD_cons_succ, List.filterMap_cons, List.filterMap_nil, List.all_cons, List.all_nil, Bool.and_true, Bool.true_and, Bool.not_true, Bool.not_false, Bool.not_eq_true, Bool.false_eq_true, Bool.and_self, if_true, if_false, true_and, and_true, ↓reduceIte]
  refine ⟨i, rfl, h0, h1, ?_⟩
  simp only [Q.enOf, Q.tV, Q.tK, Q.t2, Q.t1, Q.tB, Q.cI, Q.cIp, Q.addI, Q.subI, Q.mulI, Q.fdivI, Q.modI, Q.powI, Q.ltI, Q.leI, Q.gtI, Q.geI, Q.negI, Q.vAnd, Q.vOr, Q.vNot, Q.qAnd, Q.qOr, Q.qNot, Q.qIf, Q.chI, Q.tTupQ, Q.dNil, Q.dCons, Q.tLstQ, Q.tFz, Q.tCA, Q.lenD, Q.tupD, Q.isD, Q.isInt, Q.isBool, Q.isTup, Q.isStr, Q.isLst, Q.tLenN, Q.tIxN, Q.setQ, Q.aNil, Q.aD, Q.aK, Q.tCallQ, Q.tCallKQ, Q.pick, Q.sNil, Q.sSeq, Q.sRet, Q.sRetN, Q.sExpr, Q.sIf, Q.sSet, Q.sSetL, Q.sAsg, Q.sFor, Q.sPar2, Q.sPar3, Q.pNil, Q.pD, Q.pO, Q.pDn, Q.gN, Q.gT, Q.gsNil, Q.gsCons, Q.iQ, Q.itD, Q.iEn, Q.itE, Q.rg1, Q.rg2, Q.oNone, Q.oSome, Q.tSlQ, Q.revD, Q.tOwnM, Q.appC, Q.popC, Q.extC, Q.ownL, Q.tRepL, Q.repC, Q.sSetIx, Q.ixOwn, Q.tLcQ, Q.noOwn, Q.rstQ, Q.wipeQ, Q.sDn, Q.sSetD, Q.tDgetN, Q.dOwn, Q.tTupRg, Q.sNever, Q.isB, Q.listD, Q.listC, Q.reprD, Q.Sl.isOwn, List.map_cons, List.map_nil, List.replicate_succ, List.replicate_zero, List.cons_append, List.nil_append, List.append_nil, List.getElem?_cons_zero, List.getElem?_cons_succ, List.set_cons_zero, List.set_cons_succ, List.getD_cons_zero, List.getD_cons_succ, List.filterMap_cons, List.filterMap_nil, List.all_cons, List.all_nil, Bool.and_true, Bool.true_and, Bool.not_true, Bool.not_false, Bool.not_eq_true, Bool.false_eq_true, Bool.and_self, if_true, if_false, true_and, and_true, ↓reduceIte]
  exact ⟨i, xs, rfl, h2, h⟩
def sp_is_order : PSpec := fun as R => ∃ (n : Nat) (xs : List Int), as = [.d (.int n), .d (tupI xs)] ∧ Ord n xs ∧ n ≤ 60 ∧ R (.bool true)
theorem len_is_order : ∀ as R, sp_is_order as R → as.length = 2 := by rintro as R ⟨i, xs, rfl, _⟩; rfl
theorem rd_is_order : ∀ as R, sp_is_order as R → t_is_order sp_need_number sp_is_order_value { nx := fun _ => R .none, rt := R } (enOf as 0) := by
  rintro as R ⟨i, xs, rfl, h1, h2, h⟩
  simp only [t_is_order, Q.enOf, Q.tV, Q.tK, Q.t2, Q.t1, Q.tB, Q.cI, Q.cIp, Q.addI, Q.subI, Q.mulI, Q.fdivI, Q.modI, Q.powI, Q.ltI, Q.leI, Q.gtI, Q.geI, Q.negI, Q.vAnd, Q.vOr, Q.vNot, Q.qAnd, Q.qOr, Q.qNot, Q.qIf, Q.chI, Q.tTupQ, Q.dNil, Q.dCons, Q.tLstQ, Q.tFz, Q.tCA, Q.lenD, Q.tupD, Q.isD, Q.isInt, Q.isBool, Q.isTup, Q.isStr, Q.isLst, Q.tLenN, Q.tIxN, Q.setQ, Q.aNil, Q.aD, Q.aK, Q.tCallQ, Q.tCallKQ, Q.pick, Q.sNil, Q.sSeq, Q.sRet, Q.sRetN, Q.sExpr, Q.sIf, Q.sSet, Q.sSetL, Q.sAsg, Q.sFor, Q.sPar2, Q.sPar3, Q.pNil, Q.pD, Q.pO, Q.pDn, Q.gN, Q.gT, Q.gsNil, Q.gsCons, Q.iQ, Q.itD, Q.iEn, Q.itE, Q.rg1, Q.rg2, Q.oNone, Q.oSome, Q.tSlQ, Q.revD, Q.tOwnM, Q.appC, Q.popC, Q.extC, Q.ownL, Q.tRepL, Q.repC, Q.sSetIx, Q.ixOwn, Q.tLcQ, Q.noOwn, Q.rstQ, Q.wipeQ, Q.sDn, Q.sSetD, Q.tDgetN, Q.dOwn, Q.tTupRg, Q.sNever, Q.isB, Q.listD, Q.listC, Q.reprD, Q.Sl.isOwn, List.map_cons, List.map_nil, List.replicate_succ, List.replicate_zero, List.cons_append, List.nil_append, List.append_nil, List.getElem?_cons_zero, List.getElem?_cons_succ, List.set_cons_zero, List.set_cons_succ, List.getD_cons_zero, List.getD_cons_succ, List.filterMap_cons, List.filterMap_nil, List.all_cons, List.all_nil, Bool.and_true, Bool.true_and, Bool.not_true, Bool.not_false, Bool.not_eq_true, Bool.false_eq_true, Bool.and_self, if_true, if_false, true_and, and_true, ↓reduceIte]
  refine ⟨i, rfl, by omega, ?_⟩
  simp only [Q.enOf, Q.tV, Q.tK, Q.t2, Q.t1, Q.tB, Q.cI, Q.cIp, Q.addI, Q.subI, Q.mulI, Q.fdivI, Q.modI, Q.powI, Q.ltI, Q.leI, Q.gtI, Q.geI, Q.negI, Q.vAnd, Q.vOr, Q.vNot, Q.qAnd, Q.qOr, Q.qNot, Q.qIf, Q.chI, Q.tTupQ, Q.dNil, Q.dCons, Q.tLstQ, Q.tFz, Q.tCA, Q.lenD, Q.tupD, Q.isD, Q.isInt, Q.isBool, Q.isTup, Q.isStr, Q.isLst, Q.tLenN, Q.tIxN, Q.setQ, Q.aNil, Q.aD, Q.aK, Q.tCallQ, Q.tCallKQ, Q.pick, Q.sNil, Q.sSeq, Q.sRet, Q.sRetN, Q.sExpr, Q.sIf, Q.sSet, Q.sSetL, Q.sAsg, Q.sFor, Q.sPar2, Q.sPar3, Q.pNil, Q.pD, Q.pO, Q.pDn, Q.gN, Q.gT, Q.gsNil, Q.gsCons, Q.iQ, Q.itD, Q.iEn, Q.itE, Q.rg1, Q.rg2, Q.oNone, Q.oSome, Q.tSlQ, Q.revD, Q.tOwnM, Q.appC, Q.popC, Q.extC, Q.ownL, Q.tRepL, Q.repC, Q.sSetIx, Q.ixOwn, Q.tLcQ, Q.noOwn, Q.rstQ, Q.wipeQ, Q.sDn, Q.sSetD, Q.tDgetN, Q.dOwn, Q.tTupRg, Q.sNever, Q.isB, Q.listD, Q.listC, Q.reprD, Q.Sl.isOwn, List.map_cons, List.map_nil, List.replicate_succ, List.replicate_zero, List.cons_append, List.nil_append, List.append_nil, List.getElem?_cons_zero, List.getElem?_cons_succ, List.set_cons_zero, List.set_cons_succ, List.getD_cons_zero, List.getD_cons_succ, List.filterMap_cons, List.filterMap_nil, List.all_cons, List.all_nil, Bool.and_true, Bool.true_and, Bool.not_true, Bool.not_false, Bool.not_eq_true, Bool.false_eq_true, Bool.and_self, if_true, if_false, true_and, and_true, ↓reduceIte]
  exact ⟨i, xs, rfl, h1, h2, h⟩
def sp_need_some_order : PSpec := fun as R => ∃ (n : Nat) (xs : List Int), as = [.d (tupI xs)] ∧ Ord n xs ∧ n ≤ 60 ∧ R .none
theorem len_need_some_order : ∀ as R, sp_need_some_order as R → as.length = 1 := by rintro as R ⟨i, xs, rfl, _⟩; rfl
theorem rd_need_some_order : ∀ as R, sp_need_some_order as R → t_need_some_order sp_is_order_value { nx := fun _ => R .none, rt := R } (enOf as 0) := by
  rintro as R ⟨n, xs, rfl, h1, h2, h⟩
  have e : decide ((60 : Int) < (n : Int)) = false := by simp; omega
  simp only [t_need_some_order, tupI, Q.enOf, Q.tV, Q.tK, Q.t2, Q.t1, Q.tB, Q.cI, Q.cIp, Q.addI, Q.subI, Q.mulI, Q.fdivI, Q.modI, Q.powI, Q.ltI, Q.leI, Q.gtI, Q.geI, Q.negI, Q.vAnd, Q.vOr, Q.vNot, Q.qAnd, Q.qOr, Q.qNot, Q.qIf, Q.chI, Q.tTupQ, Q.dNil, Q.dCons, Q.tLstQ, Q.tFz, Q.tCA, Q.lenD, Q.tupD, Q.isD, Q.isInt, Q.isBool, Q.isTup, Q.isStr, Q.isLst, Q.tLenN, Q.tIxN, Q.setQ, Q.aNil, Q.aD, Q.aK, Q.tCallQ, Q.tCallKQ, Q.pick, Q.sNil, Q.sSeq, Q.sRet, Q.sRetN, Q.sExpr, Q.sIf, Q.sSet, Q.sSetL, Q.sAsg, Q.sFor, Q.sPar2, Q.sPar3, Q.pNil, Q.pD, Q.pO, Q.pDn, Q.gN, Q.gT, Q.gsNil, Q.gsCons, Q.iQ, Q.itD, Q.iEn, Q.itE, Q.rg1, Q.rg2, Q.oNone, Q.oSome, Q.tSlQ, Q.revD, Q.tOwnM, Q.appC, Q.popC, Q.extC, Q.ownL, Q.tRepL, Q.repC, Q.sSetIx, Q.ixOwn, Q.tLcQ, Q.noOwn, Q.rstQ, Q.wipeQ, Q.sDn, Q.sSetD, Q.tDgetN, Q.dOwn, Q.tTupRg, Q.sNever, Q.isB, Q.listD, Q.listC, Q.reprD, Q.Sl.isOwn, List.map_cons, List.map_nil, List.replicate_succ, List.replicate_zero, List.cons_append, List.nil_append, List.append_nil, List.getElem?_cons_zero, List.getElem?_cons_succ, List.set_cons_zero, List.set_cons_succ, List.getD_cons_zero, List.getD_cons_succ, List.filterMap_cons, List.filterMap_nil, List.all_cons, List.all_nil, Bool.and_true, Bool.true_and, Bool.not_true, Bool.not_false, Bool.not_eq_true, Bool.false_eq_true, Bool.and_self, if_true, if_false, true_and, and_true, ↓reduceIte, List.length_map, h1.length, e]
  exact ⟨n, xs, rfl, h1, h2, by simpa only [Q.enOf, Q.tV, Q.tK, Q.t2, Q.t1, Q.tB, Q.cI, Q.cIp, Q.addI, Q.subI, Q.mulI, Q.fdivI, Q.modI, Q.powI, Q.ltI, Q.leI, Q.gtI, Q.geI, Q.negI, Q.vAnd, Q.vOr, Q.vNot, Q.qAnd, Q.qOr, Q.qNot, Q.qIf, Q.chI, Q.tTupQ, Q.dNil, Q.dCons, Q.tLstQ, Q.tFz, Q.tCA, Q.lenD, Q.tupD, Q.isD, Q.isInt, Q.isBool, Q.isTup, Q.isStr, Q.isLst, Q.tLenN, Q.tIxN, Q.setQ, Q.aNil, Q.aD, Q.aK, Q.tCallQ, Q.tCallKQ, Q.pick, Q.sNil, Q.sSeq, Q.sRet, Q.sRetN, Q.sExpr, Q.sIf, Q.sSet, Q.sSetL, Q.sAsg, Q.sFor, Q.sPar2, Q.sPar3, Q.pNil, Q.pD, Q.pO, Q.pDn, Q.gN, Q.gT, Q.gsNil, Q.gsCons, Q.iQ, Q.itD, Q.iEn, Q.itE, Q.rg1, Q.rg2, Q.oNone, Q.oSome, Q.tSlQ, Q.revD, Q.tOwnM, Q.appC, Q.popC, Q.extC, Q.ownL, Q.tRepL, Q.repC, Q.sSetIx, Q.ixOwn, Q.tLcQ, Q.noOwn, Q.rstQ, Q.wipeQ, Q.sDn, Q.sSetD, Q.tDgetN, Q.dOwn, Q.tTupRg, Q.sNever, Q.isB, Q.listD, Q.listC, Q.reprD, Q.Sl.isOwn, List.map_cons, List.map_nil, List.replicate_succ, List.replicate_zero, List.cons_append, List.nil_append, List.append_nil, List.getElem?_cons_zero, List.getElem?_cons_succ, List.set_cons_zero, List.set_cons_succ, List.getD_cons_zero, List.getD_cons_succ, List.filterMap_cons, List.filterMap_nil, List.all_cons, List.all_nil, Bool.and_true, Bool.true_and, Bool.not_true, Bool.not_false, Bool.not_eq_true, Bool.false_eq_true, Bool.and_self, if_true, if_false, true_and, and_true, ↓reduceIte] using h⟩
def sp_raw_laid : PSpec := fun as R => ∃ (d o : List Int), as = [.d (tupI d), .d (tupI o)] ∧ (∀ c, c ∈ o → 0 ≤ c ∧ c < d.length) ∧ R (tupI (laidL d o))
theorem len_raw_laid : ∀ as R, sp_raw_laid as R → as.length = 2 := by rintro as R ⟨i, xs, rfl, _⟩; rfl
theorem rd_raw_laid : ∀ as R, sp_raw_laid as R → t_raw_laid { nx := fun _ => R .none, rt := R } (enOf as 1) := by
  rintro as R ⟨d, o, rfl, h1, h⟩
  simp only [t_raw_laid, tupI, Q.enOf, Q.tV, Q.tK, Q.t2, Q.t1, Q.tB, Q.cI, Q.cIp, Q.addI, Q.subI, Q.mulI, Q.fdivI, Q.modI, Q.powI, Q.ltI, Q.leI, Q.gtI, Q.geI, Q.negI, Q.vAnd, Q.vOr, Q.vNot, Q.qAnd, Q.qOr, Q.qNot, Q.qIf, Q.chI, Q.tTupQ, Q.dNil, Q.dCons, Q.tLstQ, Q.tFz, Q.tCA, Q.lenD, Q.tupD, Q.isD, Q.isInt, Q.isBool, Q.isTup, Q.isStr, Q.isLst, Q.tLenN, Q.tIxN, Q.setQ, Q.aNil, Q.aD, Q.aK, Q.tCallQ, Q.tCallKQ, Q.pick, Q.sNil, Q.sSeq, Q.sRet, Q.sRetN, Q.sExpr, Q.sIf, Q.sSet, Q.sSetL, Q.sAsg, Q.sFor, Q.sPar2, Q.sPar3, Q.pNil, Q.pD, Q.pO, Q.pDn, Q.gN, Q.gT, Q.gsNil, Q.gsCons, Q.iQ, Q.itD, Q.iEn, Q.itE, Q.rg1, Q.rg2, Q.oNone, Q.oSome, Q.tSlQ, Q.revD, Q.tOwnM, Q.appC, Q.popC, Q.extC, Q.ownL, Q.tRepL, Q.repC, Q.sSetIx, Q.ixOwn, Q.tLcQ, Q.noOwn, Q.rstQ, Q.wipeQ, Q.sDn, Q.sSetD, Q.tDgetN, Q.dOwn, Q.tTupRg, Q.sNever, Q.isB, Q.listD, Q.listC, Q.reprD, Q.Sl.isOwn, List.map_cons, List.map_nil, List.replicate_succ, List.replicate_zero, List.cons_append, List.nil_append, List.append_nil, List.getElem?_cons_zero, List.getElem?_cons_succ, List.set_cons_zero, List.set_cons_succ, List.getD_cons_zero, List.getD_cons_succ, List.filterMap_cons, List.filterMap_nil, List.all_cons, List.all_nil, Bool.and_true, Bool.true_and, Bool.not_true, Bool.not_false, Bool.not_eq_true, Bool.false_eq_true, Bool.and_self, if_true, if_false, true_and, and_true, ↓reduceIte]
  refine comp_map (fun y => match y with | .int c => .int (d.getD c.toNat 0) | _ => .none) (fun x hx Rk hk => ?_) ?_
  · obtain ⟨c, hc, rfl⟩ := List.mem_map.mp hx
    simp only [Q.enOf, Q.tV, Q.tK, Q.t2, Q.t1, Q.tB, Q.cI, Q.cIp, Q.addI, Q.subI, Q.mulI, Q.fdivI, Q.modI, Q.powI, Q.ltI, Q.leI, Q.gtI, Q.geI, Q.negI, Q.vAnd, Q.vOr, Q.vNot, Q.qAnd, Q.qOr, Q.qNot, Q.qIf, Q.chI, Q.tTupQ, Q.dNil, Q.dCons, Q.tLstQ, Q.tFz, Q.tCA, Q.lenD, Q.tupD, Q.isD, Q.isInt, Q.isBool, Q.isTup, Q.isStr, Q.isLst, Q.tLenN, Q.tIxN, Q.setQ, Q.aNil, Q.aD, Q.aK, Q.tCallQ, Q.tCallKQ, Q.pick, Q.sNil, Q.sSeq, Q.sRet, Q.sRetN, Q.sExpr, Q.sIf, Q.sSet, Q.sSetL, Q.sAsg, Q.sFor, Q.sPar2, Q.sPar3, Q.pNil, Q.pD, Q.pO, Q.pDn, Q.gN, Q.gT, Q.gsNil, Q.gsCons, Q.iQ, Q.itD, Q.iEn, Q.itE, Q.rg1, Q.rg2, Q.oNone, Q.oSome, Q.tSlQ, Q.revD, Q.tOwnM, Q.appC, Q.popC, Q.extC, Q.ownL, Q.tRepL, Q.repC, Q.sSetIx, Q.ixOwn, Q.tLcQ, Q.noOwn, Q.rstQ, Q.wipeQ, Q.sDn, Q.sSetD, Q.tDgetN, Q.dOwn, Q.tTupRg, Q.sNever, Q.isB, Q.listD, Q.listC, Q.reprD, Q.Sl.isOwn, List.map_cons, List.map_nil, List.replicate_succ, List.replicate_zero, List.cons_append, List.nil_append, List.append_nil, List.getElem?_cons_zero, List.getElem?_cons_succ, List.set_cons_zero, List.set_cons_succ, List.getD_cons_zero, List.getD_cons_succ, List.filterMap_cons, List.filterMap_nil, List.all_cons, List.all_nil, Bool.and_true, Bool.true_and, Bool.not_true, Bool.not_false, Bool.not_eq_true, Bool.false_eq_true, Bool.and_self, if_true, if_false, true_and, and_true, ↓reduceIte, ixD]
    exact ⟨_, at_int (h1 c hc).1 (h1 c hc).2, hk _ (by simp only [Q.enOf, Q.tV, Q.tK, Q.t2, Q.t1, Q.tB, Q.cI, Q.cIp, Q.addI, Q.subI, Q.mulI, Q.fdivI, Q.modI, Q.powI, Q.ltI, Q.leI, Q.gtI, Q.geI, Q.negI, Q.vAnd, Q.vOr, Q.vNot, Q.qAnd, Q.qOr, Q.qNot, Q.qIf, Q.chI, Q.tTupQ, Q.dNil, Q.dCons, Q.tLstQ, Q.tFz, Q.tCA, Q.lenD, Q.tupD, Q.isD, Q.isInt, Q.isBool, Q.isTup, Q.isStr, Q.isLst, Q.tLenN, Q.tIxN, Q.setQ, Q.aNil, Q.aD, Q.aK, Q.tCallQ, Q.tCallKQ, Q.pick, Q.sNil, Q.sSeq, Q.sRet, Q.sRetN, Q.sExpr, Q.sIf, Q.sSet, Q.sSetL, Q.sAsg, Q.sFor, Q.sPar2, Q.sPar3, Q.pNil, Q.pD, Q.pO, Q.pDn, Q.gN, Q.gT, Q.gsNil, Q.gsCons, Q.iQ, Q.itD, Q.iEn, Q.itE, Q.rg1, Q.rg2, Q.oNone, Q.oSome, Q.tSlQ, Q.revD, Q.tOwnM, Q.appC, Q.popC, Q.extC, Q.ownL, Q.tRepL, Q.repC, Q.sSetIx, Q.ixOwn, Q.tLcQ, Q.noOwn, Q.rstQ, Q.wipeQ, Q.sDn, Q.sSetD, Q.tDgetN, Q.dOwn, Q.tTupRg, Q.sNever, Q.isB, Q.listD, Q.listC, Q.reprD, Q.Sl.isOwn, List.map_cons, List.map_nil, List.replicate_succ, List.replicate_zero, List.cons_append, List.nil_append, List.append_nil, List.getElem?_cons_zero, List.getElem?_cons_succ, List.set_cons_zero, List.set_cons_succ, List.getD_cons_zero, List.getD_cons_succ, List.filterMap_cons, List.filterMap_nil, List.all_cons, List.all_nil, Bool.and_true, Bool.true_and, Bool.not_true, Bool.not_false, Bool.not_eq_true, Bool.false_eq_true, Bool.and_self, if_true, if_false, true_and, and_true, ↓reduceIte])⟩
  · simp only [Q.enOf, Q.tV, Q.tK, Q.t2, Q.t1, Q.tB, Q.cI, Q.cIp, Q.addI, Q.subI, Q.mulI, Q.fdivI, Q.modI, Q.powI, Q.ltI, Q.leI, Q.gtI, Q.geI, Q.negI, Q.vAnd, Q.vOr, Q.vNot, Q.qAnd, Q.qOr, Q.qNot, Q.qIf, Q.chI, Q.tTupQ, Q.dNil, Q.dCons, Q.tLstQ, Q.tFz, Q.tCA, Q.lenD, Q.tupD, Q.isD, Q.isInt, Q.isBool, Q.isTup, Q.isStr, Q.isLst, Q.tLenN, Q.tIxN, Q.setQ, Q.aNil, Q.aD, Q.aK, Q.tCallQ, Q.tCallKQ, Q.pick, Q.sNil, Q.sSeq, Q.sRet, Q.sRetN, Q.sExpr, Q.sIf, Q.sSet, Q.sSetL, Q.sAsg, Q.sFor, Q.sPar2, Q.sPar3, Q.pNil, Q.pD, Q.pO, Q.pDn, Q.gN, Q.gT, Q.gsNil, Q.gsCons, Q.iQ, Q.itD, Q.iEn, Q.itE, Q.rg1, Q.rg2, Q.oNone, Q.oSome, Q.tSlQ, Q.revD, Q.tOwnM, Q.appC, Q.popC, Q.extC, Q.ownL, Q.tRepL, Q.repC, Q.sSetIx, Q.ixOwn, Q.tLcQ, Q.noOwn, Q.rstQ, Q.wipeQ, Q.sDn, Q.sSetD, Q.tDgetN, Q.dOwn, Q.tTupRg, Q.sNever, Q.isB, Q.listD, Q.listC, Q.reprD, Q.Sl.isOwn, List.map_cons, List.map_nil, List.replicate_succ, List.replicate_zero, List.cons_append, List.nil_append, List.append_nil, List.getElem?_cons_zero, List.getElem?_cons_succ, List.set_cons_zero, List.set_cons_succ, List.getD_cons_zero, List.getD_cons_succ, List.filterMap_cons, List.filterMap_nil, List.all_cons, List.all_nil, Bool.and_true, Bool.true_and, Bool.not_true, Bool.not_false, Bool.not_eq_true, Bool.false_eq_true, Bool.and_self, if_true, if_false, true_and, and_true, ↓reduceIte, List.map_map]
    have : (o.map ((fun y : PyData => match y with | .int c => PyData.int (d.getD c.toNat 0) | _ => PyData.none) ∘ PyData.int)) = (laidL d o).map PyData.int := by simp [laidL, Function.comp_def]
    rw [this]
    exact h
end T01
end P21
section P22
open PySem PySem.Spec PyProof.Rows L2 HT Q
namespace T01
/-! ### decks -/
def sp_laid : PSpec := fun as R => ∃ d o : List Int, as = [.d (tupI d), .d (tupI o)] ∧ DeckOk 8 d ∧ Ord d.length o ∧ R (tupI (laidL d o))
theorem len_laid : ∀ as R, sp_laid as R → as.length = 2 := by rintro as R ⟨i, xs, rfl, _⟩; rfl
theorem rd_laid : ∀ as R, sp_laid as R → t_laid sp_need_deck sp_need_order sp_raw_laid { nx := fun _ => R .none, rt := R } (enOf as 0) := by
  rintro as R ⟨d, o, rfl, h1, h2, h⟩
  simp only [t_laid, Q.enOf, Q.tV, Q.tK, Q.t2, Q.t1, Q.tB, Q.cI, Q.cIp, Q.addI, Q.subI, Q.mulI, Q.fdivI, Q.modI, Q.powI, Q.ltI, Q.leI, Q.gtI, Q.geI, Q.negI, Q.vAnd, Q.vOr, Q.vNot, Q.qAnd, Q.qOr, Q.qNot, Q.qIf, Q.chI, Q.tTupQ, Q.dNil, Q.dCons, Q.tLstQ, Q.tFz, Q.tCA, Q.lenD, Q.tupD, Q.isD, Q.isInt, Q.isBool, Q.isTup, Q.isStr, Q.isLst, Q.tLenN, Q.tIxN, Q.setQ, Q.aNil, Q.aD, Q.aK, Q.tCallQ, Q.tCallKQ, Q.pick, Q.sNil, Q.sSeq, Q.sRet, Q.sRetN, Q.sExpr, Q.sIf, Q.sSet, Q.sSetL, Q.sAsg, Q.sFor, Q.sPar2, Q.sPar3, Q.pNil, Q.pD, Q.pO, Q.pDn, Q.gN, Q.gT, Q.gsNil, Q.gsCons, Q.iQ, Q.itD, Q.iEn, Q.itE, Q.rg1, Q.rg2, Q.oNone, Q.oSome, Q.tSlQ, Q.revD, Q.tOwnM, Q.appC, Q.popC, Q.extC, Q.ownL, Q.tRepL, Q.repC, Q.sSetIx, Q.ixOwn, Q.tLcQ, Q.noOwn, Q.rstQ, Q.wipeQ, Q.sDn, Q.sSetD, Q.tDgetN, Q.dOwn, Q.tTupRg, Q.sNever, Q.isB, Q.listD, Q.listC, Q.reprD, Q.Sl.isOwn, List.map_cons, List.map_nil, List.replicate_succ, List.replicate_zero, List.cons_append, List.nil_append, List.append_nil, List.getElem?_cons_zero, List.getElem?_cons_succ, List.set_cons_zero, List.set_cons_succ, List.getD_cons_zero, List.getD_cons_succ, List.filterMap_cons, List.filterMap_nil, List.all_cons, List.all_nil, Bool.and_true, Bool.true_and, Bool.not_true, Bool.not_false, Bool.not_eq_true, Bool.false_eq_true, Bool.and_self, if_true, if_false, true_and, and_true, ↓reduceIte]
  refine ⟨8, d, rfl, h1, ?_⟩
  simp only [tupI, Q.enOf, Q.tV, Q.tK, Q.t2, Q.t1, Q.tB, Q.cI, Q.cIp, Q.addI, Q.subI, Q.mulI, Q.fdivI, Q.modI, Q.powI, Q.ltI, Q.leI, Q.gtI, Q.geI, Q.negI, Q.vAnd, Q.vOr, Q.vNot, Q.qAnd, Q.qOr, Q.qNot, Q.qIf, Q.chI, Q.tTupQ, Q.dNil, Q.dCons, Q.tLstQ, Q.tFz, Q.tCA, Q.lenD, Q.tupD, Q.isD, Q.isInt, Q.isBool, Q.isTup, Q.isStr, Q.isLst, Q.tLenN, Q.tIxN, Q.setQ, Q.aNil, Q.aD, Q.aK, Q.tCallQ, Q.tCallKQ, Q.pick, Q.sNil, Q.sSeq, Q.sRet, Q.sRetN, Q.sExpr, Q.sIf, Q.sSet, Q.sSetL, Q.sAsg, Q.sFor, Q.sPar2, Q.sPar3, Q.pNil, Q.pD, Q.pO, Q.pDn, Q.gN, Q.gT, Q.gsNil, Q.gsCons, Q.iQ, Q.itD, Q.iEn, Q.itE, Q.rg1, Q.rg2, Q.oNone, Q.oSome, Q.tSlQ, Q.revD, Q.tOwnM, Q.appC, Q.popC, Q.extC, Q.ownL, Q.tRepL, Q.repC, Q.sSetIx, Q.ixOwn, Q.tLcQ, Q.noOwn, Q.rstQ, Q.wipeQ, Q.sDn, Q.sSetD, Q.tDgetN, Q.dOwn, Q.tTupRg, Q.sNever, Q.isB, Q.listD, Q.listC, Q.reprD, Q.Sl.isOwn, List.map_cons, List.map_nil, List.replicate_succ, List.replicate_zero, List.cons_append, List.nil_append, List.append_nil, List.getElem?_cons_zero, List.getElem?_cons_succ, List.set_cons_zero, List.set_cons_succ, List.getD_cons_zero, List.getD_cons_succ, List.filterMap_cons, List.filterMap_nil, List.all_cons, List.all_nil, Bool.and_true, Bool.true_and, Bool.not_true, Bool.not_false, Bool.not_eq_true, Bool.false_eq_true, Bool.and_self, if_true, if_false, true_and, and_true, ↓reduceIte, List.length_map]
  refine ⟨d.length, o, rfl, h2, h1.few, ?_⟩
  simp only [Q.enOf, Q.tV, Q.tK, Q.t2, Q.t1, Q.tB, Q.cI, Q.cIp, Q.addI, Q.subI, Q.mulI, Q.fdivI, Q.modI, Q.powI, Q.ltI, Q.leI, Q.gtI, Q.geI, Q.negI, Q.vAnd, Q.vOr, Q.vNot, Q.qAnd, Q.qOr, Q.qNot, Q.qIf, Q.chI, Q.tTupQ, Q.dNil, Q.dCons, Q.tLstQ, Q.tFz, Q.tCA, Q.lenD, Q.tupD, Q.isD, Q.isInt, Q.isBool, Q.isTup, Q.isStr, Q.isLst, Q.tLenN, Q.tIxN, Q.setQ, Q.aNil, Q.aD, Q.aK, Q.tCallQ, Q.tCallKQ, Q.pick, Q.sNil, Q.sSeq, Q.sRet, Q.sRetN, Q.sExpr, Q.sIf, Q.sSet, Q.sSetL, Q.sAsg, Q.sFor, Q.sPar2, Q.sPar3, Q.pNil, Q.pD, Q.pO, Q.pDn, Q.gN, Q.gT, Q.gsNil, Q.gsCons, Q.iQ, Q.itD, Q.iEn, Q.itE, Q.rg1, Q.rg2, Q.oNone, Q.oSome, Q.tSlQ, Q.revD, Q.tOwnM, Q.appC, Q.popC, Q.extC, Q.ownL, Q.tRepL, Q.repC, Q.sSetIx, Q.ixOwn, Q.tLcQ, Q.noOwn, Q.rstQ, Q.wipeQ, Q.sDn, Q.sSetD, Q.tDgetN, Q.dOwn, Q.tTupRg, Q.sNever, Q.isB, Q.listD, Q.listC, Q.reprD, Q.Sl.isOwn, List.map_cons, List.map_nil, List.replicate_succ, List.replicate_zero, List.cons_append, List.nil_append, List.append_nil, List.getElem?_cons_zero, List.getElem?_cons_succ, List.set_cons_zero, List.set_cons_succ, List.getD_cons_zero, List.getD_cons_succ, List.filterMap_cons, List.filterMap_nil, List.all_cons, List.all_nil, Bool.and_true, Bool.true_and, Bool.not_true, Bool.not_false, Bool.not_eq_true, Bool.false_eq_true, Bool.and_self, if_true, if_false, true_and, and_true, ↓reduceIte]
  exact ⟨d, o, rfl, fun c hc => h2.mem hc, h⟩
def sp_together : PSpec := fun as R => ∃ (n : Nat) (a b : List Int), as = [.d (tupI a), .d (tupI b)] ∧ Ord n a ∧ Ord n b ∧ n ≤ 60 ∧ R (tupI (laidL a b))
theorem len_together : ∀ as R, sp_together as R → as.length = 2 := by rintro as R ⟨n, i, xs, rfl, _⟩; rfl
theorem rd_together : ∀ as R, sp_together as R → t_together sp_need_some_order sp_need_order sp_raw_laid { nx := fun _ => R .none, rt := R } (enOf as 0) := by
  rintro as R ⟨n, a, b, rfl, h1, h2, h3, h⟩
  simp only [t_together, Q.enOf, Q.tV, Q.tK, Q.t2, Q.t1, Q.tB, Q.cI, Q.cIp, Q.addI, Q.subI, Q.mulI, Q.fdivI, Q.modI, Q.powI, Q.ltI, Q.leI, Q.gtI, Q.geI, Q.negI, Q.vAnd, Q.vOr, Q.vNot, Q.qAnd, Q.qOr, Q.qNot, Q.qIf, Q.chI, Q.tTupQ, Q.dNil, Q.dCons, Q.tLstQ, Q.tFz, Q.tCA, Q.lenD, Q.tupD, Q.isD, Q.isInt, Q.isBool, Q.isTup, Q.isStr, Q.isLst, Q.tLenN, Q.tIxN, Q.setQ, Q.aNil, Q.aD, Q.aK, Q.tCallQ, Q.tCallKQ, Q.pick, Q.sNil, Q.sSeq, Q.sRet, Q.sRetN, Q.sExpr, Q.sIf, Q.sSet, Q.sSetL, Q.sAsg, Q.sFor, Q.sPar2, Q.sPar3, Q.pNil, Q.pD, Q.pO, Q.pDn, Q.gN, Q.gT, Q.gsNil, Q.gsCons, Q.iQ, Q.itD, Q.iEn, Q.itE, Q.rg1, Q.rg2, Q.oNone, Q.oSome, Q.tSlQ, Q.revD, Q.tOwnM, Q.appC, Q.popC, Q.extC, Q.ownL, Q.tRepL, Q.repC, Q.sSetIx, Q.ixOwn, Q.tLcQ, Q.noOwn, Q.rstQ, Q.wipeQ, Q.sDn, Q.sSetD, Q.tDgetN, Q.dOwn, Q.tTupRg, Q.sNever, Q.isB, Q.listD, Q.listC, Q.reprD, Q.Sl.isOwn, List.map_cons, List.map_nil, List.replicate_succ, List.replicate_zero, List.cons_append, List.nil_append, List.append_nil, List.getElem?_cons_zero, List.getElem?_cons_succ, List.set_cons_zero, List.set_cons_succ, List.getD_cons_zero, List.getD_cons_succ, List.filterMap_cons, List.filterMap_nil, List.all_cons, List.all_nil, Bool.and_true, Bool.true_and, Bool.not_true, Bool.not_false, Bool.not_eq_true, Bool.false_eq_true, Bool.and_self, if_true, if_false, true_and, and_true, ↓reduceIte]
  refine ⟨n, a, rfl, h1, h3, ?_⟩
  simp only [tupI, Q.enOf, Q.tV, Q.tK, Q.t2, Q.t1, Q.tB, Q.cI, Q.cIp, Q.addI, Q.subI, Q.mulI, Q.fdivI, Q.modI, Q.powI, Q.ltI, Q.leI, Q.gtI, Q.geI, Q.negI, Q.vAnd, Q.vOr, Q.vNot, Q.qAnd, Q.qOr, Q.qNot, Q.qIf, Q.chI, Q.tTupQ, Q.dNil, Q.dCons, Q.tLstQ, Q.tFz, Q.tCA, Q.lenD, Q.tupD, Q.isD, Q.isInt, Q.isBool, Q.isTup, Q.isStr, Q.isLst, Q.tLenN, Q.tIxN, Q.setQ, Q.aNil, Q.aD, Q.aK, Q.tCallQ, Q.tCallKQ, Q.pick, Q.sNil, Q.sSeq, Q.sRet, Q.sRetN, Q.sExpr, Q.sIf, Q.sSet, Q.sSetL, Q.sAsg, Q.sFor, Q.sPar2, Q.sPar3, Q.pNil, Q.pD, Q.pO, Q.pDn, Q.gN, Q.gT, Q.gsNil, Q.gsCons, Q.iQ, Q.itD, Q.iEn, Q.itE, Q.rg1, Q.rg2, Q.oNone, Q.oSome, Q.tSlQ, Q.revD, Q.tOwnM, Q.appC, Q.popC, Q.extC, Q.ownL, Q.tRepL, Q.repC, Q.sSetIx, Q.ixOwn, Q.tLcQ, Q.noOwn, Q.rstQ, Q.wipeQ, Q.sDn, Q.sSetD, Q.tDgetN, Q.dOwn, Q.tTupRg, Q.sNever, Q.isB, Q.listD, Q.listC, Q.reprD, Q.Sl.isOwn, List.map_cons, List.map_nil, List.replicate_succ, List.replicate_zero, List.cons_append, List.nil_append, List.append_nil, List.getElem?_cons_zero, List.getElem?_cons_succ, List.set_cons_zero, List.set_cons_succ, List.getD_cons_zero, List.getD_cons_succ, List.filterMap_cons, List.filterMap_nil, List.all_cons, List.all_nil, Bool.and_true, Bool.true_and, Bool.not_true, Bool.not_false, Bool.not_eq_true, Bool.false_eq_true, Bool.and_self, if_true, if_false, true_and, and_true, ↓reduceIte, List.length_map, h1.length]
  refine ⟨n, b, rfl, h2, h3, ?_⟩
  simp only [Q.enOf, Q.tV, Q.tK, Q.t2, Q.t1, Q.tB, Q.cI, Q.cIp, Q.addI, Q.subI, Q.mulI, Q.fdivI, Q.modI, Q.powI, Q.ltI, Q.leI, Q.gtI, Q.geI, Q.negI, Q.vAnd, Q.vOr, Q.vNot, Q.qAnd, Q.qOr, Q.qNot, Q.qIf, Q.chI, Q.tTupQ, Q.dNil, Q.dCons, Q.tLstQ, Q.tFz, Q.tCA, Q.lenD, Q.tupD, Q.isD, Q.isInt, Q.isBool, Q.isTup, Q.isStr, Q.isLst, Q.tLenN, Q.tIxN, Q.setQ, Q.aNil, Q.aD, Q.aK, Q.tCallQ, Q.tCallKQ, Q.pick, Q.sNil, Q.sSeq, Q.sRet, Q.sRetN, Q.sExpr, Q.sIf, Q.sSet, Q.sSetL, Q.sAsg, Q.sFor, Q.sPar2, Q.sPar3, Q.pNil, Q.pD, Q.pO, Q.pDn, Q.gN, Q.gT, Q.gsNil, Q.gsCons, Q.iQ, Q.itD, Q.iEn, Q.itE, Q.rg1, Q.rg2, Q.oNone, Q.oSome, Q.tSlQ, Q.revD, Q.tOwnM, Q.appC, Q.popC, Q.extC, Q.ownL, Q.tRepL, Q.repC, Q.sSetIx, Q.ixOwn, Q.tLcQ, Q.noOwn, Q.rstQ, Q.wipeQ, Q.sDn, Q.sSetD, Q.tDgetN, Q.dOwn, Q.tTupRg, Q.sNever, Q.isB, Q.listD, Q.listC, Q.reprD, Q.Sl.isOwn, List.map_cons, List.map_nil, List.replicate_succ, List.replicate_zero, List.cons_append, List.nil_append, List.append_nil, List.getElem?_cons_zero, List.getElem?_cons_succ, List.set_cons_zero, List.set_cons_succ, List.getD_cons_zero, List.getD_cons_succ, List.filterMap_cons, List.filterMap_nil, List.all_cons, List.all_nil, Bool.and_true, Bool.true_and, Bool.not_true, Bool.not_false, Bool.not_eq_true, Bool.false_eq_true, Bool.and_self, if_true, if_false, true_and, and_true, ↓reduceIte]
  exact ⟨a, b, rfl, h1.lt h2, h⟩
theorem loop_undo (R : EndsQ) (x : Sl) : ∀ (cs : List Int) (i : Nat) (f : List Int) (s2 s3 : Sl), (∀ c, c ∈ cs → 0 ≤ c ∧ c < f.length) → (∀ s2 s3, R.nx [x, .own ((undL cs i f).map .int), s2, s3]) →
    forQ (gT 2 (gsCons (gN 2) (gsCons (gN 3) gsNil))) (sSetIx 1 (tV 2) (tV 3)) R (enumFrom i (cs.map .int)) [x, .own (f.map .int), s2, s3]
  | [], i, f, s2, s3, _, h => by
    simpa only [List.map_nil, enumFrom, forQ, undL] using h s2 s3
  | c :: cs, i, f, s2, s3, hb, h => by
    have hc := hb c (by simp)
    simp only [List.map_cons, enumFrom, forQ, Q.enOf, Q.tV, Q.tK, Q.t2, Q.t1, Q.tB, Q.cI, Q.cIp, Q.addI, Q.subI, Q.mulI, Q.fdivI, Q.modI, Q.powI, Q.ltI, Q.leI, Q.gtI, Q.geI, Q.negI, Q.vAnd, Q.vOr, Q.vNot, Q.qAnd, Q.qOr, Q.qNot, Q.qIf, Q.chI, Q.tTupQ, Q.dNil, Q.dCons, Q.tLstQ, Q.tFz, Q.tCA, Q.lenD, Q.tupD, Q.isD, Q.isInt, Q.isBool, Q.isTup, Q.isStr, Q.isLst, Q.tLenN, Q.tIxN, Q.setQ, Q.aNil, Q.aD, Q.aK, Q.tCallQ, Q.tCallKQ, Q.pick, Q.sNil, Q.sSeq, Q.sRet, Q.sRetN, Q.sExpr, Q.sIf, Q.sSet, Q.sSetL, Q.sAsg, Q.sFor, Q.sPar2, Q.sPar3, Q.pNil, Q.pD, Q.pO, Q.pDn, Q.gN, Q.gT, Q.gsNil, Q.gsCons, Q.iQ, Q.itD, Q.iEn, Q.itE, Q.rg1, Q.rg2, Q.oNone, Q.oSome, Q.tSlQ, Q.revD, Q.tOwnM, Q.appC, Q.popC, Q.extC, Q.ownL, Q.tRepL, Q.repC, Q.sSetIx, Q.ixOwn, Q.tLcQ, Q.noOwn, Q.rstQ, Q.wipeQ, Q.sDn, Q.sSetD, Q.tDgetN, Q.dOwn, Q.tTupRg, Q.sNever, Q.isB, Q.listD, Q.listC, Q.reprD, Q.Sl.isOwn, List.map_cons, List.map_nil, List.replicate_succ, List.replicate_zero, List.cons_append, List.nil_append, List.append_nil, List.getElem?_cons_zero, List.getElem?_cons_succ, List.set_cons_zero, List.set_cons_succ, List.getD_cons_zero, List.getD_cons_succ, List.filterMap_cons, List.filterMap_nil, List.all_cons, List.all_nil, Bool.and_true, Bool.true_and, Bool.not_true, Bool.not_false, Bool.not_eq_true, Bool.false_eq_true, Bool.and_self, if_true, if_false, true_and, and_true, ↓reduceIte, List.length_cons, List.length_nil, List.length_map]
    refine ⟨hc.1, hc.2, ?_⟩
    have := loop_undo R x cs (i + 1) (f.set c.toNat (i : Int)) (.d (.int (i : Nat))) (.d (.int c)) (fun z hz => by rw [List.length_set]; exact hb z (by simp [hz])) (by simpa only [undL] using h)
    rw [List.map_set] at this
    exact this
theorem flat_rep (n : Nat) (x : PyData) : (List.replicate n [x]).flatten = List.replicate n x := by
  induction n with
  | zero => rfl
  | succ n ih => rw [List.replicate_succ, List.flatten_cons, ih]; rfl
def sp_undone_order : PSpec := fun as R => ∃ (n : Nat) (o : List Int), as = [.d (tupI o)] ∧ Ord n o ∧ n ≤ 60 ∧ R (tupI (undo o))
theorem len_undone_order : ∀ as R, sp_undone_order as R → as.length = 1 := by rintro as R ⟨n, i, rfl, _⟩; rfl
theorem rd_undone_order : ∀ as R, sp_undone_order as R → t_undone_order sp_need_some_order { nx := fun _ => R .none, rt := R } (enOf as 3) := by
  rintro as R ⟨n, o, rfl, h1, h2, h⟩
  simp only [t_undone_order, Q.enOf, Q.tV, Q.tK, Q.t2, Q.t1, Q.tB, Q.cI, Q.cIp, Q.addI, Q.subI, Q.mulI, Q.fdivI, Q.modI, Q.powI, Q.ltI, Q.leI, Q.gtI, Q.geI, Q.negI, Q.vAnd, Q.vOr, Q.vNot, Q.qAnd, Q.qOr, Q.qNot, Q.qIf, Q.chI, Q.tTupQ, Q.dNil, Q.dCons, Q.tLstQ, Q.tFz, Q.tCA, Q.lenD, Q.tupD, Q.isD, Q.isInt, Q.isBool, Q.isTup, Q.isStr, Q.isLst, Q.tLenN, Q.tIxN, Q.setQ, Q.aNil, Q.aD, Q.aK, Q.tCallQ, Q.tCallKQ, Q.pick, Q.sNil, Q.sSeq, Q.sRet, Q.sRetN, Q.sExpr, Q.sIf, Q.sSet, Q.sSetL, Q.sAsg, Q.sFor, Q.sPar2, Q.sPar3, Q.pNil, Q.pD, Q.pO, Q.pDn, Q.gN, Q.gT, Q.gsNil, Q.gsCons, Q.iQ, Q.itD, Q.iEn, Q.itE, Q.rg1, Q.rg2, Q.oNone, Q.oSome, Q.tSlQ, Q.revD, Q.tOwnM, Q.appC, Q.popC, Q.extC, Q.ownL, Q.tRepL, Q.repC, Q.sSetIx, Q.ixOwn, Q.tLcQ, Q.noOwn, Q.rstQ, Q.wipeQ, Q.sDn, Q.sSetD, Q.tDgetN, Q.dOwn, Q.tTupRg, Q.sNever, Q.isB, Q.listD, Q.listC, Q.reprD, Q.Sl.isOwn, List.map_cons, List.map_nil, List.replicate_succ, List.replicate_zero, List.cons_append, List.nil_append, List.append_nil, List.getElem?_cons_zero, List.getElem?_cons_succ, List.set_cons_zero, List.set_cons_succ, List.getD_cons_zero, List.getD_cons_succ, List.filterMap_cons, List.filterMap_nil, List.all_cons, List.all_nil, Bool.and_true, Bool.true_and, Bool.not_true, Bool.not_false, Bool.not_eq_true, Bool.false_eq_true, Bool.and_self, if_true, if_false, true_and, and_true, ↓reduceIte]
  refine ⟨n, o, rfl, h1, h2, ?_⟩
  simp only [tupI, Q.enOf, Q.tV, Q.tK, Q.t2, Q.t1, Q.tB, Q.cI, Q.cIp, Q.addI, Q.subI, Q.mulI, Q.fdivI, Q.modI, Q.powI, Q.ltI, Q.leI, Q.gtI, Q.geI, Q.negI, Q.vAnd, Q.vOr, Q.vNot, Q.qAnd, Q.qOr, Q.qNot, Q.qIf, Q.chI, Q.tTupQ, Q.dNil, Q.dCons, Q.tLstQ, Q.tFz, Q.tCA, Q.lenD, Q.tupD, Q.isD, Q.isInt, Q.isBool, Q.isTup, Q.isStr, Q.isLst, Q.tLenN, Q.tIxN, Q.setQ, Q.aNil, Q.aD, Q.aK, Q.tCallQ, Q.tCallKQ, Q.pick, Q.sNil, Q.sSeq, Q.sRet, Q.sRetN, Q.sExpr, Q.sIf, Q.sSet, Q.sSetL, Q.sAsg, Q.sFor, Q.sPar2, Q.sPar3, Q.pNil, Q.pD, Q.pO, Q.pDn, Q.gN, Q.gT, Q.gsNil, Q.gsCons, Q.iQ, Q.itD, Q.iEn, Q.itE, Q.rg1, Q.rg2, Q.oNone, Q.oSome, Q.tSlQ, Q.revD, Q.tOwnM, Q.appC, Q.popC, Q.extC, Q.ownL, Q.tRepL, Q.repC, Q.sSetIx, Q.ixOwn, Q.tLcQ, Q.noOwn, Q.rstQ, Q.wipeQ, Q.sDn, Q.sSetD, Q.tDgetN, Q.dOwn, Q.tTupRg, Q.sNever, Q.isB, Q.listD, Q.listC, Q.reprD, Q.Sl.isOwn, List.map_cons, List.map_nil, List.replicate_succ, List.replicate_zero, List.cons_append, List.nil_append, List.append_nil, List.getElem?_cons_zero, List.getElem?_cons_succ, List.set_cons_zero, List.set_cons_succ, List.getD_cons_zero, List.getD_cons_succ, List.filterMap_cons, List.filterMap_nil, List.all_cons, List.all_nil, Bool.and_true, Bool.true_and, Bool.not_true, Bool.not_false, Bool.not_eq_true, Bool.false_eq_true, Bool.and_self, if_true, if_false, true_and, and_true, ↓reduceIte, List.length_map, List.length_cons, List.length_nil, h1.length]
  refine ⟨by decide, by omega, by omega, by decide, ?_⟩
  have e : (List.replicate ((n : Nat) : Int).toNat [PyData.int 0]).flatten = (List.replicate o.length (0 : Int)).map .int := by
    rw [flat_rep, List.map_replicate, h1.length]; simp
  rw [e]
  refine loop_undo _ (.d (.tuple (o.map .int))) o 0 (List.replicate o.length 0) .un .un (fun c hc => by rw [List.length_replicate, h1.length]; exact h1.mem hc) fun s2 s3 => ?_
  simp only [Q.enOf, Q.tV, Q.tK, Q.t2, Q.t1, Q.tB, Q.cI, Q.cIp, Q.addI, Q.subI, Q.mulI, Q.fdivI, Q.modI, Q.powI, Q.ltI, Q.leI, Q.gtI, Q.geI, Q.negI, Q.vAnd, Q.vOr, Q.vNot, Q.qAnd, Q.qOr, Q.qNot, Q.qIf, Q.chI, Q.tTupQ, Q.dNil, Q.dCons, Q.tLstQ, Q.tFz, Q.tCA, Q.lenD, Q.tupD, Q.isD, Q.isInt, Q.isBool, Q.isTup, Q.isStr, Q.isLst, Q.tLenN, Q.tIxN, Q.setQ, Q.aNil, Q.aD, Q.aK, Q.tCallQ, Q.tCallKQ, Q.pick, Q.sNil, Q.sSeq, Q.sRet, Q.sRetN, Q.sExpr, Q.sIf, Q.sSet, Q.sSetL, Q.sAsg, Q.sFor, Q.sPar2, Q.sPar3, Q.pNil, Q.pD, Q.pO, Q.pDn, Q.gN, Q.gT, Q.gsNil, Q.gsCons, Q.iQ, Q.itD, Q.iEn, Q.itE, Q.rg1, Q.rg2, Q.oNone, Q.oSome, Q.tSlQ, Q.revD, Q.tOwnM, Q.appC, Q.popC, Q.extC, Q.ownL, Q.tRepL, Q.repC, Q.sSetIx, Q.ixOwn, Q.tLcQ, Q.noOwn, Q.rstQ, Q.wipeQ, Q.sDn, Q.sSetD, Q.tDgetN, Q.dOwn, Q.tTupRg, Q.sNever, Q.isB, Q.listD, Q.listC, Q.reprD, Q.Sl.isOwn, List.map_cons, List.map_nil, List.replicate_succ, List.replicate_zero, List.cons_append, List.nil_append, List.append_nil, List.getElem?_cons_zero, List.getElem?_cons_succ, List.set_cons_zero, List.set_cons_succ, List.getD_cons_zero, List.getD_cons_succ, List.filterMap_cons, List.filterMap_nil, List.all_cons, List.all_nil, Bool.and_true, Bool.true_and, Bool.not_true, Bool.not_false, Bool.not_eq_true, Bool.false_eq_true, Bool.and_self, if_true, if_false, true_and, and_true, ↓reduceIte]
  exact h
def sp_opposite : PSpec := fun as R => ∃ (n : Nat) (o : List Int), as = [.d (tupI o)] ∧ Ord n o ∧ n ≤ 60 ∧ R (tupI o.reverse)
theorem len_opposite : ∀ as R, sp_opposite as R → as.length = 1 := by rintro as R ⟨n, i, rfl, _⟩; rfl
theorem rd_opposite : ∀ as R, sp_opposite as R → t_opposite sp_need_some_order { nx := fun _ => R .none, rt := R } (enOf as 0) := by
  rintro as R ⟨n, o, rfl, h1, h2, h⟩
  simp only [t_opposite, Q.enOf, Q.tV, Q.tK, Q.t2, Q.t1, Q.tB, Q.cI, Q.cIp, Q.addI, Q.subI, Q.mulI, Q.fdivI, Q.modI, Q.powI, Q.ltI, Q.leI, Q.gtI, Q.geI, Q.negI, Q.vAnd, Q.vOr, Q.vNot, Q.qAnd, Q.qOr, Q.qNot, Q.qIf, Q.chI, Q.tTupQ, Q.dNil, Q.dCons, Q.tLstQ, Q.tFz, Q.tCA, Q.lenD, Q.tupD, Q.isD, Q.isInt, Q.isBool, Q.isTup, Q.isStr, Q.isLst, Q.tLenN, Q.tIxN, Q.setQ, Q.aNil, Q.aD, Q.aK, Q.tCallQ, Q.tCallKQ, Q.pick, Q.sNil, Q.sSeq, Q.sRet, Q.sRetN, Q.sExpr, Q.sIf, Q.sSet, Q.sSetL, Q.sAsg, Q.sFor, Q.sPar2, Q.sPar3, Q.pNil, Q.pD, Q.pO, Q.pDn, Q.gN, Q.gT, Q.gsNil, Q.gsCons, Q.iQ, Q.itD, Q.iEn, Q.itE, Q.rg1, Q.rg2, Q.oNone, Q.oSome, Q.tSlQ, Q.revD, Q.tOwnM, Q.appC, Q.popC, Q.extC, Q.ownL, Q.tRepL, Q.repC, Q.sSetIx, Q.ixOwn, Q.tLcQ, Q.noOwn, Q.rstQ, Q.wipeQ, Q.sDn, Q.sSetD, Q.tDgetN, Q.dOwn, Q.tTupRg, Q.sNever, Q.isB, Q.listD, Q.listC, Q.reprD, Q.Sl.isOwn, List.map_cons, List.map_nil, List.replicate_succ, List.replicate_zero, List.cons_append, List.nil_append, List.append_nil, List.getElem?_cons_zero, List.getElem?_cons_succ, List.set_cons_zero, List.set_cons_succ, List.getD_cons_zero, List.getD_cons_succ, List.filterMap_cons, List.filterMap_nil, List.all_cons, List.all_nil, Bool.and_true, Bool.true_and, Bool.not_true, Bool.not_false, Bool.not_eq_true, Bool.false_eq_true, Bool.and_self, if_true, if_false, true_and, and_true, ↓reduceIte]
  refine ⟨n, o, rfl, h1, h2, ?_⟩
  simp only [tupI, Q.enOf, Q.tV, Q.tK, Q.t2, Q.t1, Q.tB, Q.cI, Q.cIp, Q.addI, Q.subI, Q.mulI, Q.fdivI, Q.modI, Q.powI, Q.ltI, Q.leI, Q.gtI, Q.geI, Q.negI, Q.vAnd, Q.vOr, Q.vNot, Q.qAnd, Q.qOr, Q.qNot, Q.qIf, Q.chI, Q.tTupQ, Q.dNil, Q.dCons, Q.tLstQ, Q.tFz, Q.tCA, Q.lenD, Q.tupD, Q.isD, Q.isInt, Q.isBool, Q.isTup, Q.isStr, Q.isLst, Q.tLenN, Q.tIxN, Q.setQ, Q.aNil, Q.aD, Q.aK, Q.tCallQ, Q.tCallKQ, Q.pick, Q.sNil, Q.sSeq, Q.sRet, Q.sRetN, Q.sExpr, Q.sIf, Q.sSet, Q.sSetL, Q.sAsg, Q.sFor, Q.sPar2, Q.sPar3, Q.pNil, Q.pD, Q.pO, Q.pDn, Q.gN, Q.gT, Q.gsNil, Q.gsCons, Q.iQ, Q.itD, Q.iEn, Q.itE, Q.rg1, Q.rg2, Q.oNone, Q.oSome, Q.tSlQ, Q.revD, Q.tOwnM, Q.appC, Q.popC, Q.extC, Q.ownL, Q.tRepL, Q.repC, Q.sSetIx, Q.ixOwn, Q.tLcQ, Q.noOwn, Q.rstQ, Q.wipeQ, Q.sDn, Q.sSetD, Q.tDgetN, Q.dOwn, Q.tTupRg, Q.sNever, Q.isB, Q.listD, Q.listC, Q.reprD, Q.Sl.isOwn, List.map_cons, List.map_nil, List.replicate_succ, List.replicate_zero, List.cons_append, List.nil_append, List.append_nil, List.getElem?_cons_zero, List.getElem?_cons_succ, List.set_cons_zero, List.set_cons_succ, List.getD_cons_zero, List.getD_cons_succ, List.filterMap_cons, List.filterMap_nil, List.all_cons, List.all_nil, Bool.and_true, Bool.true_and, Bool.not_true, Bool.not_false, Bool.not_eq_true, Bool.false_eq_true, Bool.and_self, if_true, if_false, true_and, and_true, ↓reduceIte]
  rw [← List.map_reverse]
  exact h
/-- how many of the deck are k -/
def isK (k : Int) : PyData → Bool
  | .int c => decide (c = k)
  | _ => false
theorem filter_isK (k : Int) (d : List Int) : (d.map PyData.int).filter (isK k) = (d.filter fun c => decide (c = k)).map .int := by
  rw [List.filter_map]; rfl
def cntD (d : List Int) : PyData → PyData
  | .int k => .int ((d.filter fun c => decide (c = k)).length : Int)
  | _ => .none
theorem rg_row (n : Nat) : rg 0 n = (row n).map .int := by simp [rg, row]
def sp_counts_of : PSpec := fun as R => ∃ (n : Nat) (d : List Int), as = [.d (.int n), .d (tupI d)] ∧ 1 ≤ n ∧ n ≤ 8 ∧ DeckOk n d ∧ R (tupI (countsL n d))
theorem len_counts_of : ∀ as R, sp_counts_of as R → as.length = 2 := by rintro as R ⟨n, i, rfl, _⟩; rfl
theorem rd_counts_of : ∀ as R, sp_counts_of as R → t_counts_of sp_need_size sp_need_deck { nx := fun _ => R .none, rt := R } (enOf as 2) := by
  rintro as R ⟨n, d, rfl, h1, h2, h3, h⟩
  simp only [t_counts_of, Q.enOf, Q.tV, Q.tK, Q.t2, Q.t1, Q.tB, Q.cI, Q.cIp, Q.addI, Q.subI, Q.mulI, Q.fdivI, Q.modI, Q.powI, Q.ltI, Q.leI, Q.gtI, Q.geI, Q.negI, Q.vAnd, Q.vOr, Q.vNot, Q.qAnd, Q.qOr, Q.qNot, Q.qIf, Q.chI, Q.tTupQ, Q.dNil, Q.dCons, Q.tLstQ, Q.tFz, Q.tCA, Q.lenD, Q.tupD, Q.isD, Q.isInt, Q.isBool, Q.isTup, Q.isStr, Q.isLst, Q.tLenN, Q.tIxN, Q.setQ, Q.aNil, Q.aD, Q.aK, Q.tCallQ, Q.tCallKQ, Q.pick, Q.sNil, Q.sSeq, Q.sRet, Q.sRetN, Q.sExpr, Q.sIf, Q.sSet, Q.sSetL, Q.sAsg, Q.sFor, Q.sPar2, Q.sPar3, Q.pNil, Q.pD, Q.pO, Q.pDn, Q.gN, Q.gT, Q.gsNil, Q.gsCons, Q.iQ, Q.itD, Q.iEn, Q.itE, Q.rg1, Q.rg2, Q.oNone, Q.oSome, Q.tSlQ, Q.revD, Q.tOwnM, Q.appC, Q.popC, Q.extC, Q.ownL, Q.tRepL, Q.repC, Q.sSetIx, Q.ixOwn, Q.tLcQ, Q.noOwn, Q.rstQ, Q.wipeQ, Q.sDn, Q.sSetD, Q.tDgetN, Q.dOwn, Q.tTupRg, Q.sNever, Q.isB, Q.listD, Q.listC, Q.reprD, Q.Sl.isOwn, List.map_cons, List.map_nil, List.replicate_succ, List.replicate_zero, List.cons_append, List.nil_append, List.append_nil, List.getElem?_cons_zero, List.getElem?_cons_succ, List.set_cons_zero, List.set_cons_succ, List.getD_cons_zero, List.getD_cons_succ, List.filterMap_cons, List.filterMap_nil, List.all_cons, List.all_nil, Bool.and_true, Bool.true_and, Bool.not_true, Bool.not_false, Bool.not_eq_true, Bool.false_eq_true, Bool.and_self, if_true, if_false, true_and, and_true, ↓reduceIte]
  refine ⟨n, rfl, by omega, by omega, ?_⟩
  simp only [Q.enOf, Q.tV, Q.tK, Q.t2, Q.t1, Q.tB, Q.cI, Q.cIp, Q.addI, Q.subI, Q.mulI, Q.fdivI, Q.modI, Q.powI, Q.ltI, Q.leI, Q.gtI, Q.geI, Q.negI, Q.vAnd, Q.vOr, Q.vNot, Q.qAnd, Q.qOr, Q.qNot, Q.qIf, Q.chI, Q.tTupQ, Q.dNil, Q.dCons, Q.tLstQ, Q.tFz, Q.tCA, Q.lenD, Q.tupD, Q.isD, Q.isInt, Q.isBool, Q.isTup, Q.isStr, Q.isLst, Q.tLenN, Q.tIxN, Q.setQ, Q.aNil, Q.aD, Q.aK, Q.tCallQ, Q.tCallKQ, Q.pick, Q.sNil, Q.sSeq, Q.sRet, Q.sRetN, Q.sExpr, Q.sIf, Q.sSet, Q.sSetL, Q.sAsg, Q.sFor, Q.sPar2, Q.sPar3, Q.pNil, Q.pD, Q.pO, Q.pDn, Q.gN, Q.gT, Q.gsNil, Q.gsCons, Q.iQ, Q.itD, Q.iEn, Q.itE, Q.rg1, Q.rg2, Q.oNone, Q.oSome, Q.tSlQ, Q.revD, Q.tOwnM, Q.appC, Q.popC, Q.extC, Q.ownL, Q.tRepL, Q.repC, Q.sSetIx, Q.ixOwn, Q.tLcQ, Q.noOwn, Q.rstQ, Q.wipeQ, Q.sDn, Q.sSetD, Q.tDgetN, Q.dOwn, Q.tTupRg, Q.sNever, Q.isB, Q.listD, Q.listC, Q.reprD, Q.Sl.isOwn, List.map_cons, List.map_nil, List.replicate_succ, List.replicate_zero, List.cons_append, List.nil_append, List.append_nil, List.getElem?_cons_zero, List.getElem?_cons_succ, List.set_cons_zero, List.set_cons_succ, List.getD_cons_zero, List.getD_cons_succ, List.filterMap_cons, List.filterMap_nil, List.all_cons, List.all_nil, Bool.and_true, Bool.true_and, Bool.not_true, Bool.not_false, Bool.not_eq_true, Bool.false_eq_true, Bool.and_self, if_true, if_false, true_and, and_true, ↓reduceIte]
  refine ⟨n, d, rfl, h3, ?_⟩
  simp only [tupI, Q.enOf, Q.tV, Q.tK, Q.t2, Q.t1, Q.tB, Q.cI, Q.cIp, Q.addI, Q.subI, Q.mulI, Q.fdivI, Q.modI, Q.powI, Q.ltI, Q.leI, Q.gtI, Q.geI, Q.negI, Q.vAnd, Q.vOr, Q.vNot, Q.qAnd, Q.qOr, Q.qNot, Q.qIf, Q.chI, Q.tTupQ, Q.dNil, Q.dCons, Q.tLstQ, Q.tFz, Q.tCA, Q.lenD, Q.tupD, Q.isD, Q.isInt, Q.isBool, Q.isTup, Q.isStr, Q.isLst, Q.tLenN, Q.tIxN, Q.setQ, Q.aNil, Q.aD, Q.aK, Q.tCallQ, Q.tCallKQ, Q.pick, Q.sNil, Q.sSeq, Q.sRet, Q.sRetN, Q.sExpr, Q.sIf, Q.sSet, Q.sSetL, Q.sAsg, Q.sFor, Q.sPar2, Q.sPar3, Q.pNil, Q.pD, Q.pO, Q.pDn, Q.gN, Q.gT, Q.gsNil, Q.gsCons, Q.iQ, Q.itD, Q.iEn, Q.itE, Q.rg1, Q.rg2, Q.oNone, Q.oSome, Q.tSlQ, Q.revD, Q.tOwnM, Q.appC, Q.popC, Q.extC, Q.ownL, Q.tRepL, Q.repC, Q.sSetIx, Q.ixOwn, Q.tLcQ, Q.noOwn, Q.rstQ, Q.wipeQ, Q.sDn, Q.sSetD, Q.tDgetN, Q.dOwn, Q.tTupRg, Q.sNever, Q.isB, Q.listD, Q.listC, Q.reprD, Q.Sl.isOwn, List.map_cons, List.map_nil, List.replicate_succ, List.replicate_zero, List.cons_append, List.nil_append, List.append_nil, List.getElem?_cons_zero, List.getElem?_cons_succ, List.set_cons_zero, List.set_cons_succ, List.getD_cons_zero, List.getD_cons_succ, List.filterMap_cons, List.filterMap_nil, List.all_cons, List.all_nil, Bool.and_true, Bool.true_and, Bool.not_true, Bool.not_false, Bool.not_eq_true, Bool.false_eq_true, Bool.and_self, if_true, if_false, true_and, and_true, ↓reduceIte, rg_row, Int.toNat_natCast]
  refine ⟨by omega, by omega, ?_⟩
  refine comp_map (cntD d) (fun x hx Rk hk => ?_) ?_
  · obtain ⟨k, hk2, rfl⟩ := List.mem_map.mp hx
    simp only [Q.enOf, Q.tV, Q.tK, Q.t2, Q.t1, Q.tB, Q.cI, Q.cIp, Q.addI, Q.subI, Q.mulI, Q.fdivI, Q.modI, Q.powI, Q.ltI, Q.leI, Q.gtI, Q.geI, Q.negI, Q.vAnd, Q.vOr, Q.vNot, Q.qAnd, Q.qOr, Q.qNot, Q.qIf, Q.chI, Q.tTupQ, Q.dNil, Q.dCons, Q.tLstQ, Q.tFz, Q.tCA, Q.lenD, Q.tupD, Q.isD, Q.isInt, Q.isBool, Q.isTup, Q.isStr, Q.isLst, Q.tLenN, Q.tIxN, Q.setQ, Q.aNil, Q.aD, Q.aK, Q.tCallQ, Q.tCallKQ, Q.pick, Q.sNil, Q.sSeq, Q.sRet, Q.sRetN, Q.sExpr, Q.sIf, Q.sSet, Q.sSetL, Q.sAsg, Q.sFor, Q.sPar2, Q.sPar3, Q.pNil, Q.pD, Q.pO, Q.pDn, Q.gN, Q.gT, Q.gsNil, Q.gsCons, Q.iQ, Q.itD, Q.iEn, Q.itE, Q.rg1, Q.rg2, Q.oNone, Q.oSome, Q.tSlQ, Q.revD, Q.tOwnM, Q.appC, Q.popC, Q.extC, Q.ownL, Q.tRepL, Q.repC, Q.sSetIx, Q.ixOwn, Q.tLcQ, Q.noOwn, Q.rstQ, Q.wipeQ, Q.sDn, Q.sSetD, Q.tDgetN, Q.dOwn, Q.tTupRg, Q.sNever, Q.isB, Q.listD, Q.listC, Q.reprD, Q.Sl.isOwn, List.map_cons, List.map_nil, List.replicate_succ, List.replicate_zero, List.cons_append, List.nil_append, List.append_nil, List.getElem?_cons_zero, List.getElem?_cons_succ, List.set_cons_zero, List.set_cons_succ, List.getD_cons_zero, List.getD_cons_succ, List.filterMap_cons, List.filterMap_nil, List.all_cons, List.all_nil, Bool.and_true, Bool.true_and, Bool.not_true, Bool.not_false, Bool.not_eq_true, Bool.false_eq_true, Bool.and_self, if_true, if_false, true_and, and_true, ↓reduceIte]
    refine comp_if (isK k) (fun _ => .int 1) (fun y hy Rk Rf hk hf => ?_) ?_
    · obtain ⟨c, hc, rfl⟩ := List.mem_map.mp hy
      simp only [Q.enOf, Q.tV, Q.tK, Q.t2, Q.t1, Q.tB, Q.cI, Q.cIp, Q.addI, Q.subI, Q.mulI, Q.fdivI, Q.modI, Q.powI, Q.ltI, Q.leI, Q.gtI, Q.geI, Q.negI, Q.vAnd, Q.vOr, Q.vNot, Q.qAnd, Q.qOr, Q.qNot, Q.qIf, Q.chI, Q.tTupQ, Q.dNil, Q.dCons, Q.tLstQ, Q.tFz, Q.tCA, Q.lenD, Q.tupD, Q.isD, Q.isInt, Q.isBool, Q.isTup, Q.isStr, Q.isLst, Q.tLenN, Q.tIxN, Q.setQ, Q.aNil, Q.aD, Q.aK, Q.tCallQ, Q.tCallKQ, Q.pick, Q.sNil, Q.sSeq, Q.sRet, Q.sRetN, Q.sExpr, Q.sIf, Q.sSet, Q.sSetL, Q.sAsg, Q.sFor, Q.sPar2, Q.sPar3, Q.pNil, Q.pD, Q.pO, Q.pDn, Q.gN, Q.gT, Q.gsNil, Q.gsCons, Q.iQ, Q.itD, Q.iEn, Q.itE, Q.rg1, Q.rg2, Q.oNone, Q.oSome, Q.tSlQ, Q.revD, Q.tOwnM, Q.appC, Q.popC, Q.extC, Q.ownL, Q.tRepL, Q.repC, Q.sSetIx, Q.ixOwn, Q.tLcQ, Q.noOwn, Q.rstQ, Q.wipeQ, Q.sDn, Q.sSetD, Q.tDgetN, Q.dOwn, Q.tTupRg, Q.sNever, Q.isB, Q.listD, Q.listC, Q.reprD, Q.Sl.isOwn, List.map_cons, List.map_nil, List.replicate_succ, List.replicate_zero, List.cons_append, List.nil_append, List.append_nil, List.getElem?_cons_zero, List.getElem?_cons_succ, List.set_cons_zero, List.set_cons_succ, List.getD_cons_zero, List.getD_cons_succ, List.filterMap_cons, List.filterMap_nil, List.all_cons, List.all_nil, Bool.and_true, Bool.true_and, Bool.not_true, Bool.not_false, Bool.not_eq_true, Bool.false_eq_true, Bool.and_self, if_true, if_false, true_and, and_true, ↓reduceIte, eqD, sh_int, eqv_int]
      cases e : decide (c = k) with
      | true => exact hk _ e (by simp only [Q.enOf, Q.tV, Q.tK, Q.t2, Q.t1, Q.tB, Q.cI, Q.cIp, Q.addI, Q.subI, Q.mulI, Q.fdivI, Q.modI, Q.powI, Q.ltI, Q.leI, Q.gtI, Q.geI, Q.negI, Q.vAnd, Q.vOr, Q.vNot, Q.qAnd, Q.qOr, Q.qNot, Q.qIf, Q.chI, Q.tTupQ, Q.dNil, Q.dCons, Q.tLstQ, Q.tFz, Q.tCA, Q.lenD, Q.tupD, Q.isD, Q.isInt, Q.isBool, Q.isTup, Q.isStr, Q.isLst, Q.tLenN, Q.tIxN, Q.setQ, Q.aNil, Q.aD, Q.aK, Q.tCallQ, Q.tCallKQ, Q.pick, Q.sNil, Q.sSeq, Q.sRet, Q.sRetN, Q.sExpr, Q.sIf, Q.sSet, Q.sSetL, Q.sAsg, Q.sFor, Q.sPar2, Q.sPar3, Q.pNil, Q.pD, Q.pO, Q.pDn, Q.gN, Q.gT, Q.gsNil, Q.gsCons, Q.iQ, Q.itD, Q.iEn, Q.itE, Q.rg1, Q.rg2, Q.oNone, Q.oSome, Q.tSlQ, Q.revD, Q.tOwnM, Q.appC, Q.popC, Q.extC, Q.ownL, Q.tRepL, Q.repC, Q.sSetIx, Q.ixOwn, Q.tLcQ, Q.noOwn, Q.rstQ, Q.wipeQ, Q.sDn, Q.sSetD, Q.tDgetN, Q.dOwn, Q.tTupRg, Q.sNever, Q.isB, Q.listD, Q.listC, Q.reprD, Q.Sl.isOwn, List.map_cons, List.map_nil, List.replicate_succ, List.replicate_zero, List.cons_append, List.nil_append, List.append_nil, List.getElem?_cons_zero, List.getElem?_cons_succ, List.set_cons_zero, List.set_cons_succ, List.getD_cons_zero, List.getD_cons_succ, List.filterMap_cons, List.filterMap_nil, List.all_cons, List.all_nil, Bool.and_true, Bool.true_and, Bool.not_true, Bool.not_false, Bool.not_eq_true, Bool.false_eq_true, Bool.and_self, if_true, if_false, true_and, and_true, ↓reduceIte])
      | false => exact hf _ e (by simp only [Q.enOf, Q.tV, Q.tK, Q.t2, Q.t1, Q.tB, Q.cI, Q.cIp, Q.addI, Q.subI, Q.mulI, Q.fdivI, Q.modI, Q.powI, Q.ltI, Q.leI, Q.gtI, Q.geI, Q.negI, Q.vAnd, Q.vOr, Q.vNot, Q.qAnd, Q.qOr, Q.qNot, Q.qIf, Q.chI, Q.tTupQ, Q.dNil, Q.dCons, Q.tLstQ, Q.tFz, Q.tCA, Q.lenD, Q.tupD, Q.isD, Q.isInt, Q.isBool, Q.isTup, Q.isStr, Q.isLst, Q.tLenN, Q.tIxN, Q.setQ, Q.aNil, Q.aD, Q.aK, Q.tCallQ, Q.tCallKQ, Q.pick, Q.sNil, Q.sSeq, Q.sRet, Q.sRetN, Q.sExpr, Q.sIf, Q.sSet, Q.sSetL, Q.sAsg, Q.sFor, Q.sPar2, Q.sPar3, Q.pNil, Q.pD, Q.pO, Q.pDn, Q.gN, Q.gT, Q.gsNil, Q.gsCons, Q.iQ, Q.itD, Q.iEn, Q.itE, Q.rg1, Q.rg2, Q.oNone, Q.oSome, Q.tSlQ, Q.revD, Q.tOwnM, Q.appC, Q.popC, Q.extC, Q.ownL, Q.tRepL, Q.repC, Q.sSetIx, Q.ixOwn, Q.tLcQ, Q.noOwn, Q.rstQ, Q.wipeQ, Q.sDn, Q.sSetD, Q.tDgetN, Q.dOwn, Q.tTupRg, Q.sNever, Q.isB, Q.listD, Q.listC, Q.reprD, Q.Sl.isOwn, List.map_cons, List.map_nil, List.replicate_succ, List.replicate_zero, List.cons_append, List.nil_append, List.append_nil, List.getElem?_cons_zero, List.getElem?_cons_succ, List.set_cons_zero, List.set_cons_succ, List.getD_cons_zero, List.getD_cons_succ, List.filterMap_cons, List.filterMap_nil, List.all_cons, List.all_nil, Bool.and_true, Bool.true_and, Bool.not_true, Bool.not_false, Bool.not_eq_true, Bool.false_eq_true, Bool.and_self, if_true, if_false, true_and, and_true, ↓reduceIte])
    · simp only [Q.enOf, Q.tV, Q.tK, Q.t2, Q.t1, Q.tB, Q.cI, Q.cIp, Q.addI, Q.subI, Q.mulI, Q.fdivI, Q.modI, Q.powI, Q.ltI, Q.leI, Q.gtI, Q.geI, Q.negI, Q.vAnd, Q.vOr, Q.vNot, Q.qAnd, Q.qOr, Q.qNot, Q.qIf, Q.chI, Q.tTupQ, Q.dNil, Q.dCons, Q.tLstQ, Q.tFz, Q.tCA, Q.lenD, Q.tupD, Q.isD, Q.isInt, Q.isBool, Q.isTup, Q.isStr, Q.isLst, Q.tLenN, Q.tIxN, Q.setQ, Q.aNil, Q.aD, Q.aK, Q.tCallQ, Q.tCallKQ, Q.pick, Q.sNil, Q.sSeq, Q.sRet, Q.sRetN, Q.sExpr, Q.sIf, Q.sSet, Q.sSetL, Q.sAsg, Q.sFor, Q.sPar2, Q.sPar3, Q.pNil, Q.pD, Q.pO, Q.pDn, Q.gN, Q.gT, Q.gsNil, Q.gsCons, Q.iQ, Q.itD, Q.iEn, Q.itE, Q.rg1, Q.rg2, Q.oNone, Q.oSome, Q.tSlQ, Q.revD, Q.tOwnM, Q.appC, Q.popC, Q.extC, Q.ownL, Q.tRepL, Q.repC, Q.sSetIx, Q.ixOwn, Q.tLcQ, Q.noOwn, Q.rstQ, Q.wipeQ, Q.sDn, Q.sSetD, Q.tDgetN, Q.dOwn, Q.tTupRg, Q.sNever, Q.isB, Q.listD, Q.listC, Q.reprD, Q.Sl.isOwn, List.map_cons, List.map_nil, List.replicate_succ, List.replicate_zero, List.cons_append, List.nil_append, List.append_nil, List.getElem?_cons_zero, List.getElem?_cons_succ, List.set_cons_zero, List.set_cons_succ, List.getD_cons_zero, List.getD_cons_succ, List.filterMap_cons, List.filterMap_nil, List.all_cons, List.all_nil, Bool.and_true, Bool.true_and, Bool.not_true, Bool.not_false, Bool.not_eq_true, Bool.false_eq_true, Bool.and_self, if_true, if_false, true_and, and_true, ↓reduceIte, List.length_map, filter_isK]
      exact hk _ (by simp only [Q.enOf, Q.tV, Q.tK, Q.t2, Q.t1, Q.tB, Q.cI, Q.cIp, Q.addI, Q.subI, Q.mulI, Q.fdivI, Q.modI, Q.powI, Q.ltI, Q.leI, Q.gtI, Q.geI, Q.negI, Q.vAnd, Q.vOr, Q.vNot, Q.qAnd, Q.qOr, Q.qNot, Q.qIf, Q.chI, Q.tTupQ, Q.dNil, Q.dCons, Q.tLstQ, Q.tFz, Q.tCA, Q.lenD, Q.tupD, Q.isD, Q.isInt, Q.isBool, Q.isTup, Q.isStr, Q.isLst, Q.tLenN, Q.tIxN, Q.setQ, Q.aNil, Q.aD, Q.aK, Q.tCallQ, Q.tCallKQ, Q.pick, Q.sNil, Q.sSeq, Q.sRet, Q.sRetN, Q.sExpr, Q.sIf, Q.sSet, Q.sSetL, Q.sAsg, Q.sFor, Q.sPar2, Q.sPar3, Q.pNil, Q.pD, Q.pO, Q.pDn, Q.gN, Q.gT, Q.gsNil, Q.gsCons, Q.iQ, Q.itD, Q.iEn, Q.itE, Q.rg1, Q.rg2, Q.oNone, Q.oSome, Q.tSlQ, Q.revD, Q.tOwnM, Q.appC, Q.popC, Q.extC, Q.ownL, Q.tRepL, Q.repC, Q.sSetIx, Q.ixOwn, Q.tLcQ, Q.noOwn, Q.rstQ, Q.wipeQ, Q.sDn, Q.sSetD, Q.tDgetN, Q.dOwn, Q.tTupRg, Q.sNever, Q.isB, Q.listD, Q.listC, Q.reprD, Q.Sl.isOwn, List.map_cons, List.map_nil, List.replicate_succ, List.replicate_zero, List.cons_append, List.nil_append, List.append_nil, List.getElem?_cons_zero, List.getElem?_cons_succ, List.set_cons_zero, List.set_cons_succ, List.getD_cons_zero, List.getD_cons_succ, List.filterMap_cons, List.filterMap_nil, List.all_cons, List.all_nil, Bool.and_true, Bool.true_and, Bool.not_true, Bool.not_false, Bool.not_eq_true, Bool.false_eq_true, Bool.and_self, if_true, if_false, true_and, and_true, ↓reduceIte])
  · simp only [Q.enOf, Q.tV, Q.tK, Q.t2, Q.t1, Q.tB, Q.cI, Q.cIp, Q.addI, Q.subI, Q.mulI, Q.fdivI, Q.modI, Q.powI, Q.ltI, Q.leI, Q.gtI, Q.geI, Q.negI, Q.vAnd, Q.vOr, Q.vNot, Q.qAnd, Q.qOr, Q.qNot, Q.qIf, Q.chI, Q.tTupQ, Q.dNil, Q.dCons, Q.tLstQ, Q.tFz, Q.tCA, Q.lenD, Q.tupD, Q.isD, Q.isInt, Q.isBool, Q.isTup, Q.isStr, Q.isLst, Q.tLenN, Q.tIxN, Q.setQ, Q.aNil, Q.aD, Q.aK, Q.tCallQ, Q.tCallKQ, Q.pick, Q.sNil, Q.sSeq, Q.sRet, Q.sRetN, Q.sExpr, Q.sIf, Q.sSet, Q.sSetL, Q.sAsg, Q.sFor, Q.sPar2, Q.sPar3, Q.pNil, Q.pD, Q.pO, Q.pDn, Q.gN, Q.gT, Q.gsNil, Q.gsCons, Q.iQ, Q.itD, Q.iEn, Q.itE, Q.rg1, Q.rg2, Q.oNone, Q.oSome, Q.tSlQ, Q.revD, Q.tOwnM, Q.appC, Q.popC, Q.extC, Q.ownL, Q.tRepL, Q.repC, Q.sSetIx, Q.ixOwn, Q.tLcQ, Q.noOwn, Q.rstQ, Q.wipeQ, Q.sDn, Q.sSetD, Q.tDgetN, Q.dOwn, Q.tTupRg, Q.sNever, Q.isB, Q.listD, Q.listC, Q.reprD, Q.Sl.isOwn, List.map_cons, List.map_nil, List.replicate_succ, List.replicate_zero, List.cons_append, List.nil_append, List.append_nil, List.getElem?_cons_zero, List.getElem?_cons_succ, List.set_cons_zero, List.set_cons_succ, List.getD_cons_zero, List.getD_cons_succ, List.filterMap_cons, List.filterMap_nil, List.all_cons, List.all_nil, Bool.and_true, Bool.true_and, Bool.not_true, Bool.not_false, Bool.not_eq_true, Bool.false_eq_true, Bool.and_self, if_true, if_false, true_and, and_true, ↓reduceIte, List.map_map]
    have : (row n).map (cntD d ∘ PyData.int) = (countsL n d).map .int := by simp [countsL, cntD, Function.comp_def]
    rw [this]
    exact h
/-! ### throws -/
def sp_raw_size : PSpec := fun as R => ∃ th : Thr, as = [.d (thrD th)] ∧ R (.int (kinds th).length)
theorem len_raw_size : ∀ as R, sp_raw_size as R → as.length = 1 := by rintro as R ⟨n, rfl, _⟩; rfl
def lotLen : PyData → PyData
  | .tuple [.tuple xs, _] => .int xs.length
  | _ => .none
theorem kinds_len : ∀ th : Thr, (th.map fun p => (p.1.length : Int)).sum = ((kinds th).length : Int)
  | [] => rfl
  | p :: th => by
    have e : kinds (p :: th) = p.1 ++ kinds th := by simp [kinds]
    rw [List.map_cons, List.sum_cons, kinds_len th, e, List.length_append]
    omega
theorem rd_raw_size : ∀ as R, sp_raw_size as R → t_raw_size { nx := fun _ => R .none, rt := R } (enOf as 2) := by
  rintro as R ⟨th, rfl, h⟩
  simp only [t_raw_size, thrD, Q.enOf, Q.tV, Q.tK, Q.t2, Q.t1, Q.tB, Q.cI, Q.cIp, Q.addI, Q.subI, Q.mulI, Q.fdivI, Q.modI, Q.powI, Q.ltI, Q.leI, Q.gtI, Q.geI, Q.negI, Q.vAnd, Q.vOr, Q.vNot, Q.qAnd, Q.qOr, Q.qNot, Q.qIf, Q.chI, Q.tTupQ, Q.dNil, Q.dCons, Q.tLstQ, Q.tFz, Q.tCA, Q.lenD, Q.tupD, Q.isD, Q.isInt, Q.isBool, Q.isTup, Q.isStr, Q.isLst, Q.tLenN, Q.tIxN, Q.setQ, Q.aNil, Q.aD, Q.aK, Q.tCallQ, Q.tCallKQ, Q.pick, Q.sNil, Q.sSeq, Q.sRet, Q.sRetN, Q.sExpr, Q.sIf, Q.sSet, Q.sSetL, Q.sAsg, Q.sFor, Q.sPar2, Q.sPar3, Q.pNil, Q.pD, Q.pO, Q.pDn, Q.gN, Q.gT, Q.gsNil, Q.gsCons, Q.iQ, Q.itD, Q.iEn, Q.itE, Q.rg1, Q.rg2, Q.oNone, Q.oSome, Q.tSlQ, Q.revD, Q.tOwnM, Q.appC, Q.popC, Q.extC, Q.ownL, Q.tRepL, Q.repC, Q.sSetIx, Q.ixOwn, Q.tLcQ, Q.noOwn, Q.rstQ, Q.wipeQ, Q.sDn, Q.sSetD, Q.tDgetN, Q.dOwn, Q.tTupRg, Q.sNever, Q.isB, Q.listD, Q.listC, Q.reprD, Q.Sl.isOwn, List.map_cons, List.map_nil, List.replicate_succ, List.replicate_zero, List.cons_append, List.nil_append, List.append_nil, List.getElem?_cons_zero, List.getElem?_cons_succ, List.set_cons_zero, List.set_cons_succ, List.getD_cons_zero, List.getD_cons_succ, List.filterMap_cons, List.filterMap_nil, List.all_cons, List.all_nil, Bool.and_true, Bool.true_and, Bool.not_true, Bool.not_false, Bool.not_eq_true, Bool.false_eq_true, Bool.and_self, if_true, if_false, true_and, and_true, ↓reduceIte]
  refine comp_map lotLen (fun x hx Rk hk => ?_) ?_
  · obtain ⟨p, hp, rfl⟩ := List.mem_map.mp hx
    simp only [lotD, tupI, lotLen, Q.enOf, Q.tV, Q.tK, Q.t2, Q.t1, Q.tB, Q.cI, Q.cIp, Q.addI, Q.subI, Q.mulI, Q.fdivI, Q.modI, Q.powI, Q.ltI, Q.leI, Q.gtI, Q.geI, Q.negI, Q.vAnd, Q.vOr, Q.vNot, Q.qAnd, Q.qOr, Q.qNot, Q.qIf, Q.chI, Q.tTupQ, Q.dNil, Q.dCons, Q.tLstQ, Q.tFz, Q.tCA, Q.lenD, Q.tupD, Q.isD, Q.isInt, Q.isBool, Q.isTup, Q.isStr, Q.isLst, Q.tLenN, Q.tIxN, Q.setQ, Q.aNil, Q.aD, Q.aK, Q.tCallQ, Q.tCallKQ, Q.pick, Q.sNil, Q.sSeq, Q.sRet, Q.sRetN, Q.sExpr, Q.sIf, Q.sSet, Q.sSetL, Q.sAsg, Q.sFor, Q.sPar2, Q.sPar3, Q.pNil, Q.pD, Q.pO, Q.pDn, Q.gN, Q.gT, Q.gsNil, Q.gsCons, Q.iQ, Q.itD, Q.iEn, Q.itE, Q.rg1, Q.rg2, Q.oNone, Q.oSome, Q.tSlQ, Q.revD, Q.tOwnM, Q.appC, Q.popC, Q.extC, Q.ownL, Q.tRepL, Q.repC, Q.sSetIx, Q.ixOwn, Q.tLcQ, Q.noOwn, Q.rstQ, Q.wipeQ, Q.sDn, Q.sSetD, Q.tDgetN, Q.dOwn, Q.tTupRg, Q.sNever, Q.isB, Q.listD, Q.listC, Q.reprD, Q.Sl.isOwn, List.map_cons, List.map_nil, List.replicate_succ, List.replicate_zero, List.cons_append, List.nil_append, List.append_nil, List.getElem?_cons_zero, List.getElem?_cons_succ, List.set_cons_zero, List.set_cons_succ, List.getD_cons_zero, List.getD_cons_succ, List.filterMap_cons, List.filterMap_nil, List.all_cons, List.all_nil, Bool.and_true, Bool.true_and, Bool.not_true, Bool.not_false, Bool.not_eq_true, Bool.false_eq_true, Bool.and_self, if_true, if_false, true_and, and_true, ↓reduceIte, List.length_cons, List.length_nil] at hk ⊢
    exact hk _ (by simp only [Q.enOf, Q.tV, Q.tK, Q.t2, Q.t1, Q.tB, Q.cI, Q.cIp, Q.addI, Q.subI, Q.mulI, Q.fdivI, Q.modI, Q.powI, Q.ltI, Q.leI, Q.gtI, Q.geI, Q.negI, Q.vAnd, Q.vOr, Q.vNot, Q.qAnd, Q.qOr, Q.qNot, Q.qIf, Q.chI, Q.tTupQ, Q.dNil, Q.dCons, Q.tLstQ, Q.tFz, Q.tCA, Q.lenD, Q.tupD, Q.isD, Q.isInt, Q.isBool, Q.isTup, Q.isStr, Q.isLst, Q.tLenN, Q.tIxN, Q.setQ, Q.aNil, Q.aD, Q.aK, Q.tCallQ, Q.tCallKQ, Q.pick, Q.sNil, Q.sSeq, Q.sRet, Q.sRetN, Q.sExpr, Q.sIf, Q.sSet, Q.sSetL, Q.sAsg, Q.sFor, Q.sPar2, Q.sPar3, Q.pNil, Q.pD, Q.pO, Q.pDn, Q.gN, Q.gT, Q.gsNil, Q.gsCons, Q.iQ, Q.itD, Q.iEn, Q.itE, Q.rg1, Q.rg2, Q.oNone, Q.oSome, Q.tSlQ, Q.revD, Q.tOwnM, Q.appC, Q.popC, Q.extC, Q.ownL, Q.tRepL, Q.repC, Q.sSetIx, Q.ixOwn, Q.tLcQ, Q.noOwn, Q.rstQ, Q.wipeQ, Q.sDn, Q.sSetD, Q.tDgetN, Q.dOwn, Q.tTupRg, Q.sNever, Q.isB, Q.listD, Q.listC, Q.reprD, Q.Sl.isOwn, List.map_cons, List.map_nil, List.replicate_succ, List.replicate_zero, List.cons_append, List.nil_append, List.append_nil, List.getElem?_cons_zero, List.getElem?_cons_succ, List.set_cons_zero, List.set_cons_succ, List.getD_cons_zero, List.getD_cons_succ, List.filterMap_cons, List.filterMap_nil, List.all_cons, List.all_nil, Bool.and_true, Bool.true_and, Bool.not_true, Bool.not_false, Bool.not_eq_true, Bool.false_eq_true, Bool.and_self, if_true, if_false, true_and, and_true, ↓reduceIte])
  · simp only [Q.enOf, Q.tV, Q.tK, Q.t2, Q.t1, Q.tB, Q.cI, Q.cIp, Q.addI, Q.subI, Q.mulI, Q.fdivI, Q.modI, Q.powI, Q.ltI, Q.leI, Q.gtI, Q.geI, Q.negI, Q.vAnd, Q.vOr, Q.vNot, Q.qAnd, Q.qOr, Q.qNot, Q.qIf, Q.chI, Q.tTupQ, Q.dNil, Q.dCons, Q.tLstQ, Q.tFz, Q.tCA, Q.lenD, Q.tupD, Q.isD, Q.isInt, Q.isBool, Q.isTup, Q.isStr, Q.isLst, Q.tLenN, Q.tIxN, Q.setQ, Q.aNil, Q.aD, Q.aK, Q.tCallQ, Q.tCallKQ, Q.pick, Q.sNil, Q.sSeq, Q.sRet, Q.sRetN, Q.sExpr, Q.sIf, Q.sSet, Q.sSetL, Q.sAsg, Q.sFor, Q.sPar2, Q.sPar3, Q.pNil, Q.pD, Q.pO, Q.pDn, Q.gN, Q.gT, Q.gsNil, Q.gsCons, Q.iQ, Q.itD, Q.iEn, Q.itE, Q.rg1, Q.rg2, Q.oNone, Q.oSome, Q.tSlQ, Q.revD, Q.tOwnM, Q.appC, Q.popC, Q.extC, Q.ownL, Q.tRepL, Q.repC, Q.sSetIx, Q.ixOwn, Q.tLcQ, Q.noOwn, Q.rstQ, Q.wipeQ, Q.sDn, Q.sSetD, Q.tDgetN, Q.dOwn, Q.tTupRg, Q.sNever, Q.isB, Q.listD, Q.listC, Q.reprD, Q.Sl.isOwn, List.map_cons, List.map_nil, List.replicate_succ, List.replicate_zero, List.cons_append, List.nil_append, List.append_nil, List.getElem?_cons_zero, List.getElem?_cons_succ, List.set_cons_zero, List.set_cons_succ, List.getD_cons_zero, List.getD_cons_succ, List.filterMap_cons, List.filterMap_nil, List.all_cons, List.all_nil, Bool.and_true, Bool.true_and, Bool.not_true, Bool.not_false, Bool.not_eq_true, Bool.false_eq_true, Bool.and_self, if_true, if_false, true_and, and_true, ↓reduceIte, sumD]
    refine ⟨th.map fun p => (p.1.length : Int), by simp [lotLen, lotD, Function.comp_def], ?_⟩
    rw [kinds_len]
    exact h
def inLot (lot : List Int) : PyData → Bool
  | .tuple [_, .int k] => lot.contains k
  | _ => false
def fstD : PyData → PyData
  | .tuple (x :: _) => x
  | _ => .none
theorem enum_mem : ∀ {cs : List Int} {i : Nat} {x : PyData}, x ∈ enumFrom i (cs.map .int) → ∃ (j : Nat) (k : Int), x = .tuple [.int (j : Nat), .int k] ∧ k ∈ cs
  | [], _, _, h => by simp [enumFrom] at h
  | c :: cs, i, x, h => by
    simp only [List.map_cons, enumFrom, List.mem_cons] at h
    rcases h with rfl | h
    · exact ⟨i, c, rfl, by simp⟩
    · obtain ⟨j, k, e, hk⟩ := enum_mem h
      exact ⟨j, k, e, by simp [hk]⟩
theorem enum_filter (lot : List Int) : ∀ (cs : List Int) (i : Nat), ((enumFrom i (cs.map .int)).filter (inLot lot)).map fstD = (cardsF (fun k => lot.contains k) i cs).map .int
  | [], _ => rfl
  | c :: cs, i => by
    have ih := enum_filter lot cs (i + 1)
    rw [List.map_cons, enumFrom, cardsF]
    by_cases e : lot.contains c = true
    · rw [if_pos e, List.filter_cons_of_pos (by exact e), List.map_cons, List.map_cons, ih]; rfl
    · rw [if_neg e, List.filter_cons_of_neg (by exact e), ih]
theorem inD_ints {k : Int} {lot : List Int} {R : PyData → Prop} (h : R (.bool (lot.contains k))) : inD false (.int k) (.tuple (lot.map .int)) R := by
  unfold inD
  refine ⟨rfl, by simp [flatD], ?_⟩
  have : ((lot.map PyData.int).any fun z => PyData.eqv z (.int k)) = lot.contains k := by
    rw [List.any_map, List.contains_eq_any_beq]
    congr 1
    funext z
    simp only [Function.comp, eqv_int, Bool.beq_eq_decide_eq]
    by_cases e : z = k
    · simp [e]
    · have : ¬ k = z := fun h => e h.symm
      simp [e, this]
  simp only [this, Bool.false_eq_true, if_false]
  exact h
theorem cards_few (p : Int → Bool) : ∀ (cs : List Int) (i : Nat), (cardsF p i cs).length ≤ cs.length
  | [], _ => Nat.le_refl _
  | c :: cs, i => by
    have ih := cards_few p cs (i + 1)
    unfold cardsF
    split <;> simp <;> omega
theorem heap_few (deck : List Int) (p : List Int × Int) : (heapOf deck p).length ≤ deck.length := by
  unfold heapOf
  split
  · exact cards_few _ _ _
  · rw [List.length_reverse]; exact cards_few _ _ _
theorem loop_raw (R : EndsQ) (x : Sl) (deck : List Int) (hd : deck.length ≤ 60) : ∀ (th : Thr) (acc : List Int) (s3 s4 s5 : Sl), acc.length + 60 * th.length ≤ 100000 → (∀ s3 s4 s5, R.nx [x, .d (tupI deck), .own ((acc ++ rawOrder th deck).map .int), s3, s4, s5, .un, .un]) →
    forQ (gT 2 (gsCons (gN 3) (gsCons (gN 4) gsNil))) (sSeq (sSetL 5 (tLcQ (iEn (tV 1)) (gT 2 (gsCons (gN 6) (gsCons (gN 7) gsNil))) (tB (t2 (inD false) (tV 7) (tV 3))) (tV 6) [6, 7]))
      (sExpr (tOwnM 2 extC (dCons (qIf (tB (t2 eqD (tV 4) (tK (.int 1)))) (tV 5) (t1 revD (tV 5))) dNil)))) R (th.map lotD) [x, .d (tupI deck), .own (acc.map .int), s3, s4, s5, .un, .un]
  | [], acc, s3, s4, s5, _, h => by
    have := h s3 s4 s5
    simp only [rawOrder, List.map_nil, List.flatten_nil, List.append_nil] at this
    simpa only [List.map_nil, forQ] using this
  | p :: th, acc, s3, s4, s5, hl, h => by
    have e : rawOrder (p :: th) deck = heapOf deck p ++ rawOrder th deck := by simp [rawOrder]
    rw [e] at h
    rw [List.length_cons] at hl
    have hf := heap_few deck p
    have step := loop_raw R x deck hd th (acc ++ heapOf deck p) (.d (tupI p.1)) (.d (.int p.2)) (.d (.list ((cardsF (fun k => p.1.contains k) 0 deck).map .int))) (by rw [List.length_append]; omega) (by rw [List.append_assoc]; exact h)
    rw [List.map_append] at step
    simp only [List.map_cons, forQ, lotD, tupI, Q.enOf, Q.tV, Q.tK, Q.t2, Q.t1, Q.tB, Q.cI, Q.cIp, Q.addI, Q.subI, Q.mulI, Q.fdivI, Q.modI, Q.powI, Q.ltI, Q.leI, Q.gtI, Q.geI, Q.negI, Q.vAnd, Q.vOr, Q.vNot, Q.qAnd, Q.qOr, Q.qNot, Q.qIf, Q.chI, Q.tTupQ, Q.dNil, Q.dCons, Q.tLstQ, Q.tFz, Q.tCA, Q.lenD, Q.tupD, Q.isD, Q.isInt, Q.isBool, Q.isTup, Q.isStr, Q.isLst, Q.tLenN, Q.tIxN, Q.setQ, Q.aNil, Q.aD, Q.aK, Q.tCallQ, Q.tCallKQ, Q.pick, Q.sNil, Q.sSeq, Q.sRet, Q.sRetN, Q.sExpr, Q.sIf, Q.sSet, Q.sSetL, Q.sAsg, Q.sFor, Q.sPar2, Q.sPar3, Q.pNil, Q.pD, Q.pO, Q.pDn, Q.gN, Q.gT, Q.gsNil, Q.gsCons, Q.iQ, Q.itD, Q.iEn, Q.itE, Q.rg1, Q.rg2, Q.oNone, Q.oSome, Q.tSlQ, Q.revD, Q.tOwnM, Q.appC, Q.popC, Q.extC, Q.ownL, Q.tRepL, Q.repC, Q.sSetIx, Q.ixOwn, Q.tLcQ, Q.noOwn, Q.rstQ, Q.wipeQ, Q.sDn, Q.sSetD, Q.tDgetN, Q.dOwn, Q.tTupRg, Q.sNever, Q.isB, Q.listD, Q.listC, Q.reprD, Q.Sl.isOwn, List.map_cons, List.map_nil, List.replicate_succ, List.replicate_zero, List.cons_append, List.nil_append, List.append_nil, List.getElem?_cons_zero, List.getElem?_cons_succ, List.set_cons_zero, List.set_cons_succ, List.getD_cons_zero, List.getD_cons_succ, List.filterMap_cons, List.filterMap_nil, List.all_cons, List.all_nil, Bool.and_true, Bool.true_and, Bool.not_true, Bool.not_false, Bool.not_eq_true, Bool.false_eq_true, Bool.and_self, if_true, if_false, true_and, and_true, ↓reduceIte, List.length_cons, List.length_nil]
    refine comp_if (inLot p.1) fstD (fun y hy Rk Rf hk hf => ?_) ?_
    · obtain ⟨j, k, rfl, hk2⟩ := enum_mem hy
      simp only [Q.enOf, Q.tV, Q.tK, Q.t2, Q.t1, Q.tB, Q.cI, Q.cIp, Q.addI, Q.subI, Q.mulI, Q.fdivI, Q.modI, Q.powI, Q.ltI, Q.leI, Q.gtI, Q.geI, Q.negI, Q.vAnd, Q.vOr, Q.vNot, Q.qAnd, Q.qOr, Q.qNot, Q.qIf, Q.chI, Q.tTupQ, Q.dNil, Q.dCons, Q.tLstQ, Q.tFz, Q.tCA, Q.lenD, Q.tupD, Q.isD, Q.isInt, Q.isBool, Q.isTup, Q.isStr, Q.isLst, Q.tLenN, Q.tIxN, Q.setQ, Q.aNil, Q.aD, Q.aK, Q.tCallQ, Q.tCallKQ, Q.pick, Q.sNil, Q.sSeq, Q.sRet, Q.sRetN, Q.sExpr, Q.sIf, Q.sSet, Q.sSetL, Q.sAsg, Q.sFor, Q.sPar2, Q.sPar3, Q.pNil, Q.pD, Q.pO, Q.pDn, Q.gN, Q.gT, Q.gsNil, Q.gsCons, Q.iQ, Q.itD, Q.iEn, Q.itE, Q.rg1, Q.rg2, Q.oNone, Q.oSome, Q.tSlQ, Q.revD, Q.tOwnM, Q.appC, Q.popC, Q.extC, Q.ownL, Q.tRepL, Q.repC, Q.sSetIx, Q.ixOwn, Q.tLcQ, Q.noOwn, Q.rstQ, Q.wipeQ, Q.sDn, Q.sSetD, Q.tDgetN, Q.dOwn, Q.tTupRg, Q.sNever, Q.isB, Q.listD, Q.listC, Q.reprD, Q.Sl.isOwn, List.map_cons, List.map_nil, List.replicate_succ, List.replicate_zero, List.cons_append, List.nil_append, List.append_nil, List.getElem?_cons_zero, List.getElem?_cons_succ, List.set_cons_zero, List.set_cons_succ, List.getD_cons_zero, List.getD_cons_succ, List.filterMap_cons, List.filterMap_nil, List.all_cons, List.all_nil, Bool.and_true, Bool.true_and, Bool.not_true, Bool.not_false, Bool.not_eq_true, Bool.false_eq_true, Bool.and_self, if_true, if_false, true_and, and_true, ↓reduceIte, List.length_cons, List.length_nil, inLot, fstD] at hk hf ⊢
      refine inD_ints ?_
      simp only [Q.enOf, Q.tV, Q.tK, Q.t2, Q.t1, Q.tB, Q.cI, Q.cIp, Q.addI, Q.subI, Q.mulI, Q.fdivI, Q.modI, Q.powI, Q.ltI, Q.leI, Q.gtI, Q.geI, Q.negI, Q.vAnd, Q.vOr, Q.vNot, Q.qAnd, Q.qOr, Q.qNot, Q.qIf, Q.chI, Q.tTupQ, Q.dNil, Q.dCons, Q.tLstQ, Q.tFz, Q.tCA, Q.lenD, Q.tupD, Q.isD, Q.isInt, Q.isBool, Q.isTup, Q.isStr, Q.isLst, Q.tLenN, Q.tIxN, Q.setQ, Q.aNil, Q.aD, Q.aK, Q.tCallQ, Q.tCallKQ, Q.pick, Q.sNil, Q.sSeq, Q.sRet, Q.sRetN, Q.sExpr, Q.sIf, Q.sSet, Q.sSetL, Q.sAsg, Q.sFor, Q.sPar2, Q.sPar3, Q.pNil, Q.pD, Q.pO, Q.pDn, Q.gN, Q.gT, Q.gsNil, Q.gsCons, Q.iQ, Q.itD, Q.iEn, Q.itE, Q.rg1, Q.rg2, Q.oNone, Q.oSome, Q.tSlQ, Q.revD, Q.tOwnM, Q.appC, Q.popC, Q.extC, Q.ownL, Q.tRepL, Q.repC, Q.sSetIx, Q.ixOwn, Q.tLcQ, Q.noOwn, Q.rstQ, Q.wipeQ, Q.sDn, Q.sSetD, Q.tDgetN, Q.dOwn, Q.tTupRg, Q.sNever, Q.isB, Q.listD, Q.listC, Q.reprD, Q.Sl.isOwn, List.map_cons, List.map_nil, List.replicate_succ, List.replicate_zero, List.cons_append, List.nil_append, List.append_nil, List.getElem?_cons_zero, List.getElem?_cons_succ, List.set_cons_zero, List.set_cons_succ, List.getD_cons_zero, List.getD_cons_succ, List.filterMap_cons, List.filterMap_nil, List.all_cons, List.all_nil, Bool.and_true, Bool.true_and, Bool.not_true, Bool.not_false, Bool.not_eq_true, Bool.false_eq_true, Bool.and_self, if_true, if_false, true_and, and_true, ↓reduceIte]
      cases e : p.1.contains k with
      | true => exact hk _ e (by simp only [Q.enOf, Q.tV, Q.tK, Q.t2, Q.t1, Q.tB, Q.cI, Q.cIp, Q.addI, Q.subI, Q.mulI, Q.fdivI, Q.modI, Q.powI, Q.ltI, Q.leI, Q.gtI, Q.geI, Q.negI, Q.vAnd, Q.vOr, Q.vNot, Q.qAnd, Q.qOr, Q.qNot, Q.qIf, Q.chI, Q.tTupQ, Q.dNil, Q.dCons, Q.tLstQ, Q.tFz, Q.tCA, Q.lenD, Q.tupD, Q.isD, Q.isInt, Q.isBool, Q.isTup, Q.isStr, Q.isLst, Q.tLenN, Q.tIxN, Q.setQ, Q.aNil, Q.aD, Q.aK, Q.tCallQ, Q.tCallKQ, Q.pick, Q.sNil, Q.sSeq, Q.sRet, Q.sRetN, Q.sExpr, Q.sIf, Q.sSet, Q.sSetL, Q.sAsg, Q.sFor, Q.sPar2, Q.sPar3, Q.pNil, Q.pD, Q.pO, Q.pDn, Q.gN, Q.gT, Q.gsNil, Q.gsCons, Q.iQ, Q.itD, Q.iEn, Q.itE, Q.rg1, Q.rg2, Q.oNone, Q.oSome, Q.tSlQ, Q.revD, Q.tOwnM, Q.appC, Q.popC, Q.extC, Q.ownL, Q.tRepL, Q.repC, Q.sSetIx, Q.ixOwn, Q.tLcQ, Q.noOwn, Q.rstQ, Q.wipeQ, Q.sDn, Q.sSetD, Q.tDgetN, Q.dOwn, Q.tTupRg, Q.sNever, Q.isB, Q.listD, Q.listC, Q.reprD, Q.Sl.isOwn, List.map_cons, List.map_nil, List.replicate_succ, List.replicate_zero, List.cons_append, List.nil_append, List.append_nil, List.getElem?_cons_zero, List.getElem?_cons_succ, List.set_cons_zero, List.set_cons_succ, List.getD_cons_zero, List.getD_cons_succ, List.filterMap_cons, List.filterMap_nil, List.all_cons, List.all_nil, Bool.and_true, Bool.true_and, Bool.not_true, Bool.not_false, Bool.not_eq_true, Bool.false_eq_true, Bool.and_self, if_true, if_false, true_and, and_true, ↓reduceIte])
      | false => exact hf _ e (by simp only [Q.enOf, Q.tV, Q.tK, Q.t2, Q.t1, Q.tB, Q.cI, Q.cIp, Q.addI, Q.subI, Q.mulI, Q.fdivI, Q.modI, Q.powI, Q.ltI, Q.leI, Q.gtI, Q.geI, Q.negI, Q.vAnd, Q.vOr, Q.vNot, Q.qAnd, Q.qOr, Q.qNot, Q.qIf, Q.chI, Q.tTupQ, Q.dNil, Q.dCons, Q.tLstQ, Q.tFz, Q.tCA, Q.lenD, Q.tupD, Q.isD, Q.isInt, Q.isBool, Q.isTup, Q.isStr, Q.isLst, Q.tLenN, Q.tIxN, Q.setQ, Q.aNil, Q.aD, Q.aK, Q.tCallQ, Q.tCallKQ, Q.pick, Q.sNil, Q.sSeq, Q.sRet, Q.sRetN, Q.sExpr, Q.sIf, Q.sSet, Q.sSetL, Q.sAsg, Q.sFor, Q.sPar2, Q.sPar3, Q.pNil, Q.pD, Q.pO, Q.pDn, Q.gN, Q.gT, Q.gsNil, Q.gsCons, Q.iQ, Q.itD, Q.iEn, Q.itE, Q.rg1, Q.rg2, Q.oNone, Q.oSome, Q.tSlQ, Q.revD, Q.tOwnM, Q.appC, Q.popC, Q.extC, Q.ownL, Q.tRepL, Q.repC, Q.sSetIx, Q.ixOwn, Q.tLcQ, Q.noOwn, Q.rstQ, Q.wipeQ, Q.sDn, Q.sSetD, Q.tDgetN, Q.dOwn, Q.tTupRg, Q.sNever, Q.isB, Q.listD, Q.listC, Q.reprD, Q.Sl.isOwn, List.map_cons, List.map_nil, List.replicate_succ, List.replicate_zero, List.cons_append, List.nil_append, List.append_nil, List.getElem?_cons_zero, List.getElem?_cons_succ, List.set_cons_zero, List.set_cons_succ, List.getD_cons_zero, List.getD_cons_succ, List.filterMap_cons, List.filterMap_nil, List.all_cons, List.all_nil, Bool.and_true, Bool.true_and, Bool.not_true, Bool.not_false, Bool.not_eq_true, Bool.false_eq_true, Bool.and_self, if_true, if_false, true_and, and_true, ↓reduceIte])
    · simp only [Q.enOf, Q.tV, Q.tK, Q.t2, Q.t1, Q.tB, Q.cI, Q.cIp, Q.addI, Q.subI, Q.mulI, Q.fdivI, Q.modI, Q.powI, Q.ltI, Q.leI, Q.gtI, Q.geI, Q.negI, Q.vAnd, Q.vOr, Q.vNot, Q.qAnd, Q.qOr, Q.qNot, Q.qIf, Q.chI, Q.tTupQ, Q.dNil, Q.dCons, Q.tLstQ, Q.tFz, Q.tCA, Q.lenD, Q.tupD, Q.isD, Q.isInt, Q.isBool, Q.isTup, Q.isStr, Q.isLst, Q.tLenN, Q.tIxN, Q.setQ, Q.aNil, Q.aD, Q.aK, Q.tCallQ, Q.tCallKQ, Q.pick, Q.sNil, Q.sSeq, Q.sRet, Q.sRetN, Q.sExpr, Q.sIf, Q.sSet, Q.sSetL, Q.sAsg, Q.sFor, Q.sPar2, Q.sPar3, Q.pNil, Q.pD, Q.pO, Q.pDn, Q.gN, Q.gT, Q.gsNil, Q.gsCons, Q.iQ, Q.itD, Q.iEn, Q.itE, Q.rg1, Q.rg2, Q.oNone, Q.oSome, Q.tSlQ, Q.revD, Q.tOwnM, Q.appC, Q.popC, Q.extC, Q.ownL, Q.tRepL, Q.repC, Q.sSetIx, Q.ixOwn, Q.tLcQ, Q.noOwn, Q.rstQ, Q.wipeQ, Q.sDn, Q.sSetD, Q.tDgetN, Q.dOwn, Q.tTupRg, Q.sNever, Q.isB, Q.listD, Q.listC, Q.reprD, Q.Sl.isOwn, List.map_cons, List.map_nil, List.replicate_succ, List.replicate_zero, List.cons_append, List.nil_append, List.append_nil, List.getElem?_cons_zero, List.getElem?_cons_succ, List.set_cons_zero, List.set_cons_succ, List.getD_cons_zero, List.getD_cons_succ, List.filterMap_cons, List.filterMap_nil, List.all_cons, List.all_nil, Bool.and_true, Bool.true_and, Bool.not_true, Bool.not_false, Bool.not_eq_true, Bool.false_eq_true, Bool.and_self, if_true, if_false, true_and, and_true, ↓reduceIte, enum_filter, eqD, sh_int, eqv_int]
      unfold heapOf at step hf
      by_cases e1 : p.2 = 1
      · rw [if_pos e1] at step hf
        simp only [e1, decide_true, Q.enOf, Q.tV, Q.tK, Q.t2, Q.t1, Q.tB, Q.cI, Q.cIp, Q.addI, Q.subI, Q.mulI, Q.fdivI, Q.modI, Q.powI, Q.ltI, Q.leI, Q.gtI, Q.geI, Q.negI, Q.vAnd, Q.vOr, Q.vNot, Q.qAnd, Q.qOr, Q.qNot, Q.qIf, Q.chI, Q.tTupQ, Q.dNil, Q.dCons, Q.tLstQ, Q.tFz, Q.tCA, Q.lenD, Q.tupD, Q.isD, Q.isInt, Q.isBool, Q.isTup, Q.isStr, Q.isLst, Q.tLenN, Q.tIxN, Q.setQ, Q.aNil, Q.aD, Q.aK, Q.tCallQ, Q.tCallKQ, Q.pick, Q.sNil, Q.sSeq, Q.sRet, Q.sRetN, Q.sExpr, Q.sIf, Q.sSet, Q.sSetL, Q.sAsg, Q.sFor, Q.sPar2, Q.sPar3, Q.pNil, Q.pD, Q.pO, Q.pDn, Q.gN, Q.gT, Q.gsNil, Q.gsCons, Q.iQ, Q.itD, Q.iEn, Q.itE, Q.rg1, Q.rg2, Q.oNone, Q.oSome, Q.tSlQ, Q.revD, Q.tOwnM, Q.appC, Q.popC, Q.extC, Q.ownL, Q.tRepL, Q.repC, Q.sSetIx, Q.ixOwn, Q.tLcQ, Q.noOwn, Q.rstQ, Q.wipeQ, Q.sDn, Q.sSetD, Q.tDgetN, Q.dOwn, Q.tTupRg, Q.sNever, Q.isB, Q.listD, Q.listC, Q.reprD, Q.Sl.isOwn, List.map_cons, List.map_nil, List.replicate_succ, List.replicate_zero, List.cons_append, List.nil_append, List.append_nil, List.getElem?_cons_zero, List.getElem?_cons_succ, List.set_cons_zero, List.set_cons_succ, List.getD_cons_zero, List.getD_cons_succ, List.filterMap_cons, List.filterMap_nil, List.all_cons, List.all_nil, Bool.and_true, Bool.true_and, Bool.not_true, Bool.not_false, Bool.not_eq_true, Bool.false_eq_true, Bool.and_self, if_true, if_false, true_and, and_true, ↓reduceIte, List.length_map]
        rw [e1] at step
        exact ⟨by omega, step⟩
      · rw [if_neg e1] at step hf
        have e2 : decide (p.2 = 1) = false := by simp [e1]
        simp only [e2, Q.enOf, Q.tV, Q.tK, Q.t2, Q.t1, Q.tB, Q.cI, Q.cIp, Q.addI, Q.subI, Q.mulI, Q.fdivI, Q.modI, Q.powI, Q.ltI, Q.leI, Q.gtI, Q.geI, Q.negI, Q.vAnd, Q.vOr, Q.vNot, Q.qAnd, Q.qOr, Q.qNot, Q.qIf, Q.chI, Q.tTupQ, Q.dNil, Q.dCons, Q.tLstQ, Q.tFz, Q.tCA, Q.lenD, Q.tupD, Q.isD, Q.isInt, Q.isBool, Q.isTup, Q.isStr, Q.isLst, Q.tLenN, Q.tIxN, Q.setQ, Q.aNil, Q.aD, Q.aK, Q.tCallQ, Q.tCallKQ, Q.pick, Q.sNil, Q.sSeq, Q.sRet, Q.sRetN, Q.sExpr, Q.sIf, Q.sSet, Q.sSetL, Q.sAsg, Q.sFor, Q.sPar2, Q.sPar3, Q.pNil, Q.pD, Q.pO, Q.pDn, Q.gN, Q.gT, Q.gsNil, Q.gsCons, Q.iQ, Q.itD, Q.iEn, Q.itE, Q.rg1, Q.rg2, Q.oNone, Q.oSome, Q.tSlQ, Q.revD, Q.tOwnM, Q.appC, Q.popC, Q.extC, Q.ownL, Q.tRepL, Q.repC, Q.sSetIx, Q.ixOwn, Q.tLcQ, Q.noOwn, Q.rstQ, Q.wipeQ, Q.sDn, Q.sSetD, Q.tDgetN, Q.dOwn, Q.tTupRg, Q.sNever, Q.isB, Q.listD, Q.listC, Q.reprD, Q.Sl.isOwn, List.map_cons, List.map_nil, List.replicate_succ, List.replicate_zero, List.cons_append, List.nil_append, List.append_nil, List.getElem?_cons_zero, List.getElem?_cons_succ, List.set_cons_zero, List.set_cons_succ, List.getD_cons_zero, List.getD_cons_succ, List.filterMap_cons, List.filterMap_nil, List.all_cons, List.all_nil, Bool.and_true, Bool.true_and, Bool.not_true, Bool.not_false, Bool.not_eq_true, Bool.false_eq_true, Bool.and_self, if_true, if_false, true_and, and_true, ↓reduceIte, List.length_map, List.length_reverse]
        rw [List.map_reverse] at step
        rw [List.length_reverse] at hf
        exact ⟨by omega, step⟩
def sp_raw_order : PSpec := fun as R => ∃ (th : Thr) (deck : List Int), as = [.d (thrD th), .d (tupI deck)] ∧ th.length ≤ 8 ∧ deck.length ≤ 60 ∧ R (tupI (rawOrder th deck))
theorem len_raw_order : ∀ as R, sp_raw_order as R → as.length = 2 := by rintro as R ⟨n, i, rfl, _⟩; rfl
theorem rd_raw_order : ∀ as R, sp_raw_order as R → t_raw_order { nx := fun _ => R .none, rt := R } (enOf as 6) := by
  rintro as R ⟨th, deck, rfl, h1, h2, h⟩
  simp only [t_raw_order, thrD, Q.enOf, Q.tV, Q.tK, Q.t2, Q.t1, Q.tB, Q.cI, Q.cIp, Q.addI, Q.subI, Q.mulI, Q.fdivI, Q.modI, Q.powI, Q.ltI, Q.leI, Q.gtI, Q.geI, Q.negI, Q.vAnd, Q.vOr, Q.vNot, Q.qAnd, Q.qOr, Q.qNot, Q.qIf, Q.chI, Q.tTupQ, Q.dNil, Q.dCons, Q.tLstQ, Q.tFz, Q.tCA, Q.lenD, Q.tupD, Q.isD, Q.isInt, Q.isBool, Q.isTup, Q.isStr, Q.isLst, Q.tLenN, Q.tIxN, Q.setQ, Q.aNil, Q.aD, Q.aK, Q.tCallQ, Q.tCallKQ, Q.pick, Q.sNil, Q.sSeq, Q.sRet, Q.sRetN, Q.sExpr, Q.sIf, Q.sSet, Q.sSetL, Q.sAsg, Q.sFor, Q.sPar2, Q.sPar3, Q.pNil, Q.pD, Q.pO, Q.pDn, Q.gN, Q.gT, Q.gsNil, Q.gsCons, Q.iQ, Q.itD, Q.iEn, Q.itE, Q.rg1, Q.rg2, Q.oNone, Q.oSome, Q.tSlQ, Q.revD, Q.tOwnM, Q.appC, Q.popC, Q.extC, Q.ownL, Q.tRepL, Q.repC, Q.sSetIx, Q.ixOwn, Q.tLcQ, Q.noOwn, Q.rstQ, Q.wipeQ, Q.sDn, Q.sSetD, Q.tDgetN, Q.dOwn, Q.tTupRg, Q.sNever, Q.isB, Q.listD, Q.listC, Q.reprD, Q.Sl.isOwn, List.map_cons, List.map_nil, List.replicate_succ, List.replicate_zero, List.cons_append, List.nil_append, List.append_nil, List.getElem?_cons_zero, List.getElem?_cons_succ, List.set_cons_zero, List.set_cons_succ, List.getD_cons_zero, List.getD_cons_succ, List.filterMap_cons, List.filterMap_nil, List.all_cons, List.all_nil, Bool.and_true, Bool.true_and, Bool.not_true, Bool.not_false, Bool.not_eq_true, Bool.false_eq_true, Bool.and_self, if_true, if_false, true_and, and_true, ↓reduceIte, List.length_nil]
  refine ⟨by decide, ?_⟩
  refine loop_raw _ (.d (.tuple (th.map lotD))) deck h2 th [] .un .un .un (by simp; omega) fun s3 s4 s5 => ?_
  simp only [List.nil_append, Q.enOf, Q.tV, Q.tK, Q.t2, Q.t1, Q.tB, Q.cI, Q.cIp, Q.addI, Q.subI, Q.mulI, Q.fdivI, Q.modI, Q.powI, Q.ltI, Q.leI, Q.gtI, Q.geI, Q.negI, Q.vAnd, Q.vOr, Q.vNot, Q.qAnd, Q.qOr, Q.qNot, Q.qIf, Q.chI, Q.tTupQ, Q.dNil, Q.dCons, Q.tLstQ, Q.tFz, Q.tCA, Q.lenD, Q.tupD, Q.isD, Q.isInt, Q.isBool, Q.isTup, Q.isStr, Q.isLst, Q.tLenN, Q.tIxN, Q.setQ, Q.aNil, Q.aD, Q.aK, Q.tCallQ, Q.tCallKQ, Q.pick, Q.sNil, Q.sSeq, Q.sRet, Q.sRetN, Q.sExpr, Q.sIf, Q.sSet, Q.sSetL, Q.sAsg, Q.sFor, Q.sPar2, Q.sPar3, Q.pNil, Q.pD, Q.pO, Q.pDn, Q.gN, Q.gT, Q.gsNil, Q.gsCons, Q.iQ, Q.itD, Q.iEn, Q.itE, Q.rg1, Q.rg2, Q.oNone, Q.oSome, Q.tSlQ, Q.revD, Q.tOwnM, Q.appC, Q.popC, Q.extC, Q.ownL, Q.tRepL, Q.repC, Q.sSetIx, Q.ixOwn, Q.tLcQ, Q.noOwn, Q.rstQ, Q.wipeQ, Q.sDn, Q.sSetD, Q.tDgetN, Q.dOwn, Q.tTupRg, Q.sNever, Q.isB, Q.listD, Q.listC, Q.reprD, Q.Sl.isOwn, List.map_cons, List.map_nil, List.replicate_succ, List.replicate_zero, List.cons_append, List.nil_append, List.append_nil, List.getElem?_cons_zero, List.getElem?_cons_succ, List.set_cons_zero, List.set_cons_succ, List.getD_cons_zero, List.getD_cons_succ, List.filterMap_cons, List.filterMap_nil, List.all_cons, List.all_nil, Bool.and_true, Bool.true_and, Bool.not_true, Bool.not_false, Bool.not_eq_true, Bool.false_eq_true, Bool.and_self, if_true, if_false, true_and, and_true, ↓reduceIte]
  exact h
theorem ThrowOk.small {th : Thr} (h : ThrowOk th) : th.length ≤ 8 := by
  have : ∀ t : Thr, (∀ p, p ∈ t → p.1 ≠ []) → t.length ≤ (kinds t).length := by
    intro t
    induction t with
    | nil => intro; simp
    | cons p t ih =>
      intro hp
      have e : kinds (p :: t) = p.1 ++ kinds t := by simp [kinds]
      have := ih fun q hq => hp q (by simp [hq])
      have := List.length_pos_iff.mpr (hp p (by simp))
      rw [e, List.length_append, List.length_cons]
      omega
  exact Nat.le_trans (this th fun p hp => (h.lots p hp).ne) h.few
def sp_order_after : PSpec := fun as R => ∃ (th : Thr) (deck : List Int), as = [.d (thrD th), .d (tupI deck)] ∧ ThrowOk th ∧ DeckOk (kinds th).length deck ∧ R (tupI (rawOrder th deck))
theorem len_order_after : ∀ as R, sp_order_after as R → as.length = 2 := by rintro as R ⟨n, i, rfl, _⟩; rfl
theorem rd_order_after : ∀ as R, sp_order_after as R → t_order_after sp_need_throw sp_need_deck sp_raw_size sp_raw_order { nx := fun _ => R .none, rt := R } (enOf as 0) := by
  rintro as R ⟨th, deck, rfl, h1, h2, h⟩
  simp only [t_order_after, Q.enOf, Q.tV, Q.tK, Q.t2, Q.t1, Q.tB, Q.cI, Q.cIp, Q.addI, Q.subI, Q.mulI, Q.fdivI, Q.modI, Q.powI, Q.ltI, Q.leI, Q.gtI, Q.geI, Q.negI, Q.vAnd, Q.vOr, Q.vNot, Q.qAnd, Q.qOr, Q.qNot, Q.qIf, Q.chI, Q.tTupQ, Q.dNil, Q.dCons, Q.tLstQ, Q.tFz, Q.tCA, Q.lenD, Q.tupD, Q.isD, Q.isInt, Q.isBool, Q.isTup, Q.isStr, Q.isLst, Q.tLenN, Q.tIxN, Q.setQ, Q.aNil, Q.aD, Q.aK, Q.tCallQ, Q.tCallKQ, Q.pick, Q.sNil, Q.sSeq, Q.sRet, Q.sRetN, Q.sExpr, Q.sIf, Q.sSet, Q.sSetL, Q.sAsg, Q.sFor, Q.sPar2, Q.sPar3, Q.pNil, Q.pD, Q.pO, Q.pDn, Q.gN, Q.gT, Q.gsNil, Q.gsCons, Q.iQ, Q.itD, Q.iEn, Q.itE, Q.rg1, Q.rg2, Q.oNone, Q.oSome, Q.tSlQ, Q.revD, Q.tOwnM, Q.appC, Q.popC, Q.extC, Q.ownL, Q.tRepL, Q.repC, Q.sSetIx, Q.ixOwn, Q.tLcQ, Q.noOwn, Q.rstQ, Q.wipeQ, Q.sDn, Q.sSetD, Q.tDgetN, Q.dOwn, Q.tTupRg, Q.sNever, Q.isB, Q.listD, Q.listC, Q.reprD, Q.Sl.isOwn, List.map_cons, List.map_nil, List.replicate_succ, List.replicate_zero, List.cons_append, List.nil_append, List.append_nil, List.getElem?_cons_zero, List.getElem?_cons_succ, List.set_cons_zero, List.set_cons_succ, List.getD_cons_zero, List.getD_cons_succ, List.filterMap_cons, List.filterMap_nil, List.all_cons, List.all_nil, Bool.and_true, Bool.true_and, Bool.not_true, Bool.not_false, Bool.not_eq_true, Bool.false_eq_true, Bool.and_self, if_true, if_false, true_and, and_true, ↓reduceIte]
  refine ⟨th, rfl, h1, ?_⟩
  simp only [Q.enOf, Q.tV, Q.tK, Q.t2, Q.t1, Q.tB, Q.cI, Q.cIp, Q.addI, Q.subI, Q.mulI, Q.fdivI, Q.modI, Q.powI, Q.ltI, Q.leI, Q.gtI, Q.geI, Q.negI, Q.vAnd, Q.vOr, Q.vNot, Q.qAnd, Q.qOr, Q.qNot, Q.qIf, Q.chI, Q.tTupQ, Q.dNil, Q.dCons, Q.tLstQ, Q.tFz, Q.tCA, Q.lenD, Q.tupD, Q.isD, Q.isInt, Q.isBool, Q.isTup, Q.isStr, Q.isLst, Q.tLenN, Q.tIxN, Q.setQ, Q.aNil, Q.aD, Q.aK, Q.tCallQ, Q.tCallKQ, Q.pick, Q.sNil, Q.sSeq, Q.sRet, Q.sRetN, Q.sExpr, Q.sIf, Q.sSet, Q.sSetL, Q.sAsg, Q.sFor, Q.sPar2, Q.sPar3, Q.pNil, Q.pD, Q.pO, Q.pDn, Q.gN, Q.gT, Q.gsNil, Q.gsCons, Q.iQ, Q.itD, Q.iEn, Q.itE, Q.rg1, Q.rg2, Q.oNone, Q.oSome, Q.tSlQ, Q.revD, Q.tOwnM, Q.appC, Q.popC, Q.extC, Q.ownL, Q.tRepL, Q.repC, Q.sSetIx, Q.ixOwn, Q.tLcQ, Q.noOwn, Q.rstQ, Q.wipeQ, Q.sDn, Q.sSetD, Q.tDgetN, Q.dOwn, Q.tTupRg, Q.sNever, Q.isB, Q.listD, Q.listC, Q.reprD, Q.Sl.isOwn, List.map_cons, List.map_nil, List.replicate_succ, List.replicate_zero, List.cons_append, List.nil_append, List.append_nil, List.getElem?_cons_zero, List.getElem?_cons_succ, List.set_cons_zero, List.set_cons_succ, List.getD_cons_zero, List.getD_cons_succ, List.filterMap_cons, List.filterMap_nil, List.all_cons, List.all_nil, Bool.and_true, Bool.true_and, Bool.not_true, Bool.not_false, Bool.not_eq_true, Bool.false_eq_true, Bool.and_self, if_true, if_false, true_and, and_true, ↓reduceIte]
  refine ⟨th, rfl, ?_⟩
  simp only [Q.enOf, Q.tV, Q.tK, Q.t2, Q.t1, Q.tB, Q.cI, Q.cIp, Q.addI, Q.subI, Q.mulI, Q.fdivI, Q.modI, Q.powI, Q.ltI, Q.leI, Q.gtI, Q.geI, Q.negI, Q.vAnd, Q.vOr, Q.vNot, Q.qAnd, Q.qOr, Q.qNot, Q.qIf, Q.chI, Q.tTupQ, Q.dNil, Q.dCons, Q.tLstQ, Q.tFz, Q.tCA, Q.lenD, Q.tupD, Q.isD, Q.isInt, Q.isBool, Q.isTup, Q.isStr, Q.isLst, Q.tLenN, Q.tIxN, Q.setQ, Q.aNil, Q.aD, Q.aK, Q.tCallQ, Q.tCallKQ, Q.pick, Q.sNil, Q.sSeq, Q.sRet, Q.sRetN, Q.sExpr, Q.sIf, Q.sSet, Q.sSetL, Q.sAsg, Q.sFor, Q.sPar2, Q.sPar3, Q.pNil, Q.pD, Q.pO, Q.pDn, Q.gN, Q.gT, Q.gsNil, Q.gsCons, Q.iQ, Q.itD, Q.iEn, Q.itE, Q.rg1, Q.rg2, Q.oNone, Q.oSome, Q.tSlQ, Q.revD, Q.tOwnM, Q.appC, Q.popC, Q.extC, Q.ownL, Q.tRepL, Q.repC, Q.sSetIx, Q.ixOwn, Q.tLcQ, Q.noOwn, Q.rstQ, Q.wipeQ, Q.sDn, Q.sSetD, Q.tDgetN, Q.dOwn, Q.tTupRg, Q.sNever, Q.isB, Q.listD, Q.listC, Q.reprD, Q.Sl.isOwn, List.map_cons, List.map_nil, List.replicate_succ, List.replicate_zero, List.cons_append, List.nil_append, List.append_nil, List.getElem?_cons_zero, List.getElem?_cons_succ, List.set_cons_zero, List.set_cons_succ, List.getD_cons_zero, List.getD_cons_succ, List.filterMap_cons, List.filterMap_nil, List.all_cons, List.all_nil, Bool.and_true, Bool.true_and, Bool.not_true, Bool.not_false, Bool.not_eq_true, Bool.false_eq_true, Bool.and_self, if_true, if_false, true_and, and_true, ↓reduceIte]
  refine ⟨(kinds th).length, deck, rfl, h2, ?_⟩
  simp only [Q.enOf, Q.tV, Q.tK, Q.t2, Q.t1, Q.tB, Q.cI, Q.cIp, Q.addI, Q.subI, Q.mulI, Q.fdivI, Q.modI, Q.powI, Q.ltI, Q.leI, Q.gtI, Q.geI, Q.negI, Q.vAnd, Q.vOr, Q.vNot, Q.qAnd, Q.qOr, Q.qNot, Q.qIf, Q.chI, Q.tTupQ, Q.dNil, Q.dCons, Q.tLstQ, Q.tFz, Q.tCA, Q.lenD, Q.tupD, Q.isD, Q.isInt, Q.isBool, Q.isTup, Q.isStr, Q.isLst, Q.tLenN, Q.tIxN, Q.setQ, Q.aNil, Q.aD, Q.aK, Q.tCallQ, Q.tCallKQ, Q.pick, Q.sNil, Q.sSeq, Q.sRet, Q.sRetN, Q.sExpr, Q.sIf, Q.sSet, Q.sSetL, Q.sAsg, Q.sFor, Q.sPar2, Q.sPar3, Q.pNil, Q.pD, Q.pO, Q.pDn, Q.gN, Q.gT, Q.gsNil, Q.gsCons, Q.iQ, Q.itD, Q.iEn, Q.itE, Q.rg1, Q.rg2, Q.oNone, Q.oSome, Q.tSlQ, Q.revD, Q.tOwnM, Q.appC, Q.popC, Q.extC, Q.ownL, Q.tRepL, Q.repC, Q.sSetIx, Q.ixOwn, Q.tLcQ, Q.noOwn, Q.rstQ, Q.wipeQ, Q.sDn, Q.sSetD, Q.tDgetN, Q.dOwn, Q.tTupRg, Q.sNever, Q.isB, Q.listD, Q.listC, Q.reprD, Q.Sl.isOwn, List.map_cons, List.map_nil, List.replicate_succ, List.replicate_zero, List.cons_append, List.nil_append, List.append_nil, List.getElem?_cons_zero, List.getElem?_cons_succ, List.set_cons_zero, List.set_cons_succ, List.getD_cons_zero, List.getD_cons_succ, List.filterMap_cons, List.filterMap_nil, List.all_cons, List.all_nil, Bool.and_true, Bool.true_and, Bool.not_true, Bool.not_false, Bool.not_eq_true, Bool.false_eq_true, Bool.and_self, if_true, if_false, true_and, and_true, ↓reduceIte]
  exact ⟨th, deck, rfl, h1.small, h2.few, h⟩
theorem deck_lt {n : Nat} {deck : List Int} (h : DeckOk n deck) : ∀ k, k ∈ deck → 0 ≤ k ∧ k < n := fun k hk => by have := h.bd k hk; omega
def sp_deck_after : PSpec := fun as R => ∃ (th : Thr) (deck : List Int), as = [.d (thrD th), .d (tupI deck)] ∧ ThrowOk th ∧ DeckOk (kinds th).length deck ∧ R (tupI (laidL deck (rawOrder th deck)))
theorem len_deck_after : ∀ as R, sp_deck_after as R → as.length = 2 := by rintro as R ⟨n, i, rfl, _⟩; rfl
theorem rd_deck_after : ∀ as R, sp_deck_after as R → t_deck_after sp_need_throw sp_need_deck sp_raw_size sp_raw_laid sp_raw_order { nx := fun _ => R .none, rt := R } (enOf as 0) := by
  rintro as R ⟨th, deck, rfl, h1, h2, h⟩
  simp only [t_deck_after, Q.enOf, Q.tV, Q.tK, Q.t2, Q.t1, Q.tB, Q.cI, Q.cIp, Q.addI, Q.subI, Q.mulI, Q.fdivI, Q.modI, Q.powI, Q.ltI, Q.leI, Q.gtI, Q.geI, Q.negI, Q.vAnd, Q.vOr, Q.vNot, Q.qAnd, Q.qOr, Q.qNot, Q.qIf, Q.chI, Q.tTupQ, Q.dNil, Q.dCons, Q.tLstQ, Q.tFz, Q.tCA, Q.lenD, Q.tupD, Q.isD, Q.isInt, Q.isBool, Q.isTup, Q.isStr, Q.isLst, Q.tLenN, Q.tIxN, Q.setQ, Q.aNil, Q.aD, Q.aK, Q.tCallQ, Q.tCallKQ, Q.pick, Q.sNil, Q.sSeq, Q.sRet, Q.sRetN, Q.sExpr, Q.sIf, Q.sSet, Q.sSetL, Q.sAsg, Q.sFor, Q.sPar2, Q.sPar3, Q.pNil, Q.pD, Q.pO, Q.pDn, Q.gN, Q.gT, Q.gsNil, Q.gsCons, Q.iQ, Q.itD, Q.iEn, Q.itE, Q.rg1, Q.rg2, Q.oNone, Q.oSome, Q.tSlQ, Q.revD, Q.tOwnM, Q.appC, Q.popC, Q.extC, Q.ownL, Q.tRepL, Q.repC, Q.sSetIx, Q.ixOwn, Q.tLcQ, Q.noOwn, Q.rstQ, Q.wipeQ, Q.sDn, Q.sSetD, Q.tDgetN, Q.dOwn, Q.tTupRg, Q.sNever, Q.isB, Q.listD, Q.listC, Q.reprD, Q.Sl.isOwn, List.map_cons, List.map_nil, List.replicate_succ, List.replicate_zero, List.cons_append, List.nil_append, List.append_nil, List.getElem?_cons_zero, List.getElem?_cons_succ, List.set_cons_zero, List.set_cons_succ, List.getD_cons_zero, List.getD_cons_succ, List.filterMap_cons, List.filterMap_nil, List.all_cons, List.all_nil, Bool.and_true, Bool.true_and, Bool.not_true, Bool.not_false, Bool.not_eq_true, Bool.false_eq_true, Bool.and_self, if_true, if_false, true_and, and_true, ↓reduceIte]
  refine ⟨th, rfl, h1, ?_⟩
  simp only [Q.enOf, Q.tV, Q.tK, Q.t2, Q.t1, Q.tB, Q.cI, Q.cIp, Q.addI, Q.subI, Q.mulI, Q.fdivI, Q.modI, Q.powI, Q.ltI, Q.leI, Q.gtI, Q.geI, Q.negI, Q.vAnd, Q.vOr, Q.vNot, Q.qAnd, Q.qOr, Q.qNot, Q.qIf, Q.chI, Q.tTupQ, Q.dNil, Q.dCons, Q.tLstQ, Q.tFz, Q.tCA, Q.lenD, Q.tupD, Q.isD, Q.isInt, Q.isBool, Q.isTup, Q.isStr, Q.isLst, Q.tLenN, Q.tIxN, Q.setQ, Q.aNil, Q.aD, Q.aK, Q.tCallQ, Q.tCallKQ, Q.pick, Q.sNil, Q.sSeq, Q.sRet, Q.sRetN, Q.sExpr, Q.sIf, Q.sSet, Q.sSetL, Q.sAsg, Q.sFor, Q.sPar2, Q.sPar3, Q.pNil, Q.pD, Q.pO, Q.pDn, Q.gN, Q.gT, Q.gsNil, Q.gsCons, Q.iQ, Q.itD, Q.iEn, Q.itE, Q.rg1, Q.rg2, Q.oNone, Q.oSome, Q.tSlQ, Q.revD, Q.tOwnM, Q.appC, Q.popC, Q.extC, Q.ownL, Q.tRepL, Q.repC, Q.sSetIx, Q.ixOwn, Q.tLcQ, Q.noOwn, Q.rstQ, Q.wipeQ, Q.sDn, Q.sSetD, Q.tDgetN, Q.dOwn, Q.tTupRg, Q.sNever, Q.isB, Q.listD, Q.listC, Q.reprD, Q.Sl.isOwn, List.map_cons, List.map_nil, List.replicate_succ, List.replicate_zero, List.cons_append, List.nil_append, List.append_nil, List.getElem?_cons_zero, List.getElem?_cons_succ, List.set_cons_zero, List.set_cons_succ, List.getD_cons_zero, List.getD_cons_succ, List.filterMap_cons, List.filterMap_nil, List.all_cons, List.all_nil, Bool.and_true, Bool.true_and, Bool.not_true, Bool.not_false, Bool.not_eq_true, Bool.false_eq_true, Bool.and_self, if_true, if_false, true_and, and_true, ↓reduceIte]
  refine ⟨th, rfl, ?_⟩
  simp only [Q.enOf, Q.tV, Q.tK, Q.t2, Q.t1, Q.tB, Q.cI, Q.cIp, Q.addI, Q.subI, Q.mulI, Q.fdivI, Q.modI, Q.powI, Q.ltI, Q.leI, Q.gtI, Q.geI, Q.negI, Q.vAnd, Q.vOr, Q.vNot, Q.qAnd, Q.qOr, Q.qNot, Q.qIf, Q.chI, Q.tTupQ, Q.dNil, Q.dCons, Q.tLstQ, Q.tFz, Q.tCA, Q.lenD, Q.tupD, Q.isD, Q.isInt, Q.isBool, Q.isTup, Q.isStr, Q.isLst, Q.tLenN, Q.tIxN, Q.setQ, Q.aNil, Q.aD, Q.aK, Q.tCallQ, Q.tCallKQ, Q.pick, Q.sNil, Q.sSeq, Q.sRet, Q.sRetN, Q.sExpr, Q.sIf, Q.sSet, Q.sSetL, Q.sAsg, Q.sFor, Q.sPar2, Q.sPar3, Q.pNil, Q.pD, Q.pO, Q.pDn, Q.gN, Q.gT, Q.gsNil, Q.gsCons, Q.iQ, Q.itD, Q.iEn, Q.itE, Q.rg1, Q.rg2, Q.oNone, Q.oSome, Q.tSlQ, Q.revD, Q.tOwnM, Q.appC, Q.popC, Q.extC, Q.ownL, Q.tRepL, Q.repC, Q.sSetIx, Q.ixOwn, Q.tLcQ, Q.noOwn, Q.rstQ, Q.wipeQ, Q.sDn, Q.sSetD, Q.tDgetN, Q.dOwn, Q.tTupRg, Q.sNever, Q.isB, Q.listD, Q.listC, Q.reprD, Q.Sl.isOwn, List.map_cons, List.map_nil, List.replicate_succ, List.replicate_zero, List.cons_append, List.nil_append, List.append_nil, List.getElem?_cons_zero, List.getElem?_cons_succ, List.set_cons_zero, List.set_cons_succ, List.getD_cons_zero, List.getD_cons_succ, List.filterMap_cons, List.filterMap_nil, List.all_cons, List.all_nil, Bool.and_true, Bool.true_and, Bool.not_true, Bool.not_false, Bool.not_eq_true, Bool.false_eq_true, Bool.and_self, if_true, if_false, true_and, and_true, ↓reduceIte]
  refine ⟨(kinds th).length, deck, rfl, h2, ?_⟩
  simp only [Q.enOf, Q.tV, Q.tK, Q.t2, Q.t1, Q.tB, Q.cI, Q.cIp, Q.addI, Q.subI, Q.mulI, Q.fdivI, Q.modI, Q.powI, Q.ltI, Q.leI, Q.gtI, Q.geI, Q.negI, Q.vAnd, Q.vOr, Q.vNot, Q.qAnd, Q.qOr, Q.qNot, Q.qIf, Q.chI, Q.tTupQ, Q.dNil, Q.dCons, Q.tLstQ, Q.tFz, Q.tCA, Q.lenD, Q.tupD, Q.isD, Q.isInt, Q.isBool, Q.isTup, Q.isStr, Q.isLst, Q.tLenN, Q.tIxN, Q.setQ, Q.aNil, Q.aD, Q.aK, Q.tCallQ, Q.tCallKQ, Q.pick, Q.sNil, Q.sSeq, Q.sRet, Q.sRetN, Q.sExpr, Q.sIf, Q.sSet, Q.sSetL, Q.sAsg, Q.sFor, Q.sPar2, Q.sPar3, Q.pNil, Q.pD, Q.pO, Q.pDn, Q.gN, Q.gT, Q.gsNil, Q.gsCons, Q.iQ, Q.itD, Q.iEn, Q.itE, Q.rg1, Q.rg2, Q.oNone, Q.oSome, Q.tSlQ, Q.revD, Q.tOwnM, Q.appC, Q.popC, Q.extC, Q.ownL, Q.tRepL, Q.repC, Q.sSetIx, Q.ixOwn, Q.tLcQ, Q.noOwn, Q.rstQ, Q.wipeQ, Q.sDn, Q.sSetD, Q.tDgetN, Q.dOwn, Q.tTupRg, Q.sNever, Q.isB, Q.listD, Q.listC, Q.reprD, Q.Sl.isOwn, List.map_cons, List.map_nil, List.replicate_succ, List.replicate_zero, List.cons_append, List.nil_append, List.append_nil, List.getElem?_cons_zero, List.getElem?_cons_succ, List.set_cons_zero, List.set_cons_succ, List.getD_cons_zero, List.getD_cons_succ, List.filterMap_cons, List.filterMap_nil, List.all_cons, List.all_nil, Bool.and_true, Bool.true_and, Bool.not_true, Bool.not_false, Bool.not_eq_true, Bool.false_eq_true, Bool.and_self, if_true, if_false, true_and, and_true, ↓reduceIte]
  refine ⟨th, deck, rfl, h1.small, h2.few, ?_⟩
  simp only [Q.enOf, Q.tV, Q.tK, Q.t2, Q.t1, Q.tB, Q.cI, Q.cIp, Q.addI, Q.subI, Q.mulI, Q.fdivI, Q.modI, Q.powI, Q.ltI, Q.leI, Q.gtI, Q.geI, Q.negI, Q.vAnd, Q.vOr, Q.vNot, Q.qAnd, Q.qOr, Q.qNot, Q.qIf, Q.chI, Q.tTupQ, Q.dNil, Q.dCons, Q.tLstQ, Q.tFz, Q.tCA, Q.lenD, Q.tupD, Q.isD, Q.isInt, Q.isBool, Q.isTup, Q.isStr, Q.isLst, Q.tLenN, Q.tIxN, Q.setQ, Q.aNil, Q.aD, Q.aK, Q.tCallQ, Q.tCallKQ, Q.pick, Q.sNil, Q.sSeq, Q.sRet, Q.sRetN, Q.sExpr, Q.sIf, Q.sSet, Q.sSetL, Q.sAsg, Q.sFor, Q.sPar2, Q.sPar3, Q.pNil, Q.pD, Q.pO, Q.pDn, Q.gN, Q.gT, Q.gsNil, Q.gsCons, Q.iQ, Q.itD, Q.iEn, Q.itE, Q.rg1, Q.rg2, Q.oNone, Q.oSome, Q.tSlQ, Q.revD, Q.tOwnM, Q.appC, Q.popC, Q.extC, Q.ownL, Q.tRepL, Q.repC, Q.sSetIx, Q.ixOwn, Q.tLcQ, Q.noOwn, Q.rstQ, Q.wipeQ, Q.sDn, Q.sSetD, Q.tDgetN, Q.dOwn, Q.tTupRg, Q.sNever, Q.isB, Q.listD, Q.listC, Q.reprD, Q.Sl.isOwn, List.map_cons, List.map_nil, List.replicate_succ, List.replicate_zero, List.cons_append, List.nil_append, List.append_nil, List.getElem?_cons_zero, List.getElem?_cons_succ, List.set_cons_zero, List.set_cons_succ, List.getD_cons_zero, List.getD_cons_succ, List.filterMap_cons, List.filterMap_nil, List.all_cons, List.all_nil, Bool.and_true, Bool.true_and, Bool.not_true, Bool.not_false, Bool.not_eq_true, Bool.false_eq_true, Bool.and_self, if_true, if_false, true_and, and_true, ↓reduceIte]
  exact ⟨deck, _, rfl, fun c hc => (raw_ord h1 (deck_lt h2)).mem hc, h⟩
end T01
end P22
section P23
open PySem PySem.Spec PyProof.Rows L2 HT Q
namespace T01
/-! ### the law's draws -/
def sp__law_pick : PSpec := fun as R => ∃ xs : List Int, as = [.dk, .d (tupI xs)] ∧ xs ≠ [] ∧ xs.length ≤ 1000 ∧ ∀ x, x ∈ xs → R (.int x)
theorem len__law_pick : ∀ as R, sp__law_pick as R → as.length = 2 := by rintro as R ⟨n, rfl, _⟩; rfl
theorem rd__law_pick : ∀ as R, sp__law_pick as R → t__law_pick sDraw { nx := fun _ => R .none, rt := R } (enOf as 0) := by
  rintro as R ⟨xs, rfl, h1, h2, h⟩
  have h0 := List.length_pos_iff.mpr h1
  simp only [t__law_pick, tupI, Q.addF, Q.enOf, Q.tV, Q.tK, Q.t2, Q.t1, Q.tB, Q.cI, Q.cIp, Q.addI, Q.subI, Q.mulI, Q.fdivI, Q.modI, Q.powI, Q.ltI, Q.leI, Q.gtI, Q.geI, Q.negI, Q.vAnd, Q.vOr, Q.vNot, Q.qAnd, Q.qOr, Q.qNot, Q.qIf, Q.chI, Q.tTupQ, Q.dNil, Q.dCons, Q.tLstQ, Q.tFz, Q.tCA, Q.lenD, Q.tupD, Q.isD, Q.isInt, Q.isBool, Q.isTup, Q.isStr, Q.isLst, Q.tLenN, Q.tIxN, Q.setQ, Q.aNil, Q.aD, Q.aK, Q.tCallQ, Q.tCallKQ, Q.pick, Q.sNil, Q.sSeq, Q.sRet, Q.sRetN, Q.sExpr, Q.sIf, Q.sSet, Q.sSetL, Q.sAsg, Q.sFor, Q.sPar2, Q.sPar3, Q.pNil, Q.pD, Q.pO, Q.pDn, Q.gN, Q.gT, Q.gsNil, Q.gsCons, Q.iQ, Q.itD, Q.iEn, Q.itE, Q.rg1, Q.rg2, Q.oNone, Q.oSome, Q.tSlQ, Q.revD, Q.tOwnM, Q.appC, Q.popC, Q.extC, Q.ownL, Q.tRepL, Q.repC, Q.sSetIx, Q.ixOwn, Q.tLcQ, Q.noOwn, Q.rstQ, Q.wipeQ, Q.sDn, Q.sSetD, Q.tDgetN, Q.dOwn, Q.tTupRg, Q.sNever, Q.isB, Q.listD, Q.listC, Q.reprD, Q.Sl.isOwn, List.map_cons, List.map_nil, List.replicate_succ, List.replicate_zero, List.cons_append, List.nil_append, List.append_nil, List.getElem?_cons_zero, List.getElem?_cons_succ, List.set_cons_zero, List.set_cons_succ, List.getD_cons_zero, List.getD_cons_succ, List.filterMap_cons, List.filterMap_nil, List.all_cons, List.all_nil, Bool.and_true, Bool.true_and, Bool.not_true, Bool.not_false, Bool.not_eq_true, Bool.false_eq_true, Bool.and_self, if_true, if_false, true_and, and_true, ↓reduceIte, sDraw, List.length_map]
  refine ⟨by omega, by omega, fun r hr1 hr2 => ?_⟩
  simp only [ixD]
  refine ⟨_, at_int hr1 hr2, h _ ?_⟩
  have h3 : r.toNat < xs.length := by omega
  simp [List.getD_eq_getElem?_getD, h3]
def sp__law_cards : PSpec := fun as R => ∃ n m : Int, as = [.dk, .d (.int n), .d (.int m)] ∧ 1 ≤ n ∧ n ≤ 8 ∧ 0 ≤ m ∧ m ≤ 60 ∧ ∀ xs : List Int, DeckOk n xs → R (tupI xs)
theorem len__law_cards : ∀ as R, sp__law_cards as R → as.length = 3 := by rintro as R ⟨n, m, rfl, _⟩; rfl
theorem rd__law_cards : ∀ as R, sp__law_cards as R → t__law_cards sDraw { nx := fun _ => R .none, rt := R } (enOf as 4) := by
  rintro as R ⟨n, m, rfl, h1, h2, h3, h4, h⟩
  simp only [t__law_cards, Q.addF, Q.enOf, Q.tV, Q.tK, Q.t2, Q.t1, Q.tB, Q.cI, Q.cIp, Q.addI, Q.subI, Q.mulI, Q.fdivI, Q.modI, Q.powI, Q.ltI, Q.leI, Q.gtI, Q.geI, Q.negI, Q.vAnd, Q.vOr, Q.vNot, Q.qAnd, Q.qOr, Q.qNot, Q.qIf, Q.chI, Q.tTupQ, Q.dNil, Q.dCons, Q.tLstQ, Q.tFz, Q.tCA, Q.lenD, Q.tupD, Q.isD, Q.isInt, Q.isBool, Q.isTup, Q.isStr, Q.isLst, Q.tLenN, Q.tIxN, Q.setQ, Q.aNil, Q.aD, Q.aK, Q.tCallQ, Q.tCallKQ, Q.pick, Q.sNil, Q.sSeq, Q.sRet, Q.sRetN, Q.sExpr, Q.sIf, Q.sSet, Q.sSetL, Q.sAsg, Q.sFor, Q.sPar2, Q.sPar3, Q.pNil, Q.pD, Q.pO, Q.pDn, Q.gN, Q.gT, Q.gsNil, Q.gsCons, Q.iQ, Q.itD, Q.iEn, Q.itE, Q.rg1, Q.rg2, Q.oNone, Q.oSome, Q.tSlQ, Q.revD, Q.tOwnM, Q.appC, Q.popC, Q.extC, Q.ownL, Q.tRepL, Q.repC, Q.sSetIx, Q.ixOwn, Q.tLcQ, Q.noOwn, Q.rstQ, Q.wipeQ, Q.sDn, Q.sSetD, Q.tDgetN, Q.dOwn, Q.tTupRg, Q.sNever, Q.isB, Q.listD, Q.listC, Q.reprD, Q.Sl.isOwn, List.map_cons, List.map_nil, List.replicate_succ, List.replicate_zero, List.cons_append, List.nil_append, List.append_nil, List.getElem?_cons_zero, List.getElem?_cons_succ, List.set_cons_zero, List.set_cons_succ, List.getD_cons_zero, List.getD_cons_succ, List.filterMap_cons, List.filterMap_nil, List.all_cons, List.all_nil, Bool.and_true, Bool.true_and, Bool.not_true, Bool.not_false, Bool.not_eq_true, Bool.false_eq_true, Bool.and_self, if_true, if_false, true_and, and_true, ↓reduceIte, sDraw]
  refine ⟨by omega, by omega, fun w hw1 hw2 => ⟨by omega, by omega, fun y hy1 hy2 => ?_⟩⟩
  try simp only [Q.addF, Q.enOf, Q.tV, Q.tK, Q.t2, Q.t1, Q.tB, Q.cI, Q.cIp, Q.addI, Q.subI, Q.mulI, Q.fdivI, Q.modI, Q.powI, Q.ltI, Q.leI, Q.gtI, Q.geI, Q.negI, Q.vAnd, Q.vOr, Q.vNot, Q.qAnd, Q.qOr, Q.qNot, Q.qIf, Q.chI, Q.tTupQ, Q.dNil, Q.dCons, Q.tLstQ, Q.tFz, Q.tCA, Q.lenD, Q.tupD, Q.isD, Q.isInt, Q.isBool, Q.isTup, Q.isStr, Q.isLst, Q.tLenN, Q.tIxN, Q.setQ, Q.aNil, Q.aD, Q.aK, Q.tCallQ, Q.tCallKQ, Q.pick, Q.sNil, Q.sSeq, Q.sRet, Q.sRetN, Q.sExpr, Q.sIf, Q.sSet, Q.sSetL, Q.sAsg, Q.sFor, Q.sPar2, Q.sPar3, Q.pNil, Q.pD, Q.pO, Q.pDn, Q.gN, Q.gT, Q.gsNil, Q.gsCons, Q.iQ, Q.itD, Q.iEn, Q.itE, Q.rg1, Q.rg2, Q.oNone, Q.oSome, Q.tSlQ, Q.revD, Q.tOwnM, Q.appC, Q.popC, Q.extC, Q.ownL, Q.tRepL, Q.repC, Q.sSetIx, Q.ixOwn, Q.tLcQ, Q.noOwn, Q.rstQ, Q.wipeQ, Q.sDn, Q.sSetD, Q.tDgetN, Q.dOwn, Q.tTupRg, Q.sNever, Q.isB, Q.listD, Q.listC, Q.reprD, Q.Sl.isOwn, List.map_cons, List.map_nil, List.replicate_succ, List.replicate_zero, List.cons_append, List.nil_append, List.append_nil, List.getElem?_cons_zero, List.getElem?_cons_succ, List.set_cons_zero, List.set_cons_succ, List.getD_cons_zero, List.getD_cons_succ, List.filterMap_cons, List.filterMap_nil, List.all_cons, List.all_nil, Bool.and_true, Bool.true_and, Bool.not_true, Bool.not_false, Bool.not_eq_true, Bool.false_eq_true, Bool.and_self, if_true, if_false, true_and, and_true, ↓reduceIte, List.length_cons, List.length_nil, eqD, sh_int, eqv_int]
  refine ⟨by decide, ?_⟩
  cases e : decide (w = 0) with
  | true =>
    try simp only [Q.addF, Q.enOf, Q.tV, Q.tK, Q.t2, Q.t1, Q.tB, Q.cI, Q.cIp, Q.addI, Q.subI, Q.mulI, Q.fdivI, Q.modI, Q.powI, Q.ltI, Q.leI, Q.gtI, Q.geI, Q.negI, Q.vAnd, Q.vOr, Q.vNot, Q.qAnd, Q.qOr, Q.qNot, Q.qIf, Q.chI, Q.tTupQ, Q.dNil, Q.dCons, Q.tLstQ, Q.tFz, Q.tCA, Q.lenD, Q.tupD, Q.isD, Q.isInt, Q.isBool, Q.isTup, Q.isStr, Q.isLst, Q.tLenN, Q.tIxN, Q.setQ, Q.aNil, Q.aD, Q.aK, Q.tCallQ, Q.tCallKQ, Q.pick, Q.sNil, Q.sSeq, Q.sRet, Q.sRetN, Q.sExpr, Q.sIf, Q.sSet, Q.sSetL, Q.sAsg, Q.sFor, Q.sPar2, Q.sPar3, Q.pNil, Q.pD, Q.pO, Q.pDn, Q.gN, Q.gT, Q.gsNil, Q.gsCons, Q.iQ, Q.itD, Q.iEn, Q.itE, Q.rg1, Q.rg2, Q.oNone, Q.oSome, Q.tSlQ, Q.revD, Q.tOwnM, Q.appC, Q.popC, Q.extC, Q.ownL, Q.tRepL, Q.repC, Q.sSetIx, Q.ixOwn, Q.tLcQ, Q.noOwn, Q.rstQ, Q.wipeQ, Q.sDn, Q.sSetD, Q.tDgetN, Q.dOwn, Q.tTupRg, Q.sNever, Q.isB, Q.listD, Q.listC, Q.reprD, Q.Sl.isOwn, List.map_cons, List.map_nil, List.replicate_succ, List.replicate_zero, List.cons_append, List.nil_append, List.append_nil, List.getElem?_cons_zero, List.getElem?_cons_succ, List.set_cons_zero, List.set_cons_succ, List.getD_cons_zero, List.getD_cons_succ, List.filterMap_cons, List.filterMap_nil, List.all_cons, List.all_nil, Bool.and_true, Bool.true_and, Bool.not_true, Bool.not_false, Bool.not_eq_true, Bool.false_eq_true, Bool.and_self, if_true, if_false, true_and, and_true, ↓reduceIte]
    refine ⟨by omega, by omega, fun r hr1 hr2 => ?_⟩
    try simp only [Q.addF, Q.enOf, Q.tV, Q.tK, Q.t2, Q.t1, Q.tB, Q.cI, Q.cIp, Q.addI, Q.subI, Q.mulI, Q.fdivI, Q.modI, Q.powI, Q.ltI, Q.leI, Q.gtI, Q.geI, Q.negI, Q.vAnd, Q.vOr, Q.vNot, Q.qAnd, Q.qOr, Q.qNot, Q.qIf, Q.chI, Q.tTupQ, Q.dNil, Q.dCons, Q.tLstQ, Q.tFz, Q.tCA, Q.lenD, Q.tupD, Q.isD, Q.isInt, Q.isBool, Q.isTup, Q.isStr, Q.isLst, Q.tLenN, Q.tIxN, Q.setQ, Q.aNil, Q.aD, Q.aK, Q.tCallQ, Q.tCallKQ, Q.pick, Q.sNil, Q.sSeq, Q.sRet, Q.sRetN, Q.sExpr, Q.sIf, Q.sSet, Q.sSetL, Q.sAsg, Q.sFor, Q.sPar2, Q.sPar3, Q.pNil, Q.pD, Q.pO, Q.pDn, Q.gN, Q.gT, Q.gsNil, Q.gsCons, Q.iQ, Q.itD, Q.iEn, Q.itE, Q.rg1, Q.rg2, Q.oNone, Q.oSome, Q.tSlQ, Q.revD, Q.tOwnM, Q.appC, Q.popC, Q.extC, Q.ownL, Q.tRepL, Q.repC, Q.sSetIx, Q.ixOwn, Q.tLcQ, Q.noOwn, Q.rstQ, Q.wipeQ, Q.sDn, Q.sSetD, Q.tDgetN, Q.dOwn, Q.tTupRg, Q.sNever, Q.isB, Q.listD, Q.listC, Q.reprD, Q.Sl.isOwn, List.map_cons, List.map_nil, List.replicate_succ, List.replicate_zero, List.cons_append, List.nil_append, List.append_nil, List.getElem?_cons_zero, List.getElem?_cons_succ, List.set_cons_zero, List.set_cons_succ, List.getD_cons_zero, List.getD_cons_succ, List.filterMap_cons, List.filterMap_nil, List.all_cons, List.all_nil, Bool.and_true, Bool.true_and, Bool.not_true, Bool.not_false, Bool.not_eq_true, Bool.false_eq_true, Bool.and_self, if_true, if_false, true_and, and_true, ↓reduceIte, List.length_cons, List.length_nil]
    refine ⟨by decide, by omega, by omega, by decide, ?_⟩
    have := h (List.replicate y.toNat r) ⟨fun i hi => by obtain ⟨_, rfl⟩ := List.mem_replicate.mp hi; omega, by rw [List.length_replicate]; omega⟩
    rw [tupI, List.map_replicate, ← flat_rep] at this
    exact this
  | false =>
    try simp only [Q.addF, Q.enOf, Q.tV, Q.tK, Q.t2, Q.t1, Q.tB, Q.cI, Q.cIp, Q.addI, Q.subI, Q.mulI, Q.fdivI, Q.modI, Q.powI, Q.ltI, Q.leI, Q.gtI, Q.geI, Q.negI, Q.vAnd, Q.vOr, Q.vNot, Q.qAnd, Q.qOr, Q.qNot, Q.qIf, Q.chI, Q.tTupQ, Q.dNil, Q.dCons, Q.tLstQ, Q.tFz, Q.tCA, Q.lenD, Q.tupD, Q.isD, Q.isInt, Q.isBool, Q.isTup, Q.isStr, Q.isLst, Q.tLenN, Q.tIxN, Q.setQ, Q.aNil, Q.aD, Q.aK, Q.tCallQ, Q.tCallKQ, Q.pick, Q.sNil, Q.sSeq, Q.sRet, Q.sRetN, Q.sExpr, Q.sIf, Q.sSet, Q.sSetL, Q.sAsg, Q.sFor, Q.sPar2, Q.sPar3, Q.pNil, Q.pD, Q.pO, Q.pDn, Q.gN, Q.gT, Q.gsNil, Q.gsCons, Q.iQ, Q.itD, Q.iEn, Q.itE, Q.rg1, Q.rg2, Q.oNone, Q.oSome, Q.tSlQ, Q.revD, Q.tOwnM, Q.appC, Q.popC, Q.extC, Q.ownL, Q.tRepL, Q.repC, Q.sSetIx, Q.ixOwn, Q.tLcQ, Q.noOwn, Q.rstQ, Q.wipeQ, Q.sDn, Q.sSetD, Q.tDgetN, Q.dOwn, Q.tTupRg, Q.sNever, Q.isB, Q.listD, Q.listC, Q.reprD, Q.Sl.isOwn, List.map_cons, List.map_nil, List.replicate_succ, List.replicate_zero, List.cons_append, List.nil_append, List.append_nil, List.getElem?_cons_zero, List.getElem?_cons_succ, List.set_cons_zero, List.set_cons_succ, List.getD_cons_zero, List.getD_cons_succ, List.filterMap_cons, List.filterMap_nil, List.all_cons, List.all_nil, Bool.and_true, Bool.true_and, Bool.not_true, Bool.not_false, Bool.not_eq_true, Bool.false_eq_true, Bool.and_self, if_true, if_false, true_and, and_true, ↓reduceIte]
    refine ⟨by omega, by omega, fun r hr1 hr2 => ?_⟩
    try simp only [Q.addF, Q.enOf, Q.tV, Q.tK, Q.t2, Q.t1, Q.tB, Q.cI, Q.cIp, Q.addI, Q.subI, Q.mulI, Q.fdivI, Q.modI, Q.powI, Q.ltI, Q.leI, Q.gtI, Q.geI, Q.negI, Q.vAnd, Q.vOr, Q.vNot, Q.qAnd, Q.qOr, Q.qNot, Q.qIf, Q.chI, Q.tTupQ, Q.dNil, Q.dCons, Q.tLstQ, Q.tFz, Q.tCA, Q.lenD, Q.tupD, Q.isD, Q.isInt, Q.isBool, Q.isTup, Q.isStr, Q.isLst, Q.tLenN, Q.tIxN, Q.setQ, Q.aNil, Q.aD, Q.aK, Q.tCallQ, Q.tCallKQ, Q.pick, Q.sNil, Q.sSeq, Q.sRet, Q.sRetN, Q.sExpr, Q.sIf, Q.sSet, Q.sSetL, Q.sAsg, Q.sFor, Q.sPar2, Q.sPar3, Q.pNil, Q.pD, Q.pO, Q.pDn, Q.gN, Q.gT, Q.gsNil, Q.gsCons, Q.iQ, Q.itD, Q.iEn, Q.itE, Q.rg1, Q.rg2, Q.oNone, Q.oSome, Q.tSlQ, Q.revD, Q.tOwnM, Q.appC, Q.popC, Q.extC, Q.ownL, Q.tRepL, Q.repC, Q.sSetIx, Q.ixOwn, Q.tLcQ, Q.noOwn, Q.rstQ, Q.wipeQ, Q.sDn, Q.sSetD, Q.tDgetN, Q.dOwn, Q.tTupRg, Q.sNever, Q.isB, Q.listD, Q.listC, Q.reprD, Q.Sl.isOwn, List.map_cons, List.map_nil, List.replicate_succ, List.replicate_zero, List.cons_append, List.nil_append, List.append_nil, List.getElem?_cons_zero, List.getElem?_cons_succ, List.set_cons_zero, List.set_cons_succ, List.getD_cons_zero, List.getD_cons_succ, List.filterMap_cons, List.filterMap_nil, List.all_cons, List.all_nil, Bool.and_true, Bool.true_and, Bool.not_true, Bool.not_false, Bool.not_eq_true, Bool.false_eq_true, Bool.and_self, if_true, if_false, true_and, and_true, ↓reduceIte]
    refine ⟨by omega, by omega, ?_⟩
    refine comp_any (fun _ y => ∃ i : Int, y = .int i ∧ (0 ≤ i ∧ i ≤ n - 1)) (fun x hx Rk hk => ?_) fun outs ho => ?_
    · simp only [Q.addF, Q.enOf, Q.tV, Q.tK, Q.t2, Q.t1, Q.tB, Q.cI, Q.cIp, Q.addI, Q.subI, Q.mulI, Q.fdivI, Q.modI, Q.powI, Q.ltI, Q.leI, Q.gtI, Q.geI, Q.negI, Q.vAnd, Q.vOr, Q.vNot, Q.qAnd, Q.qOr, Q.qNot, Q.qIf, Q.chI, Q.tTupQ, Q.dNil, Q.dCons, Q.tLstQ, Q.tFz, Q.tCA, Q.lenD, Q.tupD, Q.isD, Q.isInt, Q.isBool, Q.isTup, Q.isStr, Q.isLst, Q.tLenN, Q.tIxN, Q.setQ, Q.aNil, Q.aD, Q.aK, Q.tCallQ, Q.tCallKQ, Q.pick, Q.sNil, Q.sSeq, Q.sRet, Q.sRetN, Q.sExpr, Q.sIf, Q.sSet, Q.sSetL, Q.sAsg, Q.sFor, Q.sPar2, Q.sPar3, Q.pNil, Q.pD, Q.pO, Q.pDn, Q.gN, Q.gT, Q.gsNil, Q.gsCons, Q.iQ, Q.itD, Q.iEn, Q.itE, Q.rg1, Q.rg2, Q.oNone, Q.oSome, Q.tSlQ, Q.revD, Q.tOwnM, Q.appC, Q.popC, Q.extC, Q.ownL, Q.tRepL, Q.repC, Q.sSetIx, Q.ixOwn, Q.tLcQ, Q.noOwn, Q.rstQ, Q.wipeQ, Q.sDn, Q.sSetD, Q.tDgetN, Q.dOwn, Q.tTupRg, Q.sNever, Q.isB, Q.listD, Q.listC, Q.reprD, Q.Sl.isOwn, List.map_cons, List.map_nil, List.replicate_succ, List.replicate_zero, List.cons_append, List.nil_append, List.append_nil, List.getElem?_cons_zero, List.getElem?_cons_succ, List.set_cons_zero, List.set_cons_succ, List.getD_cons_zero, List.getD_cons_succ, List.filterMap_cons, List.filterMap_nil, List.all_cons, List.all_nil, Bool.and_true, Bool.true_and, Bool.not_true, Bool.not_false, Bool.not_eq_true, Bool.false_eq_true, Bool.and_self, if_true, if_false, true_and, and_true, ↓reduceIte, eqD, neD, sh_int, eqv_int, eqv_strs, sDraw, List.length_cons, List.length_nil, Nat.zero_add, Nat.reduceAdd]
      cases e1 : decide (w = 1) with
      | true =>
        try simp only [Q.addF, Q.enOf, Q.tV, Q.tK, Q.t2, Q.t1, Q.tB, Q.cI, Q.cIp, Q.addI, Q.subI, Q.mulI, Q.fdivI, Q.modI, Q.powI, Q.ltI, Q.leI, Q.gtI, Q.geI, Q.negI, Q.vAnd, Q.vOr, Q.vNot, Q.qAnd, Q.qOr, Q.qNot, Q.qIf, Q.chI, Q.tTupQ, Q.dNil, Q.dCons, Q.tLstQ, Q.tFz, Q.tCA, Q.lenD, Q.tupD, Q.isD, Q.isInt, Q.isBool, Q.isTup, Q.isStr, Q.isLst, Q.tLenN, Q.tIxN, Q.setQ, Q.aNil, Q.aD, Q.aK, Q.tCallQ, Q.tCallKQ, Q.pick, Q.sNil, Q.sSeq, Q.sRet, Q.sRetN, Q.sExpr, Q.sIf, Q.sSet, Q.sSetL, Q.sAsg, Q.sFor, Q.sPar2, Q.sPar3, Q.pNil, Q.pD, Q.pO, Q.pDn, Q.gN, Q.gT, Q.gsNil, Q.gsCons, Q.iQ, Q.itD, Q.iEn, Q.itE, Q.rg1, Q.rg2, Q.oNone, Q.oSome, Q.tSlQ, Q.revD, Q.tOwnM, Q.appC, Q.popC, Q.extC, Q.ownL, Q.tRepL, Q.repC, Q.sSetIx, Q.ixOwn, Q.tLcQ, Q.noOwn, Q.rstQ, Q.wipeQ, Q.sDn, Q.sSetD, Q.tDgetN, Q.dOwn, Q.tTupRg, Q.sNever, Q.isB, Q.listD, Q.listC, Q.reprD, Q.Sl.isOwn, List.map_cons, List.map_nil, List.replicate_succ, List.replicate_zero, List.cons_append, List.nil_append, List.append_nil, List.getElem?_cons_zero, List.getElem?_cons_succ, List.set_cons_zero, List.set_cons_succ, List.getD_cons_zero, List.getD_cons_succ, List.filterMap_cons, List.filterMap_nil, List.all_cons, List.all_nil, Bool.and_true, Bool.true_and, Bool.not_true, Bool.not_false, Bool.not_eq_true, Bool.false_eq_true, Bool.and_self, if_true, if_false, true_and, and_true, ↓reduceIte]
        exact ⟨by omega, by omega, fun z hz1 hz2 => hk _ _ ⟨z, rfl, hz1, by omega⟩ (by simp only [Q.addF, Q.enOf, Q.tV, Q.tK, Q.t2, Q.t1, Q.tB, Q.cI, Q.cIp, Q.addI, Q.subI, Q.mulI, Q.fdivI, Q.modI, Q.powI, Q.ltI, Q.leI, Q.gtI, Q.geI, Q.negI, Q.vAnd, Q.vOr, Q.vNot, Q.qAnd, Q.qOr, Q.qNot, Q.qIf, Q.chI, Q.tTupQ, Q.dNil, Q.dCons, Q.tLstQ, Q.tFz, Q.tCA, Q.lenD, Q.tupD, Q.isD, Q.isInt, Q.isBool, Q.isTup, Q.isStr, Q.isLst, Q.tLenN, Q.tIxN, Q.setQ, Q.aNil, Q.aD, Q.aK, Q.tCallQ, Q.tCallKQ, Q.pick, Q.sNil, Q.sSeq, Q.sRet, Q.sRetN, Q.sExpr, Q.sIf, Q.sSet, Q.sSetL, Q.sAsg, Q.sFor, Q.sPar2, Q.sPar3, Q.pNil, Q.pD, Q.pO, Q.pDn, Q.gN, Q.gT, Q.gsNil, Q.gsCons, Q.iQ, Q.itD, Q.iEn, Q.itE, Q.rg1, Q.rg2, Q.oNone, Q.oSome, Q.tSlQ, Q.revD, Q.tOwnM, Q.appC, Q.popC, Q.extC, Q.ownL, Q.tRepL, Q.repC, Q.sSetIx, Q.ixOwn, Q.tLcQ, Q.noOwn, Q.rstQ, Q.wipeQ, Q.sDn, Q.sSetD, Q.tDgetN, Q.dOwn, Q.tTupRg, Q.sNever, Q.isB, Q.listD, Q.listC, Q.reprD, Q.Sl.isOwn, List.map_cons, List.map_nil, List.replicate_succ, List.replicate_zero, List.cons_append, List.nil_append, List.append_nil, List.getElem?_cons_zero, List.getElem?_cons_succ, List.set_cons_zero, List.set_cons_succ, List.getD_cons_zero, List.getD_cons_succ, List.filterMap_cons, List.filterMap_nil, List.all_cons, List.all_nil, Bool.and_true, Bool.true_and, Bool.not_true, Bool.not_false, Bool.not_eq_true, Bool.false_eq_true, Bool.and_self, if_true, if_false, true_and, and_true, ↓reduceIte])⟩
      | false =>
        try simp only [Q.addF, Q.enOf, Q.tV, Q.tK, Q.t2, Q.t1, Q.tB, Q.cI, Q.cIp, Q.addI, Q.subI, Q.mulI, Q.fdivI, Q.modI, Q.powI, Q.ltI, Q.leI, Q.gtI, Q.geI, Q.negI, Q.vAnd, Q.vOr, Q.vNot, Q.qAnd, Q.qOr, Q.qNot, Q.qIf, Q.chI, Q.tTupQ, Q.dNil, Q.dCons, Q.tLstQ, Q.tFz, Q.tCA, Q.lenD, Q.tupD, Q.isD, Q.isInt, Q.isBool, Q.isTup, Q.isStr, Q.isLst, Q.tLenN, Q.tIxN, Q.setQ, Q.aNil, Q.aD, Q.aK, Q.tCallQ, Q.tCallKQ, Q.pick, Q.sNil, Q.sSeq, Q.sRet, Q.sRetN, Q.sExpr, Q.sIf, Q.sSet, Q.sSetL, Q.sAsg, Q.sFor, Q.sPar2, Q.sPar3, Q.pNil, Q.pD, Q.pO, Q.pDn, Q.gN, Q.gT, Q.gsNil, Q.gsCons, Q.iQ, Q.itD, Q.iEn, Q.itE, Q.rg1, Q.rg2, Q.oNone, Q.oSome, Q.tSlQ, Q.revD, Q.tOwnM, Q.appC, Q.popC, Q.extC, Q.ownL, Q.tRepL, Q.repC, Q.sSetIx, Q.ixOwn, Q.tLcQ, Q.noOwn, Q.rstQ, Q.wipeQ, Q.sDn, Q.sSetD, Q.tDgetN, Q.dOwn, Q.tTupRg, Q.sNever, Q.isB, Q.listD, Q.listC, Q.reprD, Q.Sl.isOwn, List.map_cons, List.map_nil, List.replicate_succ, List.replicate_zero, List.cons_append, List.nil_append, List.append_nil, List.getElem?_cons_zero, List.getElem?_cons_succ, List.set_cons_zero, List.set_cons_succ, List.getD_cons_zero, List.getD_cons_succ, List.filterMap_cons, List.filterMap_nil, List.all_cons, List.all_nil, Bool.and_true, Bool.true_and, Bool.not_true, Bool.not_false, Bool.not_eq_true, Bool.false_eq_true, Bool.and_self, if_true, if_false, true_and, and_true, ↓reduceIte]
        exact ⟨by omega, by omega, fun z hz1 hz2 => hk _ _ ⟨z, rfl, hz1, by omega⟩ (by simp only [Q.addF, Q.enOf, Q.tV, Q.tK, Q.t2, Q.t1, Q.tB, Q.cI, Q.cIp, Q.addI, Q.subI, Q.mulI, Q.fdivI, Q.modI, Q.powI, Q.ltI, Q.leI, Q.gtI, Q.geI, Q.negI, Q.vAnd, Q.vOr, Q.vNot, Q.qAnd, Q.qOr, Q.qNot, Q.qIf, Q.chI, Q.tTupQ, Q.dNil, Q.dCons, Q.tLstQ, Q.tFz, Q.tCA, Q.lenD, Q.tupD, Q.isD, Q.isInt, Q.isBool, Q.isTup, Q.isStr, Q.isLst, Q.tLenN, Q.tIxN, Q.setQ, Q.aNil, Q.aD, Q.aK, Q.tCallQ, Q.tCallKQ, Q.pick, Q.sNil, Q.sSeq, Q.sRet, Q.sRetN, Q.sExpr, Q.sIf, Q.sSet, Q.sSetL, Q.sAsg, Q.sFor, Q.sPar2, Q.sPar3, Q.pNil, Q.pD, Q.pO, Q.pDn, Q.gN, Q.gT, Q.gsNil, Q.gsCons, Q.iQ, Q.itD, Q.iEn, Q.itE, Q.rg1, Q.rg2, Q.oNone, Q.oSome, Q.tSlQ, Q.revD, Q.tOwnM, Q.appC, Q.popC, Q.extC, Q.ownL, Q.tRepL, Q.repC, Q.sSetIx, Q.ixOwn, Q.tLcQ, Q.noOwn, Q.rstQ, Q.wipeQ, Q.sDn, Q.sSetD, Q.tDgetN, Q.dOwn, Q.tTupRg, Q.sNever, Q.isB, Q.listD, Q.listC, Q.reprD, Q.Sl.isOwn, List.map_cons, List.map_nil, List.replicate_succ, List.replicate_zero, List.cons_append, List.nil_append, List.append_nil, List.getElem?_cons_zero, List.getElem?_cons_succ, List.set_cons_zero, List.set_cons_succ, List.getD_cons_zero, List.getD_cons_succ, List.filterMap_cons, List.filterMap_nil, List.all_cons, List.all_nil, Bool.and_true, Bool.true_and, Bool.not_true, Bool.not_false, Bool.not_eq_true, Bool.false_eq_true, Bool.and_self, if_true, if_false, true_and, and_true, ↓reduceIte])⟩
    · obtain ⟨ns, rfl, hl, hp⟩ := F2.ints ho
      try simp only [Q.addF, Q.enOf, Q.tV, Q.tK, Q.t2, Q.t1, Q.tB, Q.cI, Q.cIp, Q.addI, Q.subI, Q.mulI, Q.fdivI, Q.modI, Q.powI, Q.ltI, Q.leI, Q.gtI, Q.geI, Q.negI, Q.vAnd, Q.vOr, Q.vNot, Q.qAnd, Q.qOr, Q.qNot, Q.qIf, Q.chI, Q.tTupQ, Q.dNil, Q.dCons, Q.tLstQ, Q.tFz, Q.tCA, Q.lenD, Q.tupD, Q.isD, Q.isInt, Q.isBool, Q.isTup, Q.isStr, Q.isLst, Q.tLenN, Q.tIxN, Q.setQ, Q.aNil, Q.aD, Q.aK, Q.tCallQ, Q.tCallKQ, Q.pick, Q.sNil, Q.sSeq, Q.sRet, Q.sRetN, Q.sExpr, Q.sIf, Q.sSet, Q.sSetL, Q.sAsg, Q.sFor, Q.sPar2, Q.sPar3, Q.pNil, Q.pD, Q.pO, Q.pDn, Q.gN, Q.gT, Q.gsNil, Q.gsCons, Q.iQ, Q.itD, Q.iEn, Q.itE, Q.rg1, Q.rg2, Q.oNone, Q.oSome, Q.tSlQ, Q.revD, Q.tOwnM, Q.appC, Q.popC, Q.extC, Q.ownL, Q.tRepL, Q.repC, Q.sSetIx, Q.ixOwn, Q.tLcQ, Q.noOwn, Q.rstQ, Q.wipeQ, Q.sDn, Q.sSetD, Q.tDgetN, Q.dOwn, Q.tTupRg, Q.sNever, Q.isB, Q.listD, Q.listC, Q.reprD, Q.Sl.isOwn, List.map_cons, List.map_nil, List.replicate_succ, List.replicate_zero, List.cons_append, List.nil_append, List.append_nil, List.getElem?_cons_zero, List.getElem?_cons_succ, List.set_cons_zero, List.set_cons_succ, List.getD_cons_zero, List.getD_cons_succ, List.filterMap_cons, List.filterMap_nil, List.all_cons, List.all_nil, Bool.and_true, Bool.true_and, Bool.not_true, Bool.not_false, Bool.not_eq_true, Bool.false_eq_true, Bool.and_self, if_true, if_false, true_and, and_true, ↓reduceIte]
      rw [rg_length] at hl
      exact h ns ⟨hp, by omega⟩
theorem erase_perm {α : Type} : ∀ (l : List α) (r : Nat) (h : r < l.length), (l[r] :: l.eraseIdx r).Perm l
  | a :: l, 0, _ => .refl _
  | a :: l, r + 1, h => by
    have h' : r < l.length := by simpa using h
    have ih := erase_perm l r h'
    rw [List.eraseIdx_cons_succ, List.getElem_cons_succ]
    exact (List.Perm.swap _ _ _).trans (ih.cons a)
theorem erase_map {α β : Type} (f : α → β) : ∀ (l : List α) (r : Nat), (l.map f).eraseIdx r = (l.eraseIdx r).map f
  | [], r => by simp
  | a :: l, 0 => rfl
  | a :: l, r + 1 => by rw [List.map_cons, List.eraseIdx_cons_succ, List.eraseIdx_cons_succ, List.map_cons, erase_map f l r]
theorem loop_order (R : EndsQ) (x : Sl) : ∀ (ds : List PyData) (left found : List Int) (s4 : Sl), left.length = ds.length → left.length + found.length ≤ 60 → (∀ (o : List Int) (s4 : Sl), o.Perm (found ++ left) → R.nx [.dk, x, .own [], .own (o.map .int), s4]) →
    forQ (gN 4) (sExpr (tOwnM 3 appC (dCons (tOwnM 2 popC (dCons (tCallQ sDraw (aK 0 (aD (tLenN 2) aNil))) dNil)) dNil))) R ds [.dk, x, .own (left.map .int), .own (found.map .int), s4]
  | [], left, found, s4, hl, _, h => by
    have e : left = [] := List.length_eq_zero_iff.mp hl
    subst e
    simpa only [forQ, List.map_nil] using h found s4 (by rw [List.append_nil])
  | d :: ds, left, found, s4, hl, hf, h => by
    rw [List.length_cons] at hl
    simp only [forQ, Q.addF, Q.enOf, Q.tV, Q.tK, Q.t2, Q.t1, Q.tB, Q.cI, Q.cIp, Q.addI, Q.subI, Q.mulI, Q.fdivI, Q.modI, Q.powI, Q.ltI, Q.leI, Q.gtI, Q.geI, Q.negI, Q.vAnd, Q.vOr, Q.vNot, Q.qAnd, Q.qOr, Q.qNot, Q.qIf, Q.chI, Q.tTupQ, Q.dNil, Q.dCons, Q.tLstQ, Q.tFz, Q.tCA, Q.lenD, Q.tupD, Q.isD, Q.isInt, Q.isBool, Q.isTup, Q.isStr, Q.isLst, Q.tLenN, Q.tIxN, Q.setQ, Q.aNil, Q.aD, Q.aK, Q.tCallQ, Q.tCallKQ, Q.pick, Q.sNil, Q.sSeq, Q.sRet, Q.sRetN, Q.sExpr, Q.sIf, Q.sSet, Q.sSetL, Q.sAsg, Q.sFor, Q.sPar2, Q.sPar3, Q.pNil, Q.pD, Q.pO, Q.pDn, Q.gN, Q.gT, Q.gsNil, Q.gsCons, Q.iQ, Q.itD, Q.iEn, Q.itE, Q.rg1, Q.rg2, Q.oNone, Q.oSome, Q.tSlQ, Q.revD, Q.tOwnM, Q.appC, Q.popC, Q.extC, Q.ownL, Q.tRepL, Q.repC, Q.sSetIx, Q.ixOwn, Q.tLcQ, Q.noOwn, Q.rstQ, Q.wipeQ, Q.sDn, Q.sSetD, Q.tDgetN, Q.dOwn, Q.tTupRg, Q.sNever, Q.isB, Q.listD, Q.listC, Q.reprD, Q.Sl.isOwn, List.map_cons, List.map_nil, List.replicate_succ, List.replicate_zero, List.cons_append, List.nil_append, List.append_nil, List.getElem?_cons_zero, List.getElem?_cons_succ, List.set_cons_zero, List.set_cons_succ, List.getD_cons_zero, List.getD_cons_succ, List.filterMap_cons, List.filterMap_nil, List.all_cons, List.all_nil, Bool.and_true, Bool.true_and, Bool.not_true, Bool.not_false, Bool.not_eq_true, Bool.false_eq_true, Bool.and_self, if_true, if_false, true_and, and_true, ↓reduceIte, sDraw, List.length_map]
    refine ⟨by omega, by omega, fun r hr1 hr2 => ?_⟩
    have hr : r.toNat < left.length := by omega
    try simp only [Q.addF, Q.enOf, Q.tV, Q.tK, Q.t2, Q.t1, Q.tB, Q.cI, Q.cIp, Q.addI, Q.subI, Q.mulI, Q.fdivI, Q.modI, Q.powI, Q.ltI, Q.leI, Q.gtI, Q.geI, Q.negI, Q.vAnd, Q.vOr, Q.vNot, Q.qAnd, Q.qOr, Q.qNot, Q.qIf, Q.chI, Q.tTupQ, Q.dNil, Q.dCons, Q.tLstQ, Q.tFz, Q.tCA, Q.lenD, Q.tupD, Q.isD, Q.isInt, Q.isBool, Q.isTup, Q.isStr, Q.isLst, Q.tLenN, Q.tIxN, Q.setQ, Q.aNil, Q.aD, Q.aK, Q.tCallQ, Q.tCallKQ, Q.pick, Q.sNil, Q.sSeq, Q.sRet, Q.sRetN, Q.sExpr, Q.sIf, Q.sSet, Q.sSetL, Q.sAsg, Q.sFor, Q.sPar2, Q.sPar3, Q.pNil, Q.pD, Q.pO, Q.pDn, Q.gN, Q.gT, Q.gsNil, Q.gsCons, Q.iQ, Q.itD, Q.iEn, Q.itE, Q.rg1, Q.rg2, Q.oNone, Q.oSome, Q.tSlQ, Q.revD, Q.tOwnM, Q.appC, Q.popC, Q.extC, Q.ownL, Q.tRepL, Q.repC, Q.sSetIx, Q.ixOwn, Q.tLcQ, Q.noOwn, Q.rstQ, Q.wipeQ, Q.sDn, Q.sSetD, Q.tDgetN, Q.dOwn, Q.tTupRg, Q.sNever, Q.isB, Q.listD, Q.listC, Q.reprD, Q.Sl.isOwn, List.map_cons, List.map_nil, List.replicate_succ, List.replicate_zero, List.cons_append, List.nil_append, List.append_nil, List.getElem?_cons_zero, List.getElem?_cons_succ, List.set_cons_zero, List.set_cons_succ, List.getD_cons_zero, List.getD_cons_succ, List.filterMap_cons, List.filterMap_nil, List.all_cons, List.all_nil, Bool.and_true, Bool.true_and, Bool.not_true, Bool.not_false, Bool.not_eq_true, Bool.false_eq_true, Bool.and_self, if_true, if_false, true_and, and_true, ↓reduceIte, List.length_map]
    refine ⟨hr1, by omega, .int left[r.toNat], by simp [hr], ?_⟩
    refine ⟨by omega, ?_⟩
    have step := loop_order R x ds (left.eraseIdx r.toNat) (found ++ [left[r.toNat]]) (.d d) (by rw [List.length_eraseIdx_of_lt hr]; omega) (by rw [List.length_eraseIdx_of_lt hr, List.length_append]; simp; omega) fun o s4 ho => h o s4 (ho.trans (by
      rw [List.append_assoc]
      exact List.Perm.append_left _ (erase_perm left r.toNat hr)))
    rw [List.map_append, ← erase_map] at step
    exact step
def sp__law_order : PSpec := fun as R => ∃ n : Nat, as = [.dk, .d (.int n)] ∧ n ≤ 60 ∧ ∀ o : List Int, Ord n o → R (tupI o)
theorem len__law_order : ∀ as R, sp__law_order as R → as.length = 2 := by rintro as R ⟨n, rfl, _⟩; rfl
theorem rd__law_order : ∀ as R, sp__law_order as R → t__law_order sDraw { nx := fun _ => R .none, rt := R } (enOf as 3) := by
  rintro as R ⟨n, rfl, h1, h⟩
  simp only [t__law_order, Q.addF, Q.enOf, Q.tV, Q.tK, Q.t2, Q.t1, Q.tB, Q.cI, Q.cIp, Q.addI, Q.subI, Q.mulI, Q.fdivI, Q.modI, Q.powI, Q.ltI, Q.leI, Q.gtI, Q.geI, Q.negI, Q.vAnd, Q.vOr, Q.vNot, Q.qAnd, Q.qOr, Q.qNot, Q.qIf, Q.chI, Q.tTupQ, Q.dNil, Q.dCons, Q.tLstQ, Q.tFz, Q.tCA, Q.lenD, Q.tupD, Q.isD, Q.isInt, Q.isBool, Q.isTup, Q.isStr, Q.isLst, Q.tLenN, Q.tIxN, Q.setQ, Q.aNil, Q.aD, Q.aK, Q.tCallQ, Q.tCallKQ, Q.pick, Q.sNil, Q.sSeq, Q.sRet, Q.sRetN, Q.sExpr, Q.sIf, Q.sSet, Q.sSetL, Q.sAsg, Q.sFor, Q.sPar2, Q.sPar3, Q.pNil, Q.pD, Q.pO, Q.pDn, Q.gN, Q.gT, Q.gsNil, Q.gsCons, Q.iQ, Q.itD, Q.iEn, Q.itE, Q.rg1, Q.rg2, Q.oNone, Q.oSome, Q.tSlQ, Q.revD, Q.tOwnM, Q.appC, Q.popC, Q.extC, Q.ownL, Q.tRepL, Q.repC, Q.sSetIx, Q.ixOwn, Q.tLcQ, Q.noOwn, Q.rstQ, Q.wipeQ, Q.sDn, Q.sSetD, Q.tDgetN, Q.dOwn, Q.tTupRg, Q.sNever, Q.isB, Q.listD, Q.listC, Q.reprD, Q.Sl.isOwn, List.map_cons, List.map_nil, List.replicate_succ, List.replicate_zero, List.cons_append, List.nil_append, List.append_nil, List.getElem?_cons_zero, List.getElem?_cons_succ, List.set_cons_zero, List.set_cons_succ, List.getD_cons_zero, List.getD_cons_succ, List.filterMap_cons, List.filterMap_nil, List.all_cons, List.all_nil, Bool.and_true, Bool.true_and, Bool.not_true, Bool.not_false, Bool.not_eq_true, Bool.false_eq_true, Bool.and_self, if_true, if_false, true_and, and_true, ↓reduceIte, List.length_nil, rg_row, Int.toNat_natCast]
  refine ⟨by omega, by omega, by decide, by omega, by omega, ?_⟩
  refine loop_order _ (.d (.int n)) _ (row n) [] .un (by simp) (by rw [row_length]; simp; omega) fun o s4 ho => ?_
  try simp only [Q.addF, Q.enOf, Q.tV, Q.tK, Q.t2, Q.t1, Q.tB, Q.cI, Q.cIp, Q.addI, Q.subI, Q.mulI, Q.fdivI, Q.modI, Q.powI, Q.ltI, Q.leI, Q.gtI, Q.geI, Q.negI, Q.vAnd, Q.vOr, Q.vNot, Q.qAnd, Q.qOr, Q.qNot, Q.qIf, Q.chI, Q.tTupQ, Q.dNil, Q.dCons, Q.tLstQ, Q.tFz, Q.tCA, Q.lenD, Q.tupD, Q.isD, Q.isInt, Q.isBool, Q.isTup, Q.isStr, Q.isLst, Q.tLenN, Q.tIxN, Q.setQ, Q.aNil, Q.aD, Q.aK, Q.tCallQ, Q.tCallKQ, Q.pick, Q.sNil, Q.sSeq, Q.sRet, Q.sRetN, Q.sExpr, Q.sIf, Q.sSet, Q.sSetL, Q.sAsg, Q.sFor, Q.sPar2, Q.sPar3, Q.pNil, Q.pD, Q.pO, Q.pDn, Q.gN, Q.gT, Q.gsNil, Q.gsCons, Q.iQ, Q.itD, Q.iEn, Q.itE, Q.rg1, Q.rg2, Q.oNone, Q.oSome, Q.tSlQ, Q.revD, Q.tOwnM, Q.appC, Q.popC, Q.extC, Q.ownL, Q.tRepL, Q.repC, Q.sSetIx, Q.ixOwn, Q.tLcQ, Q.noOwn, Q.rstQ, Q.wipeQ, Q.sDn, Q.sSetD, Q.tDgetN, Q.dOwn, Q.tTupRg, Q.sNever, Q.isB, Q.listD, Q.listC, Q.reprD, Q.Sl.isOwn, List.map_cons, List.map_nil, List.replicate_succ, List.replicate_zero, List.cons_append, List.nil_append, List.append_nil, List.getElem?_cons_zero, List.getElem?_cons_succ, List.set_cons_zero, List.set_cons_succ, List.getD_cons_zero, List.getD_cons_succ, List.filterMap_cons, List.filterMap_nil, List.all_cons, List.all_nil, Bool.and_true, Bool.true_and, Bool.not_true, Bool.not_false, Bool.not_eq_true, Bool.false_eq_true, Bool.and_self, if_true, if_false, true_and, and_true, ↓reduceIte]
  exact h o ho
/-! ### a throw drawn -/
def fib (places : List Int) (n : Nat) (a : Int) : List Int := (row n).filter fun k => decide (places.getD k.toNat 0 = a)
theorem fib_perm (f : Int → Int) : ∀ (m : Nat) (l : List Int), (∀ x, x ∈ l → 0 ≤ f x ∧ f x < m) → (((row m).map fun a => l.filter fun x => decide (f x = a)).flatten).Perm l
  | 0, l, h => by
    cases l with
    | nil => exact .refl _
    | cons x l => have := h x (by simp); omega
  | m + 1, l, h => by
    have e : row (m + 1) = row m ++ [(m : Int)] := by simp [row, List.range_succ]
    rw [e, List.map_append, List.flatten_append]
    have ih := fib_perm f m (l.filter fun x => decide (f x < m)) fun x hx => by
      obtain ⟨h1, h2⟩ := List.mem_filter.mp hx
      have := h x h1
      simp at h2
      omega
    have e2 : ((row m).map fun a => (l.filter fun x => decide (f x < m)).filter fun x => decide (f x = a)) = (row m).map fun a => l.filter fun x => decide (f x = a) := by
      refine List.map_congr_left fun a ha => ?_
      rw [List.filter_filter]
      refine List.filter_congr fun x _ => ?_
      have := mem_row.mp ha
      by_cases e : f x = a
      · simp [e]; omega
      · simp [e]
    rw [e2] at ih
    have e3 : (List.map (fun a => l.filter fun x => decide (f x = a)) [(m : Int)]).flatten = l.filter fun x => !decide (f x < m) := by
      rw [List.map_cons, List.map_nil, List.flatten_cons, List.flatten_nil, List.append_nil]
      refine List.filter_congr fun x hx => ?_
      have := h x hx
      by_cases e : f x = m
      · simp [e]
      · have : f x < m := by omega
        simp [e, this]
    rw [e3]
    exact (ih.append_right _).trans (List.filter_append_perm _ _)
theorem flat_ne : ∀ ls : List (List Int), (ls.filter fun l => !l.isEmpty).flatten = ls.flatten
  | [] => rfl
  | [] :: ls => by rw [List.filter_cons_of_neg (by simp), flat_ne ls]; rfl
  | (a :: l) :: ls => by rw [List.filter_cons_of_pos (by simp), List.flatten_cons, List.flatten_cons, flat_ne ls]
def lotsOf (places : List Int) (n m : Nat) : List (List Int) := ((row m).map (fib places n)).filter fun l => !l.isEmpty
theorem throw_made {places : List Int} {n m : Nat} (hn : 1 ≤ n) (hn8 : n ≤ 8) (hb : ∀ k, k ∈ row n → 0 ≤ places.getD k.toNat 0 ∧ places.getD k.toNat 0 < m) {th : Thr} (h1 : th.map (·.1) = lotsOf places n m) (h2 : ∀ p, p ∈ th → p.2 = 1 ∨ p.2 = -1) :
    ThrowOk th ∧ (kinds th).length = n := by
  have hp : (kinds th).Perm (row n) := by
    unfold kinds
    rw [h1]
    unfold lotsOf
    rw [flat_ne]
    exact fib_perm (fun k => places.getD k.toNat 0) m (row n) hb
  have hl : (kinds th).length = n := by rw [hp.length_eq, row_length]
  refine ⟨⟨fun e => ?_, fun p hpm => ?_, by rw [hl]; exact hp, by omega⟩, hl⟩
  · subst e
    simp [kinds] at hl
    omega
  · have hm : p.1 ∈ lotsOf places n m := by rw [← h1]; exact List.mem_map_of_mem hpm
    unfold lotsOf at hm
    obtain ⟨h3, h4⟩ := List.mem_filter.mp hm
    obtain ⟨a, ha, e⟩ := List.mem_map.mp h3
    refine ⟨fun z => by rw [z] at h4; simp at h4, fun k hk => ?_, ?_, h2 p hpm, ?_⟩
    · rw [← e] at hk
      have := mem_row.mp (List.mem_filter.mp hk).1
      omega
    · rw [← e]
      refine List.Pairwise.filter _ ?_
      unfold row
      rw [List.pairwise_map]
      exact List.Pairwise.imp (fun h => by omega) (List.pairwise_lt_range (n := n))
    · rw [← e]
      have := List.length_filter_le (fun k => decide (places.getD k.toNat 0 = a)) (row n)
      rw [row_length] at this
      exact Nat.le_trans this hn8
theorem signs {ls : List (List Int)} : ∀ {outs : List PyData}, F2 (fun x y => ∃ sg : Int, (sg = 1 ∨ sg = -1) ∧ y = .tuple [x, .int sg]) (ls.map tupI) outs → ∃ th : Thr, outs = th.map lotD ∧ th.map (·.1) = ls ∧ ∀ p, p ∈ th → p.2 = 1 ∨ p.2 = -1 := by
  induction ls with
  | nil => intro outs h; cases h; exact ⟨[], rfl, rfl, by simp⟩
  | cons l ls ih =>
    intro outs h
    cases h with
    | cons h t =>
      obtain ⟨sg, hs, rfl⟩ := h
      obtain ⟨th, rfl, h2, h3⟩ := ih t
      exact ⟨(l, sg) :: th, rfl, by simp [h2], fun p hp => by
        rcases List.mem_cons.mp hp with rfl | hp
        · exact hs
        · exact h3 p hp⟩
def atK (places : List Int) (a : Int) : PyData → Bool
  | .int k => decide (places.getD k.toNat 0 = a)
  | _ => false
def fibD (places : List Int) (n : Nat) : PyData → PyData
  | .int a => tupI (fib places n a)
  | _ => .none
def neT : PyData → Bool
  | .tuple xs => !xs.isEmpty
  | _ => false
theorem max_of : ∀ (ns : List Int), 0 < ns.length → ∃ m, m ∈ ns ∧ ∀ y, y ∈ ns → y ≤ m
  | [a], _ => ⟨a, by simp, by simp⟩
  | a :: b :: ns, _ => by
    obtain ⟨m, h1, h2⟩ := max_of (b :: ns) (by simp)
    by_cases h : a ≤ m
    · refine ⟨m, by simp at h1 ⊢; exact .inr h1, fun y hy => ?_⟩
      rcases List.mem_cons.mp hy with rfl | hy
      · exact h
      · exact h2 y hy
    · refine ⟨a, by simp, fun y hy => ?_⟩
      rcases List.mem_cons.mp hy with rfl | hy
      · exact Int.le_refl _
      · have := h2 y hy; omega
end T01
end P23
section P24
open PySem PySem.Spec PyProof.Rows L2 HT Q
namespace T01
def tl1_throw (S__law_draw : PSpec) (S__law_order : PSpec) (S__law_pick : PSpec) : TQS := (sSeq (sSet 4 (qIf (tB (t2 neD (tV 2) (tK (.int 1)))) (tFz (tLcQ (rg1 (tV 1)) (gN 7) tY (tCallQ S__law_draw (aK 0 (aD (tV 3) aNil))) [7])) (tFz (listD (dCons (tCallQ S__law_order (aK 0 (aD (tV 1) aNil))) dNil)))))
  (sSeq (sSetL 5 (tLcQ (rg1 (t2 addF (tCA maxD (dCons (tV 4) dNil)) (tK (.int 1)))) (gN 8) tY (tCA tupD (dCons (tFz (tLcQ (rg1 (tV 1)) (gN 7) (tB (t2 eqD (tIxN 4 (tV 7)) (tV 8))) (tV 7) [7])) dNil)) [8]))
  (sSeq (sSet 6 (tCallQ S__law_pick (aK 0 (aD (tTupQ (dCons (tK (.int 1)) (dCons (t1 negI (tK (.int 1))) dNil))) aNil))))
  (sRet (tCA tupD (dCons (tFz (tLcQ (iQ (tV 5)) (gN 9) (tB (t2 neD (tV 9) (tTupQ dNil))) (tTupQ (dCons (tV 9) (dCons (qIf (tB (t2 eqD (tV 2) (tK (.int 2)))) (tV 6) (tCallQ S__law_pick (aK 0 (aD (tTupQ (dCons (tK (.int 1)) (dCons (t1 negI (tK (.int 1))) dNil))) aNil)))) dNil))) [9])) dNil))))))
def tl2_throw (S__law_pick : PSpec) : TQS := (sSeq (sSetL 5 (tLcQ (rg1 (t2 addF (tCA maxD (dCons (tV 4) dNil)) (tK (.int 1)))) (gN 8) tY (tCA tupD (dCons (tFz (tLcQ (rg1 (tV 1)) (gN 7) (tB (t2 eqD (tIxN 4 (tV 7)) (tV 8))) (tV 7) [7])) dNil)) [8]))
  (sSeq (sSet 6 (tCallQ S__law_pick (aK 0 (aD (tTupQ (dCons (tK (.int 1)) (dCons (t1 negI (tK (.int 1))) dNil))) aNil))))
  (sRet (tCA tupD (dCons (tFz (tLcQ (iQ (tV 5)) (gN 9) (tB (t2 neD (tV 9) (tTupQ dNil))) (tTupQ (dCons (tV 9) (dCons (qIf (tB (t2 eqD (tV 2) (tK (.int 2)))) (tV 6) (tCallQ S__law_pick (aK 0 (aD (tTupQ (dCons (tK (.int 1)) (dCons (t1 negI (tK (.int 1))) dNil))) aNil)))) dNil))) [9])) dNil)))))
theorem eqv_nil {l : List Int} : PyData.eqv (.tuple (l.map .int)) (.tuple []) = l.isEmpty := by
  cases l with
  | nil => simp [PyData.eqv, PyData.eqvAll]
  | cons a l => exact eqv_tup0
theorem pick_sgn {sg : Int} (h : sg ∈ [(1 : Int), -1]) : sg = 1 ∨ sg = -1 := by simpa using h
theorem rd_tl2 {R : PyData → Prop} {n : Nat} {w mm : Int} {places : List Int} (hn : 1 ≤ n) (hn8 : n ≤ 8) (hl : places.length = n) (hb : ∀ p, p ∈ places → 0 ≤ p ∧ p < n) (h : ∀ th : Thr, ThrowOk th → (kinds th).length = n → R (thrD th)) :
    tl2_throw sp__law_pick { nx := fun _ => R .none, rt := R } [.dk, .d (.int n), .d (.int w), .d (.int mm), .d (.list (places.map .int)), .un, .un, .un, .un, .un] := by
  simp only [tl2_throw, Q.addF, Q.enOf, Q.tV, Q.tK, Q.t2, Q.t1, Q.tB, Q.cI, Q.cIp, Q.addI, Q.subI, Q.mulI, Q.fdivI, Q.modI, Q.powI, Q.ltI, Q.leI, Q.gtI, Q.geI, Q.negI, Q.vAnd, Q.vOr, Q.vNot, Q.qAnd, Q.qOr, Q.qNot, Q.qIf, Q.chI, Q.tTupQ, Q.dNil, Q.dCons, Q.tLstQ, Q.tFz, Q.tCA, Q.lenD, Q.tupD, Q.isD, Q.isInt, Q.isBool, Q.isTup, Q.isStr, Q.isLst, Q.tLenN, Q.tIxN, Q.setQ, Q.aNil, Q.aD, Q.aK, Q.tCallQ, Q.tCallKQ, Q.pick, Q.sNil, Q.sSeq, Q.sRet, Q.sRetN, Q.sExpr, Q.sIf, Q.sSet, Q.sSetL, Q.sAsg, Q.sFor, Q.sPar2, Q.sPar3, Q.pNil, Q.pD, Q.pO, Q.pDn, Q.gN, Q.gT, Q.gsNil, Q.gsCons, Q.iQ, Q.itD, Q.iEn, Q.itE, Q.rg1, Q.rg2, Q.oNone, Q.oSome, Q.tSlQ, Q.revD, Q.tOwnM, Q.appC, Q.popC, Q.extC, Q.ownL, Q.tRepL, Q.repC, Q.sSetIx, Q.ixOwn, Q.tLcQ, Q.noOwn, Q.rstQ, Q.wipeQ, Q.sDn, Q.sSetD, Q.tDgetN, Q.dOwn, Q.tTupRg, Q.sNever, Q.isB, Q.listD, Q.listC, Q.reprD, Q.Sl.isOwn, List.map_cons, List.map_nil, List.replicate_succ, List.replicate_zero, List.cons_append, List.nil_append, List.append_nil, List.getElem?_cons_zero, List.getElem?_cons_succ, List.set_cons_zero, List.set_cons_succ, List.getD_cons_zero, List.getD_cons_succ, List.filterMap_cons, List.filterMap_nil, List.all_cons, List.all_nil, Bool.and_true, Bool.true_and, Bool.not_true, Bool.not_false, Bool.not_eq_true, Bool.false_eq_true, Bool.and_self, if_true, if_false, true_and, and_true, ↓reduceIte, eqD, neD, sh_int, eqv_int, eqv_strs, sDraw, List.length_cons, List.length_nil, Nat.zero_add, Nat.reduceAdd, maxD]
  refine ⟨places, rfl, by omega, fun m hm1 hm2 => ?_⟩
  have hm := hb m hm1
  try simp only [Q.addF, Q.enOf, Q.tV, Q.tK, Q.t2, Q.t1, Q.tB, Q.cI, Q.cIp, Q.addI, Q.subI, Q.mulI, Q.fdivI, Q.modI, Q.powI, Q.ltI, Q.leI, Q.gtI, Q.geI, Q.negI, Q.vAnd, Q.vOr, Q.vNot, Q.qAnd, Q.qOr, Q.qNot, Q.qIf, Q.chI, Q.tTupQ, Q.dNil, Q.dCons, Q.tLstQ, Q.tFz, Q.tCA, Q.lenD, Q.tupD, Q.isD, Q.isInt, Q.isBool, Q.isTup, Q.isStr, Q.isLst, Q.tLenN, Q.tIxN, Q.setQ, Q.aNil, Q.aD, Q.aK, Q.tCallQ, Q.tCallKQ, Q.pick, Q.sNil, Q.sSeq, Q.sRet, Q.sRetN, Q.sExpr, Q.sIf, Q.sSet, Q.sSetL, Q.sAsg, Q.sFor, Q.sPar2, Q.sPar3, Q.pNil, Q.pD, Q.pO, Q.pDn, Q.gN, Q.gT, Q.gsNil, Q.gsCons, Q.iQ, Q.itD, Q.iEn, Q.itE, Q.rg1, Q.rg2, Q.oNone, Q.oSome, Q.tSlQ, Q.revD, Q.tOwnM, Q.appC, Q.popC, Q.extC, Q.ownL, Q.tRepL, Q.repC, Q.sSetIx, Q.ixOwn, Q.tLcQ, Q.noOwn, Q.rstQ, Q.wipeQ, Q.sDn, Q.sSetD, Q.tDgetN, Q.dOwn, Q.tTupRg, Q.sNever, Q.isB, Q.listD, Q.listC, Q.reprD, Q.Sl.isOwn, List.map_cons, List.map_nil, List.replicate_succ, List.replicate_zero, List.cons_append, List.nil_append, List.append_nil, List.getElem?_cons_zero, List.getElem?_cons_succ, List.set_cons_zero, List.set_cons_succ, List.getD_cons_zero, List.getD_cons_succ, List.filterMap_cons, List.filterMap_nil, List.all_cons, List.all_nil, Bool.and_true, Bool.true_and, Bool.not_true, Bool.not_false, Bool.not_eq_true, Bool.false_eq_true, Bool.and_self, if_true, if_false, true_and, and_true, ↓reduceIte, eqD, neD, sh_int, eqv_int, eqv_strs, sDraw, List.length_cons, List.length_nil, Nat.zero_add, Nat.reduceAdd]
  refine ⟨by omega, by omega, ?_⟩
  have em : (m + 1).toNat = m.toNat + 1 := by omega
  rw [em, rg_row]
  refine comp_map (fibD places n) (fun x hx Rk hk => ?_) ?_
  · obtain ⟨a, ha, rfl⟩ := List.mem_map.mp hx
    simp only [Q.addF, Q.enOf, Q.tV, Q.tK, Q.t2, Q.t1, Q.tB, Q.cI, Q.cIp, Q.addI, Q.subI, Q.mulI, Q.fdivI, Q.modI, Q.powI, Q.ltI, Q.leI, Q.gtI, Q.geI, Q.negI, Q.vAnd, Q.vOr, Q.vNot, Q.qAnd, Q.qOr, Q.qNot, Q.qIf, Q.chI, Q.tTupQ, Q.dNil, Q.dCons, Q.tLstQ, Q.tFz, Q.tCA, Q.lenD, Q.tupD, Q.isD, Q.isInt, Q.isBool, Q.isTup, Q.isStr, Q.isLst, Q.tLenN, Q.tIxN, Q.setQ, Q.aNil, Q.aD, Q.aK, Q.tCallQ, Q.tCallKQ, Q.pick, Q.sNil, Q.sSeq, Q.sRet, Q.sRetN, Q.sExpr, Q.sIf, Q.sSet, Q.sSetL, Q.sAsg, Q.sFor, Q.sPar2, Q.sPar3, Q.pNil, Q.pD, Q.pO, Q.pDn, Q.gN, Q.gT, Q.gsNil, Q.gsCons, Q.iQ, Q.itD, Q.iEn, Q.itE, Q.rg1, Q.rg2, Q.oNone, Q.oSome, Q.tSlQ, Q.revD, Q.tOwnM, Q.appC, Q.popC, Q.extC, Q.ownL, Q.tRepL, Q.repC, Q.sSetIx, Q.ixOwn, Q.tLcQ, Q.noOwn, Q.rstQ, Q.wipeQ, Q.sDn, Q.sSetD, Q.tDgetN, Q.dOwn, Q.tTupRg, Q.sNever, Q.isB, Q.listD, Q.listC, Q.reprD, Q.Sl.isOwn, List.map_cons, List.map_nil, List.replicate_succ, List.replicate_zero, List.cons_append, List.nil_append, List.append_nil, List.getElem?_cons_zero, List.getElem?_cons_succ, List.set_cons_zero, List.set_cons_succ, List.getD_cons_zero, List.getD_cons_succ, List.filterMap_cons, List.filterMap_nil, List.all_cons, List.all_nil, Bool.and_true, Bool.true_and, Bool.not_true, Bool.not_false, Bool.not_eq_true, Bool.false_eq_true, Bool.and_self, if_true, if_false, true_and, and_true, ↓reduceIte, eqD, neD, sh_int, eqv_int, eqv_strs, sDraw, List.length_cons, List.length_nil, Nat.zero_add, Nat.reduceAdd, rg_row, Int.toNat_natCast]
    refine ⟨by omega, by omega, ?_⟩
    refine comp_if (atK places a) (fun y => y) (fun y hy Rk2 Rf2 hk2 hf2 => ?_) ?_
    · obtain ⟨k, hk3, rfl⟩ := List.mem_map.mp hy
      have hk4 := mem_row.mp hk3
      simp only [Q.addF, Q.enOf, Q.tV, Q.tK, Q.t2, Q.t1, Q.tB, Q.cI, Q.cIp, Q.addI, Q.subI, Q.mulI, Q.fdivI, Q.modI, Q.powI, Q.ltI, Q.leI, Q.gtI, Q.geI, Q.negI, Q.vAnd, Q.vOr, Q.vNot, Q.qAnd, Q.qOr, Q.qNot, Q.qIf, Q.chI, Q.tTupQ, Q.dNil, Q.dCons, Q.tLstQ, Q.tFz, Q.tCA, Q.lenD, Q.tupD, Q.isD, Q.isInt, Q.isBool, Q.isTup, Q.isStr, Q.isLst, Q.tLenN, Q.tIxN, Q.setQ, Q.aNil, Q.aD, Q.aK, Q.tCallQ, Q.tCallKQ, Q.pick, Q.sNil, Q.sSeq, Q.sRet, Q.sRetN, Q.sExpr, Q.sIf, Q.sSet, Q.sSetL, Q.sAsg, Q.sFor, Q.sPar2, Q.sPar3, Q.pNil, Q.pD, Q.pO, Q.pDn, Q.gN, Q.gT, Q.gsNil, Q.gsCons, Q.iQ, Q.itD, Q.iEn, Q.itE, Q.rg1, Q.rg2, Q.oNone, Q.oSome, Q.tSlQ, Q.revD, Q.tOwnM, Q.appC, Q.popC, Q.extC, Q.ownL, Q.tRepL, Q.repC, Q.sSetIx, Q.ixOwn, Q.tLcQ, Q.noOwn, Q.rstQ, Q.wipeQ, Q.sDn, Q.sSetD, Q.tDgetN, Q.dOwn, Q.tTupRg, Q.sNever, Q.isB, Q.listD, Q.listC, Q.reprD, Q.Sl.isOwn, List.map_cons, List.map_nil, List.replicate_succ, List.replicate_zero, List.cons_append, List.nil_append, List.append_nil, List.getElem?_cons_zero, List.getElem?_cons_succ, List.set_cons_zero, List.set_cons_succ, List.getD_cons_zero, List.getD_cons_succ, List.filterMap_cons, List.filterMap_nil, List.all_cons, List.all_nil, Bool.and_true, Bool.true_and, Bool.not_true, Bool.not_false, Bool.not_eq_true, Bool.false_eq_true, Bool.and_self, if_true, if_false, true_and, and_true, ↓reduceIte, eqD, neD, sh_int, eqv_int, eqv_strs, sDraw, List.length_cons, List.length_nil, Nat.zero_add, Nat.reduceAdd, ixD]
      refine ⟨_, at_int hk4.1 (by omega), ?_⟩
      try simp only [Q.addF, Q.enOf, Q.tV, Q.tK, Q.t2, Q.t1, Q.tB, Q.cI, Q.cIp, Q.addI, Q.subI, Q.mulI, Q.fdivI, Q.modI, Q.powI, Q.ltI, Q.leI, Q.gtI, Q.geI, Q.negI, Q.vAnd, Q.vOr, Q.vNot, Q.qAnd, Q.qOr, Q.qNot, Q.qIf, Q.chI, Q.tTupQ, Q.dNil, Q.dCons, Q.tLstQ, Q.tFz, Q.tCA, Q.lenD, Q.tupD, Q.isD, Q.isInt, Q.isBool, Q.isTup, Q.isStr, Q.isLst, Q.tLenN, Q.tIxN, Q.setQ, Q.aNil, Q.aD, Q.aK, Q.tCallQ, Q.tCallKQ, Q.pick, Q.sNil, Q.sSeq, Q.sRet, Q.sRetN, Q.sExpr, Q.sIf, Q.sSet, Q.sSetL, Q.sAsg, Q.sFor, Q.sPar2, Q.sPar3, Q.pNil, Q.pD, Q.pO, Q.pDn, Q.gN, Q.gT, Q.gsNil, Q.gsCons, Q.iQ, Q.itD, Q.iEn, Q.itE, Q.rg1, Q.rg2, Q.oNone, Q.oSome, Q.tSlQ, Q.revD, Q.tOwnM, Q.appC, Q.popC, Q.extC, Q.ownL, Q.tRepL, Q.repC, Q.sSetIx, Q.ixOwn, Q.tLcQ, Q.noOwn, Q.rstQ, Q.wipeQ, Q.sDn, Q.sSetD, Q.tDgetN, Q.dOwn, Q.tTupRg, Q.sNever, Q.isB, Q.listD, Q.listC, Q.reprD, Q.Sl.isOwn, List.map_cons, List.map_nil, List.replicate_succ, List.replicate_zero, List.cons_append, List.nil_append, List.append_nil, List.getElem?_cons_zero, List.getElem?_cons_succ, List.set_cons_zero, List.set_cons_succ, List.getD_cons_zero, List.getD_cons_succ, List.filterMap_cons, List.filterMap_nil, List.all_cons, List.all_nil, Bool.and_true, Bool.true_and, Bool.not_true, Bool.not_false, Bool.not_eq_true, Bool.false_eq_true, Bool.and_self, if_true, if_false, true_and, and_true, ↓reduceIte, eqD, neD, sh_int, eqv_int, eqv_strs, sDraw, List.length_cons, List.length_nil, Nat.zero_add, Nat.reduceAdd]
      cases e : decide (places.getD k.toNat 0 = a) with
      | true => exact hk2 _ e (by simp only [Q.addF, Q.enOf, Q.tV, Q.tK, Q.t2, Q.t1, Q.tB, Q.cI, Q.cIp, Q.addI, Q.subI, Q.mulI, Q.fdivI, Q.modI, Q.powI, Q.ltI, Q.leI, Q.gtI, Q.geI, Q.negI, Q.vAnd, Q.vOr, Q.vNot, Q.qAnd, Q.qOr, Q.qNot, Q.qIf, Q.chI, Q.tTupQ, Q.dNil, Q.dCons, Q.tLstQ, Q.tFz, Q.tCA, Q.lenD, Q.tupD, Q.isD, Q.isInt, Q.isBool, Q.isTup, Q.isStr, Q.isLst, Q.tLenN, Q.tIxN, Q.setQ, Q.aNil, Q.aD, Q.aK, Q.tCallQ, Q.tCallKQ, Q.pick, Q.sNil, Q.sSeq, Q.sRet, Q.sRetN, Q.sExpr, Q.sIf, Q.sSet, Q.sSetL, Q.sAsg, Q.sFor, Q.sPar2, Q.sPar3, Q.pNil, Q.pD, Q.pO, Q.pDn, Q.gN, Q.gT, Q.gsNil, Q.gsCons, Q.iQ, Q.itD, Q.iEn, Q.itE, Q.rg1, Q.rg2, Q.oNone, Q.oSome, Q.tSlQ, Q.revD, Q.tOwnM, Q.appC, Q.popC, Q.extC, Q.ownL, Q.tRepL, Q.repC, Q.sSetIx, Q.ixOwn, Q.tLcQ, Q.noOwn, Q.rstQ, Q.wipeQ, Q.sDn, Q.sSetD, Q.tDgetN, Q.dOwn, Q.tTupRg, Q.sNever, Q.isB, Q.listD, Q.listC, Q.reprD, Q.Sl.isOwn, List.map_cons, List.map_nil, List.replicate_succ, List.replicate_zero, List.cons_append, List.nil_append, List.append_nil, List.getElem?_cons_zero, List.getElem?_cons_succ, List.set_cons_zero, List.set_cons_succ, List.getD_cons_zero, List.getD_cons_succ, List.filterMap_cons, List.filterMap_nil, List.all_cons, List.all_nil, Bool.and_true, Bool.true_and, Bool.not_true, Bool.not_false, Bool.not_eq_true, Bool.false_eq_true, Bool.and_self, if_true, if_false, true_and, and_true, ↓reduceIte, eqD, neD, sh_int, eqv_int, eqv_strs, sDraw, List.length_cons, List.length_nil, Nat.zero_add, Nat.reduceAdd])
      | false => exact hf2 _ e (by simp only [Q.addF, Q.enOf, Q.tV, Q.tK, Q.t2, Q.t1, Q.tB, Q.cI, Q.cIp, Q.addI, Q.subI, Q.mulI, Q.fdivI, Q.modI, Q.powI, Q.ltI, Q.leI, Q.gtI, Q.geI, Q.negI, Q.vAnd, Q.vOr, Q.vNot, Q.qAnd, Q.qOr, Q.qNot, Q.qIf, Q.chI, Q.tTupQ, Q.dNil, Q.dCons, Q.tLstQ, Q.tFz, Q.tCA, Q.lenD, Q.tupD, Q.isD, Q.isInt, Q.isBool, Q.isTup, Q.isStr, Q.isLst, Q.tLenN, Q.tIxN, Q.setQ, Q.aNil, Q.aD, Q.aK, Q.tCallQ, Q.tCallKQ, Q.pick, Q.sNil, Q.sSeq, Q.sRet, Q.sRetN, Q.sExpr, Q.sIf, Q.sSet, Q.sSetL, Q.sAsg, Q.sFor, Q.sPar2, Q.sPar3, Q.pNil, Q.pD, Q.pO, Q.pDn, Q.gN, Q.gT, Q.gsNil, Q.gsCons, Q.iQ, Q.itD, Q.iEn, Q.itE, Q.rg1, Q.rg2, Q.oNone, Q.oSome, Q.tSlQ, Q.revD, Q.tOwnM, Q.appC, Q.popC, Q.extC, Q.ownL, Q.tRepL, Q.repC, Q.sSetIx, Q.ixOwn, Q.tLcQ, Q.noOwn, Q.rstQ, Q.wipeQ, Q.sDn, Q.sSetD, Q.tDgetN, Q.dOwn, Q.tTupRg, Q.sNever, Q.isB, Q.listD, Q.listC, Q.reprD, Q.Sl.isOwn, List.map_cons, List.map_nil, List.replicate_succ, List.replicate_zero, List.cons_append, List.nil_append, List.append_nil, List.getElem?_cons_zero, List.getElem?_cons_succ, List.set_cons_zero, List.set_cons_succ, List.getD_cons_zero, List.getD_cons_succ, List.filterMap_cons, List.filterMap_nil, List.all_cons, List.all_nil, Bool.and_true, Bool.true_and, Bool.not_true, Bool.not_false, Bool.not_eq_true, Bool.false_eq_true, Bool.and_self, if_true, if_false, true_and, and_true, ↓reduceIte, eqD, neD, sh_int, eqv_int, eqv_strs, sDraw, List.length_cons, List.length_nil, Nat.zero_add, Nat.reduceAdd])
    · try simp only [Q.addF, Q.enOf, Q.tV, Q.tK, Q.t2, Q.t1, Q.tB, Q.cI, Q.cIp, Q.addI, Q.subI, Q.mulI, Q.fdivI, Q.modI, Q.powI, Q.ltI, Q.leI, Q.gtI, Q.geI, Q.negI, Q.vAnd, Q.vOr, Q.vNot, Q.qAnd, Q.qOr, Q.qNot, Q.qIf, Q.chI, Q.tTupQ, Q.dNil, Q.dCons, Q.tLstQ, Q.tFz, Q.tCA, Q.lenD, Q.tupD, Q.isD, Q.isInt, Q.isBool, Q.isTup, Q.isStr, Q.isLst, Q.tLenN, Q.tIxN, Q.setQ, Q.aNil, Q.aD, Q.aK, Q.tCallQ, Q.tCallKQ, Q.pick, Q.sNil, Q.sSeq, Q.sRet, Q.sRetN, Q.sExpr, Q.sIf, Q.sSet, Q.sSetL, Q.sAsg, Q.sFor, Q.sPar2, Q.sPar3, Q.pNil, Q.pD, Q.pO, Q.pDn, Q.gN, Q.gT, Q.gsNil, Q.gsCons, Q.iQ, Q.itD, Q.iEn, Q.itE, Q.rg1, Q.rg2, Q.oNone, Q.oSome, Q.tSlQ, Q.revD, Q.tOwnM, Q.appC, Q.popC, Q.extC, Q.ownL, Q.tRepL, Q.repC, Q.sSetIx, Q.ixOwn, Q.tLcQ, Q.noOwn, Q.rstQ, Q.wipeQ, Q.sDn, Q.sSetD, Q.tDgetN, Q.dOwn, Q.tTupRg, Q.sNever, Q.isB, Q.listD, Q.listC, Q.reprD, Q.Sl.isOwn, List.map_cons, List.map_nil, List.replicate_succ, List.replicate_zero, List.cons_append, List.nil_append, List.append_nil, List.getElem?_cons_zero, List.getElem?_cons_succ, List.set_cons_zero, List.set_cons_succ, List.getD_cons_zero, List.getD_cons_succ, List.filterMap_cons, List.filterMap_nil, List.all_cons, List.all_nil, Bool.and_true, Bool.true_and, Bool.not_true, Bool.not_false, Bool.not_eq_true, Bool.false_eq_true, Bool.and_self, if_true, if_false, true_and, and_true, ↓reduceIte, eqD, neD, sh_int, eqv_int, eqv_strs, sDraw, List.length_cons, List.length_nil, Nat.zero_add, Nat.reduceAdd]
      have e : ((row n).map PyData.int).filter (atK places a) = (fib places n a).map .int := by rw [List.filter_map]; rfl
      rw [e, List.map_id']
      exact hk _ (by simp only [Q.addF, Q.enOf, Q.tV, Q.tK, Q.t2, Q.t1, Q.tB, Q.cI, Q.cIp, Q.addI, Q.subI, Q.mulI, Q.fdivI, Q.modI, Q.powI, Q.ltI, Q.leI, Q.gtI, Q.geI, Q.negI, Q.vAnd, Q.vOr, Q.vNot, Q.qAnd, Q.qOr, Q.qNot, Q.qIf, Q.chI, Q.tTupQ, Q.dNil, Q.dCons, Q.tLstQ, Q.tFz, Q.tCA, Q.lenD, Q.tupD, Q.isD, Q.isInt, Q.isBool, Q.isTup, Q.isStr, Q.isLst, Q.tLenN, Q.tIxN, Q.setQ, Q.aNil, Q.aD, Q.aK, Q.tCallQ, Q.tCallKQ, Q.pick, Q.sNil, Q.sSeq, Q.sRet, Q.sRetN, Q.sExpr, Q.sIf, Q.sSet, Q.sSetL, Q.sAsg, Q.sFor, Q.sPar2, Q.sPar3, Q.pNil, Q.pD, Q.pO, Q.pDn, Q.gN, Q.gT, Q.gsNil, Q.gsCons, Q.iQ, Q.itD, Q.iEn, Q.itE, Q.rg1, Q.rg2, Q.oNone, Q.oSome, Q.tSlQ, Q.revD, Q.tOwnM, Q.appC, Q.popC, Q.extC, Q.ownL, Q.tRepL, Q.repC, Q.sSetIx, Q.ixOwn, Q.tLcQ, Q.noOwn, Q.rstQ, Q.wipeQ, Q.sDn, Q.sSetD, Q.tDgetN, Q.dOwn, Q.tTupRg, Q.sNever, Q.isB, Q.listD, Q.listC, Q.reprD, Q.Sl.isOwn, List.map_cons, List.map_nil, List.replicate_succ, List.replicate_zero, List.cons_append, List.nil_append, List.append_nil, List.getElem?_cons_zero, List.getElem?_cons_succ, List.set_cons_zero, List.set_cons_succ, List.getD_cons_zero, List.getD_cons_succ, List.filterMap_cons, List.filterMap_nil, List.all_cons, List.all_nil, Bool.and_true, Bool.true_and, Bool.not_true, Bool.not_false, Bool.not_eq_true, Bool.false_eq_true, Bool.and_self, if_true, if_false, true_and, and_true, ↓reduceIte, eqD, neD, sh_int, eqv_int, eqv_strs, sDraw, List.length_cons, List.length_nil, Nat.zero_add, Nat.reduceAdd])
  · try simp only [Q.addF, Q.enOf, Q.tV, Q.tK, Q.t2, Q.t1, Q.tB, Q.cI, Q.cIp, Q.addI, Q.subI, Q.mulI, Q.fdivI, Q.modI, Q.powI, Q.ltI, Q.leI, Q.gtI, Q.geI, Q.negI, Q.vAnd, Q.vOr, Q.vNot, Q.qAnd, Q.qOr, Q.qNot, Q.qIf, Q.chI, Q.tTupQ, Q.dNil, Q.dCons, Q.tLstQ, Q.tFz, Q.tCA, Q.lenD, Q.tupD, Q.isD, Q.isInt, Q.isBool, Q.isTup, Q.isStr, Q.isLst, Q.tLenN, Q.tIxN, Q.setQ, Q.aNil, Q.aD, Q.aK, Q.tCallQ, Q.tCallKQ, Q.pick, Q.sNil, Q.sSeq, Q.sRet, Q.sRetN, Q.sExpr, Q.sIf, Q.sSet, Q.sSetL, Q.sAsg, Q.sFor, Q.sPar2, Q.sPar3, Q.pNil, Q.pD, Q.pO, Q.pDn, Q.gN, Q.gT, Q.gsNil, Q.gsCons, Q.iQ, Q.itD, Q.iEn, Q.itE, Q.rg1, Q.rg2, Q.oNone, Q.oSome, Q.tSlQ, Q.revD, Q.tOwnM, Q.appC, Q.popC, Q.extC, Q.ownL, Q.tRepL, Q.repC, Q.sSetIx, Q.ixOwn, Q.tLcQ, Q.noOwn, Q.rstQ, Q.wipeQ, Q.sDn, Q.sSetD, Q.tDgetN, Q.dOwn, Q.tTupRg, Q.sNever, Q.isB, Q.listD, Q.listC, Q.reprD, Q.Sl.isOwn, List.map_cons, List.map_nil, List.replicate_succ, List.replicate_zero, List.cons_append, List.nil_append, List.append_nil, List.getElem?_cons_zero, List.getElem?_cons_succ, List.set_cons_zero, List.set_cons_succ, List.getD_cons_zero, List.getD_cons_succ, List.filterMap_cons, List.filterMap_nil, List.all_cons, List.all_nil, Bool.and_true, Bool.true_and, Bool.not_true, Bool.not_false, Bool.not_eq_true, Bool.false_eq_true, Bool.and_self, if_true, if_false, true_and, and_true, ↓reduceIte, eqD, neD, sh_int, eqv_int, eqv_strs, sDraw, List.length_cons, List.length_nil, Nat.zero_add, Nat.reduceAdd]
    refine ⟨by decide, [1, -1], rfl, by simp, by simp, fun sg0 hs0 => ?_⟩
    try simp only [Q.addF, Q.enOf, Q.tV, Q.tK, Q.t2, Q.t1, Q.tB, Q.cI, Q.cIp, Q.addI, Q.subI, Q.mulI, Q.fdivI, Q.modI, Q.powI, Q.ltI, Q.leI, Q.gtI, Q.geI, Q.negI, Q.vAnd, Q.vOr, Q.vNot, Q.qAnd, Q.qOr, Q.qNot, Q.qIf, Q.chI, Q.tTupQ, Q.dNil, Q.dCons, Q.tLstQ, Q.tFz, Q.tCA, Q.lenD, Q.tupD, Q.isD, Q.isInt, Q.isBool, Q.isTup, Q.isStr, Q.isLst, Q.tLenN, Q.tIxN, Q.setQ, Q.aNil, Q.aD, Q.aK, Q.tCallQ, Q.tCallKQ, Q.pick, Q.sNil, Q.sSeq, Q.sRet, Q.sRetN, Q.sExpr, Q.sIf, Q.sSet, Q.sSetL, Q.sAsg, Q.sFor, Q.sPar2, Q.sPar3, Q.pNil, Q.pD, Q.pO, Q.pDn, Q.gN, Q.gT, Q.gsNil, Q.gsCons, Q.iQ, Q.itD, Q.iEn, Q.itE, Q.rg1, Q.rg2, Q.oNone, Q.oSome, Q.tSlQ, Q.revD, Q.tOwnM, Q.appC, Q.popC, Q.extC, Q.ownL, Q.tRepL, Q.repC, Q.sSetIx, Q.ixOwn, Q.tLcQ, Q.noOwn, Q.rstQ, Q.wipeQ, Q.sDn, Q.sSetD, Q.tDgetN, Q.dOwn, Q.tTupRg, Q.sNever, Q.isB, Q.listD, Q.listC, Q.reprD, Q.Sl.isOwn, List.map_cons, List.map_nil, List.replicate_succ, List.replicate_zero, List.cons_append, List.nil_append, List.append_nil, List.getElem?_cons_zero, List.getElem?_cons_succ, List.set_cons_zero, List.set_cons_succ, List.getD_cons_zero, List.getD_cons_succ, List.filterMap_cons, List.filterMap_nil, List.all_cons, List.all_nil, Bool.and_true, Bool.true_and, Bool.not_true, Bool.not_false, Bool.not_eq_true, Bool.false_eq_true, Bool.and_self, if_true, if_false, true_and, and_true, ↓reduceIte, eqD, neD, sh_int, eqv_int, eqv_strs, sDraw, List.length_cons, List.length_nil, Nat.zero_add, Nat.reduceAdd]
    have el : ((row (m.toNat + 1)).map PyData.int).map (fibD places n) = ((row (m.toNat + 1)).map (fib places n)).map tupI := by simp [fibD, Function.comp_def]
    rw [el]
    refine comp_ifAny neT (fun x y => ∃ sg : Int, (sg = 1 ∨ sg = -1) ∧ y = .tuple [x, .int sg]) (fun x hx Rk Rf hk hf => ?_) fun outs ho => ?_
    · obtain ⟨l, hl2, rfl⟩ := List.mem_map.mp hx
      simp only [tupI, Q.addF, Q.enOf, Q.tV, Q.tK, Q.t2, Q.t1, Q.tB, Q.cI, Q.cIp, Q.addI, Q.subI, Q.mulI, Q.fdivI, Q.modI, Q.powI, Q.ltI, Q.leI, Q.gtI, Q.geI, Q.negI, Q.vAnd, Q.vOr, Q.vNot, Q.qAnd, Q.qOr, Q.qNot, Q.qIf, Q.chI, Q.tTupQ, Q.dNil, Q.dCons, Q.tLstQ, Q.tFz, Q.tCA, Q.lenD, Q.tupD, Q.isD, Q.isInt, Q.isBool, Q.isTup, Q.isStr, Q.isLst, Q.tLenN, Q.tIxN, Q.setQ, Q.aNil, Q.aD, Q.aK, Q.tCallQ, Q.tCallKQ, Q.pick, Q.sNil, Q.sSeq, Q.sRet, Q.sRetN, Q.sExpr, Q.sIf, Q.sSet, Q.sSetL, Q.sAsg, Q.sFor, Q.sPar2, Q.sPar3, Q.pNil, Q.pD, Q.pO, Q.pDn, Q.gN, Q.gT, Q.gsNil, Q.gsCons, Q.iQ, Q.itD, Q.iEn, Q.itE, Q.rg1, Q.rg2, Q.oNone, Q.oSome, Q.tSlQ, Q.revD, Q.tOwnM, Q.appC, Q.popC, Q.extC, Q.ownL, Q.tRepL, Q.repC, Q.sSetIx, Q.ixOwn, Q.tLcQ, Q.noOwn, Q.rstQ, Q.wipeQ, Q.sDn, Q.sSetD, Q.tDgetN, Q.dOwn, Q.tTupRg, Q.sNever, Q.isB, Q.listD, Q.listC, Q.reprD, Q.Sl.isOwn, List.map_cons, List.map_nil, List.replicate_succ, List.replicate_zero, List.cons_append, List.nil_append, List.append_nil, List.getElem?_cons_zero, List.getElem?_cons_succ, List.set_cons_zero, List.set_cons_succ, List.getD_cons_zero, List.getD_cons_succ, List.filterMap_cons, List.filterMap_nil, List.all_cons, List.all_nil, Bool.and_true, Bool.true_and, Bool.not_true, Bool.not_false, Bool.not_eq_true, Bool.false_eq_true, Bool.and_self, if_true, if_false, true_and, and_true, ↓reduceIte, eqD, neD, sh_int, eqv_int, eqv_strs, sDraw, List.length_cons, List.length_nil, Nat.zero_add, Nat.reduceAdd, eqv_nil]
      refine ⟨by decide, sh_tupI, by exact sh_tupI (ns := []), ?_⟩
      cases e : l.isEmpty with
      | true => exact hf _ (by simp [neT, e]) (by simp only [Q.addF, Q.enOf, Q.tV, Q.tK, Q.t2, Q.t1, Q.tB, Q.cI, Q.cIp, Q.addI, Q.subI, Q.mulI, Q.fdivI, Q.modI, Q.powI, Q.ltI, Q.leI, Q.gtI, Q.geI, Q.negI, Q.vAnd, Q.vOr, Q.vNot, Q.qAnd, Q.qOr, Q.qNot, Q.qIf, Q.chI, Q.tTupQ, Q.dNil, Q.dCons, Q.tLstQ, Q.tFz, Q.tCA, Q.lenD, Q.tupD, Q.isD, Q.isInt, Q.isBool, Q.isTup, Q.isStr, Q.isLst, Q.tLenN, Q.tIxN, Q.setQ, Q.aNil, Q.aD, Q.aK, Q.tCallQ, Q.tCallKQ, Q.pick, Q.sNil, Q.sSeq, Q.sRet, Q.sRetN, Q.sExpr, Q.sIf, Q.sSet, Q.sSetL, Q.sAsg, Q.sFor, Q.sPar2, Q.sPar3, Q.pNil, Q.pD, Q.pO, Q.pDn, Q.gN, Q.gT, Q.gsNil, Q.gsCons, Q.iQ, Q.itD, Q.iEn, Q.itE, Q.rg1, Q.rg2, Q.oNone, Q.oSome, Q.tSlQ, Q.revD, Q.tOwnM, Q.appC, Q.popC, Q.extC, Q.ownL, Q.tRepL, Q.repC, Q.sSetIx, Q.ixOwn, Q.tLcQ, Q.noOwn, Q.rstQ, Q.wipeQ, Q.sDn, Q.sSetD, Q.tDgetN, Q.dOwn, Q.tTupRg, Q.sNever, Q.isB, Q.listD, Q.listC, Q.reprD, Q.Sl.isOwn, List.map_cons, List.map_nil, List.replicate_succ, List.replicate_zero, List.cons_append, List.nil_append, List.append_nil, List.getElem?_cons_zero, List.getElem?_cons_succ, List.set_cons_zero, List.set_cons_succ, List.getD_cons_zero, List.getD_cons_succ, List.filterMap_cons, List.filterMap_nil, List.all_cons, List.all_nil, Bool.and_true, Bool.true_and, Bool.not_true, Bool.not_false, Bool.not_eq_true, Bool.false_eq_true, Bool.and_self, if_true, if_false, true_and, and_true, ↓reduceIte, eqD, neD, sh_int, eqv_int, eqv_strs, sDraw, List.length_cons, List.length_nil, Nat.zero_add, Nat.reduceAdd])
      | false =>
        have e1 : neT (tupI l) = true := by simp [neT, e]
        try simp only [Q.addF, Q.enOf, Q.tV, Q.tK, Q.t2, Q.t1, Q.tB, Q.cI, Q.cIp, Q.addI, Q.subI, Q.mulI, Q.fdivI, Q.modI, Q.powI, Q.ltI, Q.leI, Q.gtI, Q.geI, Q.negI, Q.vAnd, Q.vOr, Q.vNot, Q.qAnd, Q.qOr, Q.qNot, Q.qIf, Q.chI, Q.tTupQ, Q.dNil, Q.dCons, Q.tLstQ, Q.tFz, Q.tCA, Q.lenD, Q.tupD, Q.isD, Q.isInt, Q.isBool, Q.isTup, Q.isStr, Q.isLst, Q.tLenN, Q.tIxN, Q.setQ, Q.aNil, Q.aD, Q.aK, Q.tCallQ, Q.tCallKQ, Q.pick, Q.sNil, Q.sSeq, Q.sRet, Q.sRetN, Q.sExpr, Q.sIf, Q.sSet, Q.sSetL, Q.sAsg, Q.sFor, Q.sPar2, Q.sPar3, Q.pNil, Q.pD, Q.pO, Q.pDn, Q.gN, Q.gT, Q.gsNil, Q.gsCons, Q.iQ, Q.itD, Q.iEn, Q.itE, Q.rg1, Q.rg2, Q.oNone, Q.oSome, Q.tSlQ, Q.revD, Q.tOwnM, Q.appC, Q.popC, Q.extC, Q.ownL, Q.tRepL, Q.repC, Q.sSetIx, Q.ixOwn, Q.tLcQ, Q.noOwn, Q.rstQ, Q.wipeQ, Q.sDn, Q.sSetD, Q.tDgetN, Q.dOwn, Q.tTupRg, Q.sNever, Q.isB, Q.listD, Q.listC, Q.reprD, Q.Sl.isOwn, List.map_cons, List.map_nil, List.replicate_succ, List.replicate_zero, List.cons_append, List.nil_append, List.append_nil, List.getElem?_cons_zero, List.getElem?_cons_succ, List.set_cons_zero, List.set_cons_succ, List.getD_cons_zero, List.getD_cons_succ, List.filterMap_cons, List.filterMap_nil, List.all_cons, List.all_nil, Bool.and_true, Bool.true_and, Bool.not_true, Bool.not_false, Bool.not_eq_true, Bool.false_eq_true, Bool.and_self, if_true, if_false, true_and, and_true, ↓reduceIte, eqD, neD, sh_int, eqv_int, eqv_strs, sDraw, List.length_cons, List.length_nil, Nat.zero_add, Nat.reduceAdd]
        cases e2 : decide (w = 2) with
        | true =>
          try simp only [Q.addF, Q.enOf, Q.tV, Q.tK, Q.t2, Q.t1, Q.tB, Q.cI, Q.cIp, Q.addI, Q.subI, Q.mulI, Q.fdivI, Q.modI, Q.powI, Q.ltI, Q.leI, Q.gtI, Q.geI, Q.negI, Q.vAnd, Q.vOr, Q.vNot, Q.qAnd, Q.qOr, Q.qNot, Q.qIf, Q.chI, Q.tTupQ, Q.dNil, Q.dCons, Q.tLstQ, Q.tFz, Q.tCA, Q.lenD, Q.tupD, Q.isD, Q.isInt, Q.isBool, Q.isTup, Q.isStr, Q.isLst, Q.tLenN, Q.tIxN, Q.setQ, Q.aNil, Q.aD, Q.aK, Q.tCallQ, Q.tCallKQ, Q.pick, Q.sNil, Q.sSeq, Q.sRet, Q.sRetN, Q.sExpr, Q.sIf, Q.sSet, Q.sSetL, Q.sAsg, Q.sFor, Q.sPar2, Q.sPar3, Q.pNil, Q.pD, Q.pO, Q.pDn, Q.gN, Q.gT, Q.gsNil, Q.gsCons, Q.iQ, Q.itD, Q.iEn, Q.itE, Q.rg1, Q.rg2, Q.oNone, Q.oSome, Q.tSlQ, Q.revD, Q.tOwnM, Q.appC, Q.popC, Q.extC, Q.ownL, Q.tRepL, Q.repC, Q.sSetIx, Q.ixOwn, Q.tLcQ, Q.noOwn, Q.rstQ, Q.wipeQ, Q.sDn, Q.sSetD, Q.tDgetN, Q.dOwn, Q.tTupRg, Q.sNever, Q.isB, Q.listD, Q.listC, Q.reprD, Q.Sl.isOwn, List.map_cons, List.map_nil, List.replicate_succ, List.replicate_zero, List.cons_append, List.nil_append, List.append_nil, List.getElem?_cons_zero, List.getElem?_cons_succ, List.set_cons_zero, List.set_cons_succ, List.getD_cons_zero, List.getD_cons_succ, List.filterMap_cons, List.filterMap_nil, List.all_cons, List.all_nil, Bool.and_true, Bool.true_and, Bool.not_true, Bool.not_false, Bool.not_eq_true, Bool.false_eq_true, Bool.and_self, if_true, if_false, true_and, and_true, ↓reduceIte, eqD, neD, sh_int, eqv_int, eqv_strs, sDraw, List.length_cons, List.length_nil, Nat.zero_add, Nat.reduceAdd]
          exact ⟨by decide, hk _ _ e1 ⟨sg0, pick_sgn hs0, rfl⟩ (by simp only [Q.addF, Q.enOf, Q.tV, Q.tK, Q.t2, Q.t1, Q.tB, Q.cI, Q.cIp, Q.addI, Q.subI, Q.mulI, Q.fdivI, Q.modI, Q.powI, Q.ltI, Q.leI, Q.gtI, Q.geI, Q.negI, Q.vAnd, Q.vOr, Q.vNot, Q.qAnd, Q.qOr, Q.qNot, Q.qIf, Q.chI, Q.tTupQ, Q.dNil, Q.dCons, Q.tLstQ, Q.tFz, Q.tCA, Q.lenD, Q.tupD, Q.isD, Q.isInt, Q.isBool, Q.isTup, Q.isStr, Q.isLst, Q.tLenN, Q.tIxN, Q.setQ, Q.aNil, Q.aD, Q.aK, Q.tCallQ, Q.tCallKQ, Q.pick, Q.sNil, Q.sSeq, Q.sRet, Q.sRetN, Q.sExpr, Q.sIf, Q.sSet, Q.sSetL, Q.sAsg, Q.sFor, Q.sPar2, Q.sPar3, Q.pNil, Q.pD, Q.pO, Q.pDn, Q.gN, Q.gT, Q.gsNil, Q.gsCons, Q.iQ, Q.itD, Q.iEn, Q.itE, Q.rg1, Q.rg2, Q.oNone, Q.oSome, Q.tSlQ, Q.revD, Q.tOwnM, Q.appC, Q.popC, Q.extC, Q.ownL, Q.tRepL, Q.repC, Q.sSetIx, Q.ixOwn, Q.tLcQ, Q.noOwn, Q.rstQ, Q.wipeQ, Q.sDn, Q.sSetD, Q.tDgetN, Q.dOwn, Q.tTupRg, Q.sNever, Q.isB, Q.listD, Q.listC, Q.reprD, Q.Sl.isOwn, List.map_cons, List.map_nil, List.replicate_succ, List.replicate_zero, List.cons_append, List.nil_append, List.append_nil, List.getElem?_cons_zero, List.getElem?_cons_succ, List.set_cons_zero, List.set_cons_succ, List.getD_cons_zero, List.getD_cons_succ, List.filterMap_cons, List.filterMap_nil, List.all_cons, List.all_nil, Bool.and_true, Bool.true_and, Bool.not_true, Bool.not_false, Bool.not_eq_true, Bool.false_eq_true, Bool.and_self, if_true, if_false, true_and, and_true, ↓reduceIte, eqD, neD, sh_int, eqv_int, eqv_strs, sDraw, List.length_cons, List.length_nil, Nat.zero_add, Nat.reduceAdd])⟩
        | false =>
          try simp only [Q.addF, Q.enOf, Q.tV, Q.tK, Q.t2, Q.t1, Q.tB, Q.cI, Q.cIp, Q.addI, Q.subI, Q.mulI, Q.fdivI, Q.modI, Q.powI, Q.ltI, Q.leI, Q.gtI, Q.geI, Q.negI, Q.vAnd, Q.vOr, Q.vNot, Q.qAnd, Q.qOr, Q.qNot, Q.qIf, Q.chI, Q.tTupQ, Q.dNil, Q.dCons, Q.tLstQ, Q.tFz, Q.tCA, Q.lenD, Q.tupD, Q.isD, Q.isInt, Q.isBool, Q.isTup, Q.isStr, Q.isLst, Q.tLenN, Q.tIxN, Q.setQ, Q.aNil, Q.aD, Q.aK, Q.tCallQ, Q.tCallKQ, Q.pick, Q.sNil, Q.sSeq, Q.sRet, Q.sRetN, Q.sExpr, Q.sIf, Q.sSet, Q.sSetL, Q.sAsg, Q.sFor, Q.sPar2, Q.sPar3, Q.pNil, Q.pD, Q.pO, Q.pDn, Q.gN, Q.gT, Q.gsNil, Q.gsCons, Q.iQ, Q.itD, Q.iEn, Q.itE, Q.rg1, Q.rg2, Q.oNone, Q.oSome, Q.tSlQ, Q.revD, Q.tOwnM, Q.appC, Q.popC, Q.extC, Q.ownL, Q.tRepL, Q.repC, Q.sSetIx, Q.ixOwn, Q.tLcQ, Q.noOwn, Q.rstQ, Q.wipeQ, Q.sDn, Q.sSetD, Q.tDgetN, Q.dOwn, Q.tTupRg, Q.sNever, Q.isB, Q.listD, Q.listC, Q.reprD, Q.Sl.isOwn, List.map_cons, List.map_nil, List.replicate_succ, List.replicate_zero, List.cons_append, List.nil_append, List.append_nil, List.getElem?_cons_zero, List.getElem?_cons_succ, List.set_cons_zero, List.set_cons_succ, List.getD_cons_zero, List.getD_cons_succ, List.filterMap_cons, List.filterMap_nil, List.all_cons, List.all_nil, Bool.and_true, Bool.true_and, Bool.not_true, Bool.not_false, Bool.not_eq_true, Bool.false_eq_true, Bool.and_self, if_true, if_false, true_and, and_true, ↓reduceIte, eqD, neD, sh_int, eqv_int, eqv_strs, sDraw, List.length_cons, List.length_nil, Nat.zero_add, Nat.reduceAdd]
          refine ⟨by decide, [1, -1], rfl, by simp, by simp, fun sg hs => ?_⟩
          exact ⟨by decide, hk _ _ e1 ⟨sg, pick_sgn hs, rfl⟩ (by simp only [Q.addF, Q.enOf, Q.tV, Q.tK, Q.t2, Q.t1, Q.tB, Q.cI, Q.cIp, Q.addI, Q.subI, Q.mulI, Q.fdivI, Q.modI, Q.powI, Q.ltI, Q.leI, Q.gtI, Q.geI, Q.negI, Q.vAnd, Q.vOr, Q.vNot, Q.qAnd, Q.qOr, Q.qNot, Q.qIf, Q.chI, Q.tTupQ, Q.dNil, Q.dCons, Q.tLstQ, Q.tFz, Q.tCA, Q.lenD, Q.tupD, Q.isD, Q.isInt, Q.isBool, Q.isTup, Q.isStr, Q.isLst, Q.tLenN, Q.tIxN, Q.setQ, Q.aNil, Q.aD, Q.aK, Q.tCallQ, Q.tCallKQ, Q.pick, Q.sNil, Q.sSeq, Q.sRet, Q.sRetN, Q.sExpr, Q.sIf, Q.sSet, Q.sSetL, Q.sAsg, Q.sFor, Q.sPar2, Q.sPar3, Q.pNil, Q.pD, Q.pO, Q.pDn, Q.gN, Q.gT, Q.gsNil, Q.gsCons, Q.iQ, Q.itD, Q.iEn, Q.itE, Q.rg1, Q.rg2, Q.oNone, Q.oSome, Q.tSlQ, Q.revD, Q.tOwnM, Q.appC, Q.popC, Q.extC, Q.ownL, Q.tRepL, Q.repC, Q.sSetIx, Q.ixOwn, Q.tLcQ, Q.noOwn, Q.rstQ, Q.wipeQ, Q.sDn, Q.sSetD, Q.tDgetN, Q.dOwn, Q.tTupRg, Q.sNever, Q.isB, Q.listD, Q.listC, Q.reprD, Q.Sl.isOwn, List.map_cons, List.map_nil, List.replicate_succ, List.replicate_zero, List.cons_append, List.nil_append, List.append_nil, List.getElem?_cons_zero, List.getElem?_cons_succ, List.set_cons_zero, List.set_cons_succ, List.getD_cons_zero, List.getD_cons_succ, List.filterMap_cons, List.filterMap_nil, List.all_cons, List.all_nil, Bool.and_true, Bool.true_and, Bool.not_true, Bool.not_false, Bool.not_eq_true, Bool.false_eq_true, Bool.and_self, if_true, if_false, true_and, and_true, ↓reduceIte, eqD, neD, sh_int, eqv_int, eqv_strs, sDraw, List.length_cons, List.length_nil, Nat.zero_add, Nat.reduceAdd])⟩
    · try simp only [Q.addF, Q.enOf, Q.tV, Q.tK, Q.t2, Q.t1, Q.tB, Q.cI, Q.cIp, Q.addI, Q.subI, Q.mulI, Q.fdivI, Q.modI, Q.powI, Q.ltI, Q.leI, Q.gtI, Q.geI, Q.negI, Q.vAnd, Q.vOr, Q.vNot, Q.qAnd, Q.qOr, Q.qNot, Q.qIf, Q.chI, Q.tTupQ, Q.dNil, Q.dCons, Q.tLstQ, Q.tFz, Q.tCA, Q.lenD, Q.tupD, Q.isD, Q.isInt, Q.isBool, Q.isTup, Q.isStr, Q.isLst, Q.tLenN, Q.tIxN, Q.setQ, Q.aNil, Q.aD, Q.aK, Q.tCallQ, Q.tCallKQ, Q.pick, Q.sNil, Q.sSeq, Q.sRet, Q.sRetN, Q.sExpr, Q.sIf, Q.sSet, Q.sSetL, Q.sAsg, Q.sFor, Q.sPar2, Q.sPar3, Q.pNil, Q.pD, Q.pO, Q.pDn, Q.gN, Q.gT, Q.gsNil, Q.gsCons, Q.iQ, Q.itD, Q.iEn, Q.itE, Q.rg1, Q.rg2, Q.oNone, Q.oSome, Q.tSlQ, Q.revD, Q.tOwnM, Q.appC, Q.popC, Q.extC, Q.ownL, Q.tRepL, Q.repC, Q.sSetIx, Q.ixOwn, Q.tLcQ, Q.noOwn, Q.rstQ, Q.wipeQ, Q.sDn, Q.sSetD, Q.tDgetN, Q.dOwn, Q.tTupRg, Q.sNever, Q.isB, Q.listD, Q.listC, Q.reprD, Q.Sl.isOwn, List.map_cons, List.map_nil, List.replicate_succ, List.replicate_zero, List.cons_append, List.nil_append, List.append_nil, List.getElem?_cons_zero, List.getElem?_cons_succ, List.set_cons_zero, List.set_cons_succ, List.getD_cons_zero, List.getD_cons_succ, List.filterMap_cons, List.filterMap_nil, List.all_cons, List.all_nil, Bool.and_true, Bool.true_and, Bool.not_true, Bool.not_false, Bool.not_eq_true, Bool.false_eq_true, Bool.and_self, if_true, if_false, true_and, and_true, ↓reduceIte, eqD, neD, sh_int, eqv_int, eqv_strs, sDraw, List.length_cons, List.length_nil, Nat.zero_add, Nat.reduceAdd]
      have ef : (((row (m.toNat + 1)).map (fib places n)).map tupI).filter neT = (lotsOf places n (m.toNat + 1)).map tupI := by
        rw [List.filter_map]
        unfold lotsOf
        congr 1
        refine List.filter_congr fun l _ => ?_
        cases l <;> rfl
      rw [ef] at ho
      obtain ⟨th, rfl, h1, h2⟩ := signs ho
      obtain ⟨t1, t2⟩ := throw_made hn hn8 (fun k hk => by
        have hk2 := mem_row.mp hk
        have hk3 : k.toNat < places.length := by omega
        have e : places.getD k.toNat 0 = places[k.toNat] := by simp [List.getD_eq_getElem?_getD, hk3]
        have hmem := List.getElem_mem hk3
        have := hm2 _ hmem
        have := hb _ hmem
        rw [e]
        omega) h1 h2
      exact h th t1 t2
theorem rd_tl1 {R : PyData → Prop} {n : Nat} {w mm : Int} (hn : 1 ≤ n) (hn8 : n ≤ 8) (hm1 : 1 ≤ mm) (hm2 : mm ≤ n) (h : ∀ th : Thr, ThrowOk th → (kinds th).length = n → R (thrD th)) :
    tl1_throw sDraw sp__law_order sp__law_pick { nx := fun _ => R .none, rt := R } [.dk, .d (.int n), .d (.int w), .d (.int mm), .un, .un, .un, .un, .un, .un] := by
  show (sSeq _ (tl2_throw sp__law_pick)) _ _
  try simp only [Q.addF, Q.enOf, Q.tV, Q.tK, Q.t2, Q.t1, Q.tB, Q.cI, Q.cIp, Q.addI, Q.subI, Q.mulI, Q.fdivI, Q.modI, Q.powI, Q.ltI, Q.leI, Q.gtI, Q.geI, Q.negI, Q.vAnd, Q.vOr, Q.vNot, Q.qAnd, Q.qOr, Q.qNot, Q.qIf, Q.chI, Q.tTupQ, Q.dNil, Q.dCons, Q.tLstQ, Q.tFz, Q.tCA, Q.lenD, Q.tupD, Q.isD, Q.isInt, Q.isBool, Q.isTup, Q.isStr, Q.isLst, Q.tLenN, Q.tIxN, Q.setQ, Q.aNil, Q.aD, Q.aK, Q.tCallQ, Q.tCallKQ, Q.pick, Q.sNil, Q.sSeq, Q.sRet, Q.sRetN, Q.sExpr, Q.sIf, Q.sSet, Q.sSetL, Q.sAsg, Q.sFor, Q.sPar2, Q.sPar3, Q.pNil, Q.pD, Q.pO, Q.pDn, Q.gN, Q.gT, Q.gsNil, Q.gsCons, Q.iQ, Q.itD, Q.iEn, Q.itE, Q.rg1, Q.rg2, Q.oNone, Q.oSome, Q.tSlQ, Q.revD, Q.tOwnM, Q.appC, Q.popC, Q.extC, Q.ownL, Q.tRepL, Q.repC, Q.sSetIx, Q.ixOwn, Q.tLcQ, Q.noOwn, Q.rstQ, Q.wipeQ, Q.sDn, Q.sSetD, Q.tDgetN, Q.dOwn, Q.tTupRg, Q.sNever, Q.isB, Q.listD, Q.listC, Q.reprD, Q.Sl.isOwn, List.map_cons, List.map_nil, List.replicate_succ, List.replicate_zero, List.cons_append, List.nil_append, List.append_nil, List.getElem?_cons_zero, List.getElem?_cons_succ, List.set_cons_zero, List.set_cons_succ, List.getD_cons_zero, List.getD_cons_succ, List.filterMap_cons, List.filterMap_nil, List.all_cons, List.all_nil, Bool.and_true, Bool.true_and, Bool.not_true, Bool.not_false, Bool.not_eq_true, Bool.false_eq_true, Bool.and_self, if_true, if_false, true_and, and_true, ↓reduceIte, eqD, neD, sh_int, eqv_int, eqv_strs, sDraw, List.length_cons, List.length_nil, Nat.zero_add, Nat.reduceAdd]
  cases e : decide (w = 1) with
  | true =>
    try simp only [Q.addF, Q.enOf, Q.tV, Q.tK, Q.t2, Q.t1, Q.tB, Q.cI, Q.cIp, Q.addI, Q.subI, Q.mulI, Q.fdivI, Q.modI, Q.powI, Q.ltI, Q.leI, Q.gtI, Q.geI, Q.negI, Q.vAnd, Q.vOr, Q.vNot, Q.qAnd, Q.qOr, Q.qNot, Q.qIf, Q.chI, Q.tTupQ, Q.dNil, Q.dCons, Q.tLstQ, Q.tFz, Q.tCA, Q.lenD, Q.tupD, Q.isD, Q.isInt, Q.isBool, Q.isTup, Q.isStr, Q.isLst, Q.tLenN, Q.tIxN, Q.setQ, Q.aNil, Q.aD, Q.aK, Q.tCallQ, Q.tCallKQ, Q.pick, Q.sNil, Q.sSeq, Q.sRet, Q.sRetN, Q.sExpr, Q.sIf, Q.sSet, Q.sSetL, Q.sAsg, Q.sFor, Q.sPar2, Q.sPar3, Q.pNil, Q.pD, Q.pO, Q.pDn, Q.gN, Q.gT, Q.gsNil, Q.gsCons, Q.iQ, Q.itD, Q.iEn, Q.itE, Q.rg1, Q.rg2, Q.oNone, Q.oSome, Q.tSlQ, Q.revD, Q.tOwnM, Q.appC, Q.popC, Q.extC, Q.ownL, Q.tRepL, Q.repC, Q.sSetIx, Q.ixOwn, Q.tLcQ, Q.noOwn, Q.rstQ, Q.wipeQ, Q.sDn, Q.sSetD, Q.tDgetN, Q.dOwn, Q.tTupRg, Q.sNever, Q.isB, Q.listD, Q.listC, Q.reprD, Q.Sl.isOwn, List.map_cons, List.map_nil, List.replicate_succ, List.replicate_zero, List.cons_append, List.nil_append, List.append_nil, List.getElem?_cons_zero, List.getElem?_cons_succ, List.set_cons_zero, List.set_cons_succ, List.getD_cons_zero, List.getD_cons_succ, List.filterMap_cons, List.filterMap_nil, List.all_cons, List.all_nil, Bool.and_true, Bool.true_and, Bool.not_true, Bool.not_false, Bool.not_eq_true, Bool.false_eq_true, Bool.and_self, if_true, if_false, true_and, and_true, ↓reduceIte, eqD, neD, sh_int, eqv_int, eqv_strs, sDraw, List.length_cons, List.length_nil, Nat.zero_add, Nat.reduceAdd]
    refine ⟨n, rfl, by omega, fun o ho => ?_⟩
    simp only [tupI, Q.addF, Q.enOf, Q.tV, Q.tK, Q.t2, Q.t1, Q.tB, Q.cI, Q.cIp, Q.addI, Q.subI, Q.mulI, Q.fdivI, Q.modI, Q.powI, Q.ltI, Q.leI, Q.gtI, Q.geI, Q.negI, Q.vAnd, Q.vOr, Q.vNot, Q.qAnd, Q.qOr, Q.qNot, Q.qIf, Q.chI, Q.tTupQ, Q.dNil, Q.dCons, Q.tLstQ, Q.tFz, Q.tCA, Q.lenD, Q.tupD, Q.isD, Q.isInt, Q.isBool, Q.isTup, Q.isStr, Q.isLst, Q.tLenN, Q.tIxN, Q.setQ, Q.aNil, Q.aD, Q.aK, Q.tCallQ, Q.tCallKQ, Q.pick, Q.sNil, Q.sSeq, Q.sRet, Q.sRetN, Q.sExpr, Q.sIf, Q.sSet, Q.sSetL, Q.sAsg, Q.sFor, Q.sPar2, Q.sPar3, Q.pNil, Q.pD, Q.pO, Q.pDn, Q.gN, Q.gT, Q.gsNil, Q.gsCons, Q.iQ, Q.itD, Q.iEn, Q.itE, Q.rg1, Q.rg2, Q.oNone, Q.oSome, Q.tSlQ, Q.revD, Q.tOwnM, Q.appC, Q.popC, Q.extC, Q.ownL, Q.tRepL, Q.repC, Q.sSetIx, Q.ixOwn, Q.tLcQ, Q.noOwn, Q.rstQ, Q.wipeQ, Q.sDn, Q.sSetD, Q.tDgetN, Q.dOwn, Q.tTupRg, Q.sNever, Q.isB, Q.listD, Q.listC, Q.reprD, Q.Sl.isOwn, List.map_cons, List.map_nil, List.replicate_succ, List.replicate_zero, List.cons_append, List.nil_append, List.append_nil, List.getElem?_cons_zero, List.getElem?_cons_succ, List.set_cons_zero, List.set_cons_succ, List.getD_cons_zero, List.getD_cons_succ, List.filterMap_cons, List.filterMap_nil, List.all_cons, List.all_nil, Bool.and_true, Bool.true_and, Bool.not_true, Bool.not_false, Bool.not_eq_true, Bool.false_eq_true, Bool.and_self, if_true, if_false, true_and, and_true, ↓reduceIte, eqD, neD, sh_int, eqv_int, eqv_strs, sDraw, List.length_cons, List.length_nil, Nat.zero_add, Nat.reduceAdd]
    exact rd_tl2 hn hn8 ho.length (fun p hp => ho.mem hp) h
  | false =>
    try simp only [Q.addF, Q.enOf, Q.tV, Q.tK, Q.t2, Q.t1, Q.tB, Q.cI, Q.cIp, Q.addI, Q.subI, Q.mulI, Q.fdivI, Q.modI, Q.powI, Q.ltI, Q.leI, Q.gtI, Q.geI, Q.negI, Q.vAnd, Q.vOr, Q.vNot, Q.qAnd, Q.qOr, Q.qNot, Q.qIf, Q.chI, Q.tTupQ, Q.dNil, Q.dCons, Q.tLstQ, Q.tFz, Q.tCA, Q.lenD, Q.tupD, Q.isD, Q.isInt, Q.isBool, Q.isTup, Q.isStr, Q.isLst, Q.tLenN, Q.tIxN, Q.setQ, Q.aNil, Q.aD, Q.aK, Q.tCallQ, Q.tCallKQ, Q.pick, Q.sNil, Q.sSeq, Q.sRet, Q.sRetN, Q.sExpr, Q.sIf, Q.sSet, Q.sSetL, Q.sAsg, Q.sFor, Q.sPar2, Q.sPar3, Q.pNil, Q.pD, Q.pO, Q.pDn, Q.gN, Q.gT, Q.gsNil, Q.gsCons, Q.iQ, Q.itD, Q.iEn, Q.itE, Q.rg1, Q.rg2, Q.oNone, Q.oSome, Q.tSlQ, Q.revD, Q.tOwnM, Q.appC, Q.popC, Q.extC, Q.ownL, Q.tRepL, Q.repC, Q.sSetIx, Q.ixOwn, Q.tLcQ, Q.noOwn, Q.rstQ, Q.wipeQ, Q.sDn, Q.sSetD, Q.tDgetN, Q.dOwn, Q.tTupRg, Q.sNever, Q.isB, Q.listD, Q.listC, Q.reprD, Q.Sl.isOwn, List.map_cons, List.map_nil, List.replicate_succ, List.replicate_zero, List.cons_append, List.nil_append, List.append_nil, List.getElem?_cons_zero, List.getElem?_cons_succ, List.set_cons_zero, List.set_cons_succ, List.getD_cons_zero, List.getD_cons_succ, List.filterMap_cons, List.filterMap_nil, List.all_cons, List.all_nil, Bool.and_true, Bool.true_and, Bool.not_true, Bool.not_false, Bool.not_eq_true, Bool.false_eq_true, Bool.and_self, if_true, if_false, true_and, and_true, ↓reduceIte, eqD, neD, sh_int, eqv_int, eqv_strs, sDraw, List.length_cons, List.length_nil, Nat.zero_add, Nat.reduceAdd]
    refine ⟨by omega, by omega, ?_⟩
    refine comp_any (fun _ y => ∃ i : Int, y = .int i ∧ (0 ≤ i ∧ i < n)) (fun x hx Rk hk => ?_) fun outs ho => ?_
    · try simp only [Q.addF, Q.enOf, Q.tV, Q.tK, Q.t2, Q.t1, Q.tB, Q.cI, Q.cIp, Q.addI, Q.subI, Q.mulI, Q.fdivI, Q.modI, Q.powI, Q.ltI, Q.leI, Q.gtI, Q.geI, Q.negI, Q.vAnd, Q.vOr, Q.vNot, Q.qAnd, Q.qOr, Q.qNot, Q.qIf, Q.chI, Q.tTupQ, Q.dNil, Q.dCons, Q.tLstQ, Q.tFz, Q.tCA, Q.lenD, Q.tupD, Q.isD, Q.isInt, Q.isBool, Q.isTup, Q.isStr, Q.isLst, Q.tLenN, Q.tIxN, Q.setQ, Q.aNil, Q.aD, Q.aK, Q.tCallQ, Q.tCallKQ, Q.pick, Q.sNil, Q.sSeq, Q.sRet, Q.sRetN, Q.sExpr, Q.sIf, Q.sSet, Q.sSetL, Q.sAsg, Q.sFor, Q.sPar2, Q.sPar3, Q.pNil, Q.pD, Q.pO, Q.pDn, Q.gN, Q.gT, Q.gsNil, Q.gsCons, Q.iQ, Q.itD, Q.iEn, Q.itE, Q.rg1, Q.rg2, Q.oNone, Q.oSome, Q.tSlQ, Q.revD, Q.tOwnM, Q.appC, Q.popC, Q.extC, Q.ownL, Q.tRepL, Q.repC, Q.sSetIx, Q.ixOwn, Q.tLcQ, Q.noOwn, Q.rstQ, Q.wipeQ, Q.sDn, Q.sSetD, Q.tDgetN, Q.dOwn, Q.tTupRg, Q.sNever, Q.isB, Q.listD, Q.listC, Q.reprD, Q.Sl.isOwn, List.map_cons, List.map_nil, List.replicate_succ, List.replicate_zero, List.cons_append, List.nil_append, List.append_nil, List.getElem?_cons_zero, List.getElem?_cons_succ, List.set_cons_zero, List.set_cons_succ, List.getD_cons_zero, List.getD_cons_succ, List.filterMap_cons, List.filterMap_nil, List.all_cons, List.all_nil, Bool.and_true, Bool.true_and, Bool.not_true, Bool.not_false, Bool.not_eq_true, Bool.false_eq_true, Bool.and_self, if_true, if_false, true_and, and_true, ↓reduceIte, eqD, neD, sh_int, eqv_int, eqv_strs, sDraw, List.length_cons, List.length_nil, Nat.zero_add, Nat.reduceAdd]
      exact ⟨by omega, by omega, fun z hz1 hz2 => hk _ _ ⟨z, rfl, hz1, by omega⟩ (by simp only [Q.addF, Q.enOf, Q.tV, Q.tK, Q.t2, Q.t1, Q.tB, Q.cI, Q.cIp, Q.addI, Q.subI, Q.mulI, Q.fdivI, Q.modI, Q.powI, Q.ltI, Q.leI, Q.gtI, Q.geI, Q.negI, Q.vAnd, Q.vOr, Q.vNot, Q.qAnd, Q.qOr, Q.qNot, Q.qIf, Q.chI, Q.tTupQ, Q.dNil, Q.dCons, Q.tLstQ, Q.tFz, Q.tCA, Q.lenD, Q.tupD, Q.isD, Q.isInt, Q.isBool, Q.isTup, Q.isStr, Q.isLst, Q.tLenN, Q.tIxN, Q.setQ, Q.aNil, Q.aD, Q.aK, Q.tCallQ, Q.tCallKQ, Q.pick, Q.sNil, Q.sSeq, Q.sRet, Q.sRetN, Q.sExpr, Q.sIf, Q.sSet, Q.sSetL, Q.sAsg, Q.sFor, Q.sPar2, Q.sPar3, Q.pNil, Q.pD, Q.pO, Q.pDn, Q.gN, Q.gT, Q.gsNil, Q.gsCons, Q.iQ, Q.itD, Q.iEn, Q.itE, Q.rg1, Q.rg2, Q.oNone, Q.oSome, Q.tSlQ, Q.revD, Q.tOwnM, Q.appC, Q.popC, Q.extC, Q.ownL, Q.tRepL, Q.repC, Q.sSetIx, Q.ixOwn, Q.tLcQ, Q.noOwn, Q.rstQ, Q.wipeQ, Q.sDn, Q.sSetD, Q.tDgetN, Q.dOwn, Q.tTupRg, Q.sNever, Q.isB, Q.listD, Q.listC, Q.reprD, Q.Sl.isOwn, List.map_cons, List.map_nil, List.replicate_succ, List.replicate_zero, List.cons_append, List.nil_append, List.append_nil, List.getElem?_cons_zero, List.getElem?_cons_succ, List.set_cons_zero, List.set_cons_succ, List.getD_cons_zero, List.getD_cons_succ, List.filterMap_cons, List.filterMap_nil, List.all_cons, List.all_nil, Bool.and_true, Bool.true_and, Bool.not_true, Bool.not_false, Bool.not_eq_true, Bool.false_eq_true, Bool.and_self, if_true, if_false, true_and, and_true, ↓reduceIte, eqD, neD, sh_int, eqv_int, eqv_strs, sDraw, List.length_cons, List.length_nil, Nat.zero_add, Nat.reduceAdd])⟩
    · obtain ⟨ns, rfl, hl, hp⟩ := F2.ints ho
      rw [rg_length] at hl
      try simp only [Q.addF, Q.enOf, Q.tV, Q.tK, Q.t2, Q.t1, Q.tB, Q.cI, Q.cIp, Q.addI, Q.subI, Q.mulI, Q.fdivI, Q.modI, Q.powI, Q.ltI, Q.leI, Q.gtI, Q.geI, Q.negI, Q.vAnd, Q.vOr, Q.vNot, Q.qAnd, Q.qOr, Q.qNot, Q.qIf, Q.chI, Q.tTupQ, Q.dNil, Q.dCons, Q.tLstQ, Q.tFz, Q.tCA, Q.lenD, Q.tupD, Q.isD, Q.isInt, Q.isBool, Q.isTup, Q.isStr, Q.isLst, Q.tLenN, Q.tIxN, Q.setQ, Q.aNil, Q.aD, Q.aK, Q.tCallQ, Q.tCallKQ, Q.pick, Q.sNil, Q.sSeq, Q.sRet, Q.sRetN, Q.sExpr, Q.sIf, Q.sSet, Q.sSetL, Q.sAsg, Q.sFor, Q.sPar2, Q.sPar3, Q.pNil, Q.pD, Q.pO, Q.pDn, Q.gN, Q.gT, Q.gsNil, Q.gsCons, Q.iQ, Q.itD, Q.iEn, Q.itE, Q.rg1, Q.rg2, Q.oNone, Q.oSome, Q.tSlQ, Q.revD, Q.tOwnM, Q.appC, Q.popC, Q.extC, Q.ownL, Q.tRepL, Q.repC, Q.sSetIx, Q.ixOwn, Q.tLcQ, Q.noOwn, Q.rstQ, Q.wipeQ, Q.sDn, Q.sSetD, Q.tDgetN, Q.dOwn, Q.tTupRg, Q.sNever, Q.isB, Q.listD, Q.listC, Q.reprD, Q.Sl.isOwn, List.map_cons, List.map_nil, List.replicate_succ, List.replicate_zero, List.cons_append, List.nil_append, List.append_nil, List.getElem?_cons_zero, List.getElem?_cons_succ, List.set_cons_zero, List.set_cons_succ, List.getD_cons_zero, List.getD_cons_succ, List.filterMap_cons, List.filterMap_nil, List.all_cons, List.all_nil, Bool.and_true, Bool.true_and, Bool.not_true, Bool.not_false, Bool.not_eq_true, Bool.false_eq_true, Bool.and_self, if_true, if_false, true_and, and_true, ↓reduceIte, eqD, neD, sh_int, eqv_int, eqv_strs, sDraw, List.length_cons, List.length_nil, Nat.zero_add, Nat.reduceAdd]
      exact rd_tl2 hn hn8 (by omega) hp h
def sp__law_throw : PSpec := fun as R => ∃ n : Nat, as = [.dk, .d (.int n)] ∧ 1 ≤ n ∧ n ≤ 8 ∧ ∀ th : Thr, ThrowOk th → (kinds th).length = n → R (thrD th)
theorem len__law_throw : ∀ as R, sp__law_throw as R → as.length = 2 := by rintro as R ⟨n, rfl, _⟩; rfl
theorem rd__law_throw : ∀ as R, sp__law_throw as R → t__law_throw sDraw sp__law_order sp__law_pick { nx := fun _ => R .none, rt := R } (enOf as 8) := by
  rintro as R ⟨n, rfl, hn, hn8, h⟩
  show (sSeq _ (sSeq _ (tl1_throw sDraw sp__law_order sp__law_pick))) _ _
  try simp only [Q.addF, Q.enOf, Q.tV, Q.tK, Q.t2, Q.t1, Q.tB, Q.cI, Q.cIp, Q.addI, Q.subI, Q.mulI, Q.fdivI, Q.modI, Q.powI, Q.ltI, Q.leI, Q.gtI, Q.geI, Q.negI, Q.vAnd, Q.vOr, Q.vNot, Q.qAnd, Q.qOr, Q.qNot, Q.qIf, Q.chI, Q.tTupQ, Q.dNil, Q.dCons, Q.tLstQ, Q.tFz, Q.tCA, Q.lenD, Q.tupD, Q.isD, Q.isInt, Q.isBool, Q.isTup, Q.isStr, Q.isLst, Q.tLenN, Q.tIxN, Q.setQ, Q.aNil, Q.aD, Q.aK, Q.tCallQ, Q.tCallKQ, Q.pick, Q.sNil, Q.sSeq, Q.sRet, Q.sRetN, Q.sExpr, Q.sIf, Q.sSet, Q.sSetL, Q.sAsg, Q.sFor, Q.sPar2, Q.sPar3, Q.pNil, Q.pD, Q.pO, Q.pDn, Q.gN, Q.gT, Q.gsNil, Q.gsCons, Q.iQ, Q.itD, Q.iEn, Q.itE, Q.rg1, Q.rg2, Q.oNone, Q.oSome, Q.tSlQ, Q.revD, Q.tOwnM, Q.appC, Q.popC, Q.extC, Q.ownL, Q.tRepL, Q.repC, Q.sSetIx, Q.ixOwn, Q.tLcQ, Q.noOwn, Q.rstQ, Q.wipeQ, Q.sDn, Q.sSetD, Q.tDgetN, Q.dOwn, Q.tTupRg, Q.sNever, Q.isB, Q.listD, Q.listC, Q.reprD, Q.Sl.isOwn, List.map_cons, List.map_nil, List.replicate_succ, List.replicate_zero, List.cons_append, List.nil_append, List.append_nil, List.getElem?_cons_zero, List.getElem?_cons_succ, List.set_cons_zero, List.set_cons_succ, List.getD_cons_zero, List.getD_cons_succ, List.filterMap_cons, List.filterMap_nil, List.all_cons, List.all_nil, Bool.and_true, Bool.true_and, Bool.not_true, Bool.not_false, Bool.not_eq_true, Bool.false_eq_true, Bool.and_self, if_true, if_false, true_and, and_true, ↓reduceIte, eqD, neD, sh_int, eqv_int, eqv_strs, sDraw, List.length_cons, List.length_nil, Nat.zero_add, Nat.reduceAdd]
  refine ⟨by omega, by omega, fun w hw1 hw2 => ⟨by omega, by omega, fun r hr1 hr2 => ⟨by decide, ?_⟩⟩⟩
  cases e : decide (w = 0) with
  | true =>
    try simp only [Q.addF, Q.enOf, Q.tV, Q.tK, Q.t2, Q.t1, Q.tB, Q.cI, Q.cIp, Q.addI, Q.subI, Q.mulI, Q.fdivI, Q.modI, Q.powI, Q.ltI, Q.leI, Q.gtI, Q.geI, Q.negI, Q.vAnd, Q.vOr, Q.vNot, Q.qAnd, Q.qOr, Q.qNot, Q.qIf, Q.chI, Q.tTupQ, Q.dNil, Q.dCons, Q.tLstQ, Q.tFz, Q.tCA, Q.lenD, Q.tupD, Q.isD, Q.isInt, Q.isBool, Q.isTup, Q.isStr, Q.isLst, Q.tLenN, Q.tIxN, Q.setQ, Q.aNil, Q.aD, Q.aK, Q.tCallQ, Q.tCallKQ, Q.pick, Q.sNil, Q.sSeq, Q.sRet, Q.sRetN, Q.sExpr, Q.sIf, Q.sSet, Q.sSetL, Q.sAsg, Q.sFor, Q.sPar2, Q.sPar3, Q.pNil, Q.pD, Q.pO, Q.pDn, Q.gN, Q.gT, Q.gsNil, Q.gsCons, Q.iQ, Q.itD, Q.iEn, Q.itE, Q.rg1, Q.rg2, Q.oNone, Q.oSome, Q.tSlQ, Q.revD, Q.tOwnM, Q.appC, Q.popC, Q.extC, Q.ownL, Q.tRepL, Q.repC, Q.sSetIx, Q.ixOwn, Q.tLcQ, Q.noOwn, Q.rstQ, Q.wipeQ, Q.sDn, Q.sSetD, Q.tDgetN, Q.dOwn, Q.tTupRg, Q.sNever, Q.isB, Q.listD, Q.listC, Q.reprD, Q.Sl.isOwn, List.map_cons, List.map_nil, List.replicate_succ, List.replicate_zero, List.cons_append, List.nil_append, List.append_nil, List.getElem?_cons_zero, List.getElem?_cons_succ, List.set_cons_zero, List.set_cons_succ, List.getD_cons_zero, List.getD_cons_succ, List.filterMap_cons, List.filterMap_nil, List.all_cons, List.all_nil, Bool.and_true, Bool.true_and, Bool.not_true, Bool.not_false, Bool.not_eq_true, Bool.false_eq_true, Bool.and_self, if_true, if_false, true_and, and_true, ↓reduceIte, eqD, neD, sh_int, eqv_int, eqv_strs, sDraw, List.length_cons, List.length_nil, Nat.zero_add, Nat.reduceAdd]
    exact rd_tl1 hn hn8 (by omega) (by omega) h
  | false =>
    try simp only [Q.addF, Q.enOf, Q.tV, Q.tK, Q.t2, Q.t1, Q.tB, Q.cI, Q.cIp, Q.addI, Q.subI, Q.mulI, Q.fdivI, Q.modI, Q.powI, Q.ltI, Q.leI, Q.gtI, Q.geI, Q.negI, Q.vAnd, Q.vOr, Q.vNot, Q.qAnd, Q.qOr, Q.qNot, Q.qIf, Q.chI, Q.tTupQ, Q.dNil, Q.dCons, Q.tLstQ, Q.tFz, Q.tCA, Q.lenD, Q.tupD, Q.isD, Q.isInt, Q.isBool, Q.isTup, Q.isStr, Q.isLst, Q.tLenN, Q.tIxN, Q.setQ, Q.aNil, Q.aD, Q.aK, Q.tCallQ, Q.tCallKQ, Q.pick, Q.sNil, Q.sSeq, Q.sRet, Q.sRetN, Q.sExpr, Q.sIf, Q.sSet, Q.sSetL, Q.sAsg, Q.sFor, Q.sPar2, Q.sPar3, Q.pNil, Q.pD, Q.pO, Q.pDn, Q.gN, Q.gT, Q.gsNil, Q.gsCons, Q.iQ, Q.itD, Q.iEn, Q.itE, Q.rg1, Q.rg2, Q.oNone, Q.oSome, Q.tSlQ, Q.revD, Q.tOwnM, Q.appC, Q.popC, Q.extC, Q.ownL, Q.tRepL, Q.repC, Q.sSetIx, Q.ixOwn, Q.tLcQ, Q.noOwn, Q.rstQ, Q.wipeQ, Q.sDn, Q.sSetD, Q.tDgetN, Q.dOwn, Q.tTupRg, Q.sNever, Q.isB, Q.listD, Q.listC, Q.reprD, Q.Sl.isOwn, List.map_cons, List.map_nil, List.replicate_succ, List.replicate_zero, List.cons_append, List.nil_append, List.append_nil, List.getElem?_cons_zero, List.getElem?_cons_succ, List.set_cons_zero, List.set_cons_succ, List.getD_cons_zero, List.getD_cons_succ, List.filterMap_cons, List.filterMap_nil, List.all_cons, List.all_nil, Bool.and_true, Bool.true_and, Bool.not_true, Bool.not_false, Bool.not_eq_true, Bool.false_eq_true, Bool.and_self, if_true, if_false, true_and, and_true, ↓reduceIte, eqD, neD, sh_int, eqv_int, eqv_strs, sDraw, List.length_cons, List.length_nil, Nat.zero_add, Nat.reduceAdd]
    exact rd_tl1 hn hn8 (by omega) (by omega) h
/-! ### the law's own laying -/
def sp__law_laid : PSpec := sp_raw_laid
theorem len__law_laid : ∀ as R, sp__law_laid as R → as.length = 2 := len_raw_laid
theorem rd__law_laid : ∀ as R, sp__law_laid as R → t__law_laid { nx := fun _ => R .none, rt := R } (enOf as 1) := rd_raw_laid
def sp__law_together : PSpec := sp_raw_laid
theorem len__law_together : ∀ as R, sp__law_together as R → as.length = 2 := len_raw_laid
theorem rd__law_together : ∀ as R, sp__law_together as R → t__law_together { nx := fun _ => R .none, rt := R } (enOf as 3) := by
  rintro as R ⟨d, o, rfl, h1, h⟩
  simp only [t__law_together, tupI, Q.addF, Q.enOf, Q.tV, Q.tK, Q.t2, Q.t1, Q.tB, Q.cI, Q.cIp, Q.addI, Q.subI, Q.mulI, Q.fdivI, Q.modI, Q.powI, Q.ltI, Q.leI, Q.gtI, Q.geI, Q.negI, Q.vAnd, Q.vOr, Q.vNot, Q.qAnd, Q.qOr, Q.qNot, Q.qIf, Q.chI, Q.tTupQ, Q.dNil, Q.dCons, Q.tLstQ, Q.tFz, Q.tCA, Q.lenD, Q.tupD, Q.isD, Q.isInt, Q.isBool, Q.isTup, Q.isStr, Q.isLst, Q.tLenN, Q.tIxN, Q.setQ, Q.aNil, Q.aD, Q.aK, Q.tCallQ, Q.tCallKQ, Q.pick, Q.sNil, Q.sSeq, Q.sRet, Q.sRetN, Q.sExpr, Q.sIf, Q.sSet, Q.sSetL, Q.sAsg, Q.sFor, Q.sPar2, Q.sPar3, Q.pNil, Q.pD, Q.pO, Q.pDn, Q.gN, Q.gT, Q.gsNil, Q.gsCons, Q.iQ, Q.itD, Q.iEn, Q.itE, Q.rg1, Q.rg2, Q.oNone, Q.oSome, Q.tSlQ, Q.revD, Q.tOwnM, Q.appC, Q.popC, Q.extC, Q.ownL, Q.tRepL, Q.repC, Q.sSetIx, Q.ixOwn, Q.tLcQ, Q.noOwn, Q.rstQ, Q.wipeQ, Q.sDn, Q.sSetD, Q.tDgetN, Q.dOwn, Q.tTupRg, Q.sNever, Q.isB, Q.listD, Q.listC, Q.reprD, Q.Sl.isOwn, List.map_cons, List.map_nil, List.replicate_succ, List.replicate_zero, List.cons_append, List.nil_append, List.append_nil, List.getElem?_cons_zero, List.getElem?_cons_succ, List.set_cons_zero, List.set_cons_succ, List.getD_cons_zero, List.getD_cons_succ, List.filterMap_cons, List.filterMap_nil, List.all_cons, List.all_nil, Bool.and_true, Bool.true_and, Bool.not_true, Bool.not_false, Bool.not_eq_true, Bool.false_eq_true, Bool.and_self, if_true, if_false, true_and, and_true, ↓reduceIte, eqD, neD, sh_int, eqv_int, eqv_strs, sDraw, List.length_cons, List.length_nil, Nat.zero_add, Nat.reduceAdd]
  refine comp_map (fun y => y) (fun x hx Rk hk => hk _ (by simp only [Q.addF, Q.enOf, Q.tV, Q.tK, Q.t2, Q.t1, Q.tB, Q.cI, Q.cIp, Q.addI, Q.subI, Q.mulI, Q.fdivI, Q.modI, Q.powI, Q.ltI, Q.leI, Q.gtI, Q.geI, Q.negI, Q.vAnd, Q.vOr, Q.vNot, Q.qAnd, Q.qOr, Q.qNot, Q.qIf, Q.chI, Q.tTupQ, Q.dNil, Q.dCons, Q.tLstQ, Q.tFz, Q.tCA, Q.lenD, Q.tupD, Q.isD, Q.isInt, Q.isBool, Q.isTup, Q.isStr, Q.isLst, Q.tLenN, Q.tIxN, Q.setQ, Q.aNil, Q.aD, Q.aK, Q.tCallQ, Q.tCallKQ, Q.pick, Q.sNil, Q.sSeq, Q.sRet, Q.sRetN, Q.sExpr, Q.sIf, Q.sSet, Q.sSetL, Q.sAsg, Q.sFor, Q.sPar2, Q.sPar3, Q.pNil, Q.pD, Q.pO, Q.pDn, Q.gN, Q.gT, Q.gsNil, Q.gsCons, Q.iQ, Q.itD, Q.iEn, Q.itE, Q.rg1, Q.rg2, Q.oNone, Q.oSome, Q.tSlQ, Q.revD, Q.tOwnM, Q.appC, Q.popC, Q.extC, Q.ownL, Q.tRepL, Q.repC, Q.sSetIx, Q.ixOwn, Q.tLcQ, Q.noOwn, Q.rstQ, Q.wipeQ, Q.sDn, Q.sSetD, Q.tDgetN, Q.dOwn, Q.tTupRg, Q.sNever, Q.isB, Q.listD, Q.listC, Q.reprD, Q.Sl.isOwn, List.map_cons, List.map_nil, List.replicate_succ, List.replicate_zero, List.cons_append, List.nil_append, List.append_nil, List.getElem?_cons_zero, List.getElem?_cons_succ, List.set_cons_zero, List.set_cons_succ, List.getD_cons_zero, List.getD_cons_succ, List.filterMap_cons, List.filterMap_nil, List.all_cons, List.all_nil, Bool.and_true, Bool.true_and, Bool.not_true, Bool.not_false, Bool.not_eq_true, Bool.false_eq_true, Bool.and_self, if_true, if_false, true_and, and_true, ↓reduceIte, eqD, neD, sh_int, eqv_int, eqv_strs, sDraw, List.length_cons, List.length_nil, Nat.zero_add, Nat.reduceAdd])) ?_
  simp only [List.map_id', Q.addF, Q.enOf, Q.tV, Q.tK, Q.t2, Q.t1, Q.tB, Q.cI, Q.cIp, Q.addI, Q.subI, Q.mulI, Q.fdivI, Q.modI, Q.powI, Q.ltI, Q.leI, Q.gtI, Q.geI, Q.negI, Q.vAnd, Q.vOr, Q.vNot, Q.qAnd, Q.qOr, Q.qNot, Q.qIf, Q.chI, Q.tTupQ, Q.dNil, Q.dCons, Q.tLstQ, Q.tFz, Q.tCA, Q.lenD, Q.tupD, Q.isD, Q.isInt, Q.isBool, Q.isTup, Q.isStr, Q.isLst, Q.tLenN, Q.tIxN, Q.setQ, Q.aNil, Q.aD, Q.aK, Q.tCallQ, Q.tCallKQ, Q.pick, Q.sNil, Q.sSeq, Q.sRet, Q.sRetN, Q.sExpr, Q.sIf, Q.sSet, Q.sSetL, Q.sAsg, Q.sFor, Q.sPar2, Q.sPar3, Q.pNil, Q.pD, Q.pO, Q.pDn, Q.gN, Q.gT, Q.gsNil, Q.gsCons, Q.iQ, Q.itD, Q.iEn, Q.itE, Q.rg1, Q.rg2, Q.oNone, Q.oSome, Q.tSlQ, Q.revD, Q.tOwnM, Q.appC, Q.popC, Q.extC, Q.ownL, Q.tRepL, Q.repC, Q.sSetIx, Q.ixOwn, Q.tLcQ, Q.noOwn, Q.rstQ, Q.wipeQ, Q.sDn, Q.sSetD, Q.tDgetN, Q.dOwn, Q.tTupRg, Q.sNever, Q.isB, Q.listD, Q.listC, Q.reprD, Q.Sl.isOwn, List.map_cons, List.map_nil, List.replicate_succ, List.replicate_zero, List.cons_append, List.nil_append, List.append_nil, List.getElem?_cons_zero, List.getElem?_cons_succ, List.set_cons_zero, List.set_cons_succ, List.getD_cons_zero, List.getD_cons_succ, List.filterMap_cons, List.filterMap_nil, List.all_cons, List.all_nil, Bool.and_true, Bool.true_and, Bool.not_true, Bool.not_false, Bool.not_eq_true, Bool.false_eq_true, Bool.and_self, if_true, if_false, true_and, and_true, ↓reduceIte, eqD, neD, sh_int, eqv_int, eqv_strs, sDraw, List.length_cons, List.length_nil, Nat.zero_add, Nat.reduceAdd]
  refine comp_map (fun y => match y with | .int c => .int (d.getD c.toNat 0) | _ => .none) (fun x hx Rk hk => ?_) ?_
  · obtain ⟨c, hc, rfl⟩ := List.mem_map.mp hx
    simp only [Q.addF, Q.enOf, Q.tV, Q.tK, Q.t2, Q.t1, Q.tB, Q.cI, Q.cIp, Q.addI, Q.subI, Q.mulI, Q.fdivI, Q.modI, Q.powI, Q.ltI, Q.leI, Q.gtI, Q.geI, Q.negI, Q.vAnd, Q.vOr, Q.vNot, Q.qAnd, Q.qOr, Q.qNot, Q.qIf, Q.chI, Q.tTupQ, Q.dNil, Q.dCons, Q.tLstQ, Q.tFz, Q.tCA, Q.lenD, Q.tupD, Q.isD, Q.isInt, Q.isBool, Q.isTup, Q.isStr, Q.isLst, Q.tLenN, Q.tIxN, Q.setQ, Q.aNil, Q.aD, Q.aK, Q.tCallQ, Q.tCallKQ, Q.pick, Q.sNil, Q.sSeq, Q.sRet, Q.sRetN, Q.sExpr, Q.sIf, Q.sSet, Q.sSetL, Q.sAsg, Q.sFor, Q.sPar2, Q.sPar3, Q.pNil, Q.pD, Q.pO, Q.pDn, Q.gN, Q.gT, Q.gsNil, Q.gsCons, Q.iQ, Q.itD, Q.iEn, Q.itE, Q.rg1, Q.rg2, Q.oNone, Q.oSome, Q.tSlQ, Q.revD, Q.tOwnM, Q.appC, Q.popC, Q.extC, Q.ownL, Q.tRepL, Q.repC, Q.sSetIx, Q.ixOwn, Q.tLcQ, Q.noOwn, Q.rstQ, Q.wipeQ, Q.sDn, Q.sSetD, Q.tDgetN, Q.dOwn, Q.tTupRg, Q.sNever, Q.isB, Q.listD, Q.listC, Q.reprD, Q.Sl.isOwn, List.map_cons, List.map_nil, List.replicate_succ, List.replicate_zero, List.cons_append, List.nil_append, List.append_nil, List.getElem?_cons_zero, List.getElem?_cons_succ, List.set_cons_zero, List.set_cons_succ, List.getD_cons_zero, List.getD_cons_succ, List.filterMap_cons, List.filterMap_nil, List.all_cons, List.all_nil, Bool.and_true, Bool.true_and, Bool.not_true, Bool.not_false, Bool.not_eq_true, Bool.false_eq_true, Bool.and_self, if_true, if_false, true_and, and_true, ↓reduceIte, eqD, neD, sh_int, eqv_int, eqv_strs, sDraw, List.length_cons, List.length_nil, Nat.zero_add, Nat.reduceAdd, ixD]
    exact ⟨_, at_int (h1 c hc).1 (h1 c hc).2, hk _ (by simp only [Q.addF, Q.enOf, Q.tV, Q.tK, Q.t2, Q.t1, Q.tB, Q.cI, Q.cIp, Q.addI, Q.subI, Q.mulI, Q.fdivI, Q.modI, Q.powI, Q.ltI, Q.leI, Q.gtI, Q.geI, Q.negI, Q.vAnd, Q.vOr, Q.vNot, Q.qAnd, Q.qOr, Q.qNot, Q.qIf, Q.chI, Q.tTupQ, Q.dNil, Q.dCons, Q.tLstQ, Q.tFz, Q.tCA, Q.lenD, Q.tupD, Q.isD, Q.isInt, Q.isBool, Q.isTup, Q.isStr, Q.isLst, Q.tLenN, Q.tIxN, Q.setQ, Q.aNil, Q.aD, Q.aK, Q.tCallQ, Q.tCallKQ, Q.pick, Q.sNil, Q.sSeq, Q.sRet, Q.sRetN, Q.sExpr, Q.sIf, Q.sSet, Q.sSetL, Q.sAsg, Q.sFor, Q.sPar2, Q.sPar3, Q.pNil, Q.pD, Q.pO, Q.pDn, Q.gN, Q.gT, Q.gsNil, Q.gsCons, Q.iQ, Q.itD, Q.iEn, Q.itE, Q.rg1, Q.rg2, Q.oNone, Q.oSome, Q.tSlQ, Q.revD, Q.tOwnM, Q.appC, Q.popC, Q.extC, Q.ownL, Q.tRepL, Q.repC, Q.sSetIx, Q.ixOwn, Q.tLcQ, Q.noOwn, Q.rstQ, Q.wipeQ, Q.sDn, Q.sSetD, Q.tDgetN, Q.dOwn, Q.tTupRg, Q.sNever, Q.isB, Q.listD, Q.listC, Q.reprD, Q.Sl.isOwn, List.map_cons, List.map_nil, List.replicate_succ, List.replicate_zero, List.cons_append, List.nil_append, List.append_nil, List.getElem?_cons_zero, List.getElem?_cons_succ, List.set_cons_zero, List.set_cons_succ, List.getD_cons_zero, List.getD_cons_succ, List.filterMap_cons, List.filterMap_nil, List.all_cons, List.all_nil, Bool.and_true, Bool.true_and, Bool.not_true, Bool.not_false, Bool.not_eq_true, Bool.false_eq_true, Bool.and_self, if_true, if_false, true_and, and_true, ↓reduceIte, eqD, neD, sh_int, eqv_int, eqv_strs, sDraw, List.length_cons, List.length_nil, Nat.zero_add, Nat.reduceAdd])⟩
  · simp only [Q.addF, Q.enOf, Q.tV, Q.tK, Q.t2, Q.t1, Q.tB, Q.cI, Q.cIp, Q.addI, Q.subI, Q.mulI, Q.fdivI, Q.modI, Q.powI, Q.ltI, Q.leI, Q.gtI, Q.geI, Q.negI, Q.vAnd, Q.vOr, Q.vNot, Q.qAnd, Q.qOr, Q.qNot, Q.qIf, Q.chI, Q.tTupQ, Q.dNil, Q.dCons, Q.tLstQ, Q.tFz, Q.tCA, Q.lenD, Q.tupD, Q.isD, Q.isInt, Q.isBool, Q.isTup, Q.isStr, Q.isLst, Q.tLenN, Q.tIxN, Q.setQ, Q.aNil, Q.aD, Q.aK, Q.tCallQ, Q.tCallKQ, Q.pick, Q.sNil, Q.sSeq, Q.sRet, Q.sRetN, Q.sExpr, Q.sIf, Q.sSet, Q.sSetL, Q.sAsg, Q.sFor, Q.sPar2, Q.sPar3, Q.pNil, Q.pD, Q.pO, Q.pDn, Q.gN, Q.gT, Q.gsNil, Q.gsCons, Q.iQ, Q.itD, Q.iEn, Q.itE, Q.rg1, Q.rg2, Q.oNone, Q.oSome, Q.tSlQ, Q.revD, Q.tOwnM, Q.appC, Q.popC, Q.extC, Q.ownL, Q.tRepL, Q.repC, Q.sSetIx, Q.ixOwn, Q.tLcQ, Q.noOwn, Q.rstQ, Q.wipeQ, Q.sDn, Q.sSetD, Q.tDgetN, Q.dOwn, Q.tTupRg, Q.sNever, Q.isB, Q.listD, Q.listC, Q.reprD, Q.Sl.isOwn, List.map_cons, List.map_nil, List.replicate_succ, List.replicate_zero, List.cons_append, List.nil_append, List.append_nil, List.getElem?_cons_zero, List.getElem?_cons_succ, List.set_cons_zero, List.set_cons_succ, List.getD_cons_zero, List.getD_cons_succ, List.filterMap_cons, List.filterMap_nil, List.all_cons, List.all_nil, Bool.and_true, Bool.true_and, Bool.not_true, Bool.not_false, Bool.not_eq_true, Bool.false_eq_true, Bool.and_self, if_true, if_false, true_and, and_true, ↓reduceIte, eqD, neD, sh_int, eqv_int, eqv_strs, sDraw, List.length_cons, List.length_nil, Nat.zero_add, Nat.reduceAdd, List.map_map]
    have : (o.map ((fun y : PyData => match y with | .int c => PyData.int (d.getD c.toNat 0) | _ => PyData.none) ∘ PyData.int)) = (laidL d o).map PyData.int := by simp [laidL, Function.comp_def]
    rw [this]
    exact h
def sp__law_undone : PSpec := sp_undone_order
theorem len__law_undone : ∀ as R, sp__law_undone as R → as.length = 1 := len_undone_order
theorem rd__law_undone : ∀ as R, sp__law_undone as R → t__law_undone { nx := fun _ => R .none, rt := R } (enOf as 3) := by
  rintro as R ⟨n, o, rfl, h1, h2, h⟩
  simp only [t__law_undone, tupI, Q.addF, Q.enOf, Q.tV, Q.tK, Q.t2, Q.t1, Q.tB, Q.cI, Q.cIp, Q.addI, Q.subI, Q.mulI, Q.fdivI, Q.modI, Q.powI, Q.ltI, Q.leI, Q.gtI, Q.geI, Q.negI, Q.vAnd, Q.vOr, Q.vNot, Q.qAnd, Q.qOr, Q.qNot, Q.qIf, Q.chI, Q.tTupQ, Q.dNil, Q.dCons, Q.tLstQ, Q.tFz, Q.tCA, Q.lenD, Q.tupD, Q.isD, Q.isInt, Q.isBool, Q.isTup, Q.isStr, Q.isLst, Q.tLenN, Q.tIxN, Q.setQ, Q.aNil, Q.aD, Q.aK, Q.tCallQ, Q.tCallKQ, Q.pick, Q.sNil, Q.sSeq, Q.sRet, Q.sRetN, Q.sExpr, Q.sIf, Q.sSet, Q.sSetL, Q.sAsg, Q.sFor, Q.sPar2, Q.sPar3, Q.pNil, Q.pD, Q.pO, Q.pDn, Q.gN, Q.gT, Q.gsNil, Q.gsCons, Q.iQ, Q.itD, Q.iEn, Q.itE, Q.rg1, Q.rg2, Q.oNone, Q.oSome, Q.tSlQ, Q.revD, Q.tOwnM, Q.appC, Q.popC, Q.extC, Q.ownL, Q.tRepL, Q.repC, Q.sSetIx, Q.ixOwn, Q.tLcQ, Q.noOwn, Q.rstQ, Q.wipeQ, Q.sDn, Q.sSetD, Q.tDgetN, Q.dOwn, Q.tTupRg, Q.sNever, Q.isB, Q.listD, Q.listC, Q.reprD, Q.Sl.isOwn, List.map_cons, List.map_nil, List.replicate_succ, List.replicate_zero, List.cons_append, List.nil_append, List.append_nil, List.getElem?_cons_zero, List.getElem?_cons_succ, List.set_cons_zero, List.set_cons_succ, List.getD_cons_zero, List.getD_cons_succ, List.filterMap_cons, List.filterMap_nil, List.all_cons, List.all_nil, Bool.and_true, Bool.true_and, Bool.not_true, Bool.not_false, Bool.not_eq_true, Bool.false_eq_true, Bool.and_self, if_true, if_false, true_and, and_true, ↓reduceIte, eqD, neD, sh_int, eqv_int, eqv_strs, sDraw, List.length_cons, List.length_nil, Nat.zero_add, Nat.reduceAdd, List.length_map, h1.length]
  refine ⟨by decide, by omega, by omega, by decide, ?_⟩
  have e : (List.replicate ((n : Nat) : Int).toNat [PyData.int 0]).flatten = (List.replicate o.length (0 : Int)).map .int := by
    rw [flat_rep, List.map_replicate, h1.length]; simp
  rw [e]
  refine loop_undo _ (.d (.tuple (o.map .int))) o 0 (List.replicate o.length 0) .un .un (fun c hc => by rw [List.length_replicate, h1.length]; exact h1.mem hc) fun s2 s3 => ?_
  try simp only [Q.addF, Q.enOf, Q.tV, Q.tK, Q.t2, Q.t1, Q.tB, Q.cI, Q.cIp, Q.addI, Q.subI, Q.mulI, Q.fdivI, Q.modI, Q.powI, Q.ltI, Q.leI, Q.gtI, Q.geI, Q.negI, Q.vAnd, Q.vOr, Q.vNot, Q.qAnd, Q.qOr, Q.qNot, Q.qIf, Q.chI, Q.tTupQ, Q.dNil, Q.dCons, Q.tLstQ, Q.tFz, Q.tCA, Q.lenD, Q.tupD, Q.isD, Q.isInt, Q.isBool, Q.isTup, Q.isStr, Q.isLst, Q.tLenN, Q.tIxN, Q.setQ, Q.aNil, Q.aD, Q.aK, Q.tCallQ, Q.tCallKQ, Q.pick, Q.sNil, Q.sSeq, Q.sRet, Q.sRetN, Q.sExpr, Q.sIf, Q.sSet, Q.sSetL, Q.sAsg, Q.sFor, Q.sPar2, Q.sPar3, Q.pNil, Q.pD, Q.pO, Q.pDn, Q.gN, Q.gT, Q.gsNil, Q.gsCons, Q.iQ, Q.itD, Q.iEn, Q.itE, Q.rg1, Q.rg2, Q.oNone, Q.oSome, Q.tSlQ, Q.revD, Q.tOwnM, Q.appC, Q.popC, Q.extC, Q.ownL, Q.tRepL, Q.repC, Q.sSetIx, Q.ixOwn, Q.tLcQ, Q.noOwn, Q.rstQ, Q.wipeQ, Q.sDn, Q.sSetD, Q.tDgetN, Q.dOwn, Q.tTupRg, Q.sNever, Q.isB, Q.listD, Q.listC, Q.reprD, Q.Sl.isOwn, List.map_cons, List.map_nil, List.replicate_succ, List.replicate_zero, List.cons_append, List.nil_append, List.append_nil, List.getElem?_cons_zero, List.getElem?_cons_succ, List.set_cons_zero, List.set_cons_succ, List.getD_cons_zero, List.getD_cons_succ, List.filterMap_cons, List.filterMap_nil, List.all_cons, List.all_nil, Bool.and_true, Bool.true_and, Bool.not_true, Bool.not_false, Bool.not_eq_true, Bool.false_eq_true, Bool.and_self, if_true, if_false, true_and, and_true, ↓reduceIte, eqD, neD, sh_int, eqv_int, eqv_strs, sDraw, List.length_cons, List.length_nil, Nat.zero_add, Nat.reduceAdd]
  exact h
end T01
end P24
section P25
open PySem PySem.Spec PyProof.Rows L2 HT Q
namespace T01
/-! ### own dicts -/
theorem val_mapput {x : PyData} {κ κ' : Key} : ∀ kvs : List (Key × PyData), (kvs.any fun kv => decide (kv.1 = κ)) = true → valD (kvs.map fun kv => if kv.1 = κ then (kv.1, x) else kv) κ' = if κ = κ' then some x else valD kvs κ'
  | [], h => by simp at h
  | (k, v) :: kvs, h => by
    unfold valD
    rw [List.map_cons, List.find?_cons, List.find?_cons]
    by_cases e : k = κ
    · subst e
      by_cases e2 : k = κ'
      · simp [e2]
      · simp only [if_true, e2, decide_false, if_false]
        by_cases a : (kvs.any fun kv => decide (kv.1 = k)) = true
        · have ih := val_mapput (x := x) (κ := k) (κ' := κ') kvs a
          unfold valD at ih
          simpa [e2] using ih
        · have : (kvs.map fun kv => if kv.1 = k then (kv.1, x) else kv) = kvs := by
            refine (List.map_congr_left fun kv hkv => ?_).trans (List.map_id kvs)
            have : ¬ kv.1 = k := fun e => a (List.any_eq_true.mpr ⟨kv, hkv, by simp [e]⟩)
            simp [this]
          rw [this]
    · have h' : (kvs.any fun kv => decide (kv.1 = κ)) = true := by simpa [e] using h
      have ih := val_mapput (x := x) (κ := κ) (κ' := κ') kvs h'
      unfold valD at ih
      simp only [if_neg e]
      by_cases e2 : k = κ'
      · have : ¬ κ = κ' := fun z => e (e2.trans z.symm)
        simp [e2, this]
      · simp only [e2, decide_false]
        exact ih
theorem val_put {x : PyData} {κ κ' : Key} (kvs : List (Key × PyData)) : valD (putD kvs κ x) κ' = if κ = κ' then some x else valD kvs κ' := by
  unfold putD
  split
  · rename_i h
    exact val_mapput kvs h
  · rename_i h
    unfold valD
    rw [List.find?_append]
    by_cases e : κ = κ'
    · subst e
      have : (kvs.find? fun kv => decide (kv.1 = κ)) = none := by
        rw [List.find?_eq_none]
        intro kv hkv e
        exact h (List.any_eq_true.mpr ⟨kv, hkv, e⟩)
      rw [this]
      simp
    · simp [e]
theorem put_len (kvs : List (Key × PyData)) (κ : Key) (x : PyData) : (putD kvs κ x).length ≤ kvs.length + 1 := by
  unfold putD
  split <;> simp
/-! ### the law's own throw -/
def putAll (a : Nat) : List Int → List (Key × PyData) → List (Key × PyData)
  | [], kvs => kvs
  | k :: ks, kvs => putAll a ks (putD kvs (.inl k) (.int (a : Nat)))
def putTh : Nat → Thr → List (Key × PyData) → List (Key × PyData)
  | _, [], kvs => kvs
  | a, p :: th, kvs => putTh (a + 1) th (putAll a p.1 kvs)
theorem putAll_val {a : Nat} {k : Int} : ∀ (ks : List Int) (kvs : List (Key × PyData)), valD (putAll a ks kvs) (.inl k) = if k ∈ ks then some (.int (a : Nat)) else valD kvs (.inl k)
  | [], kvs => by simp [putAll]
  | z :: ks, kvs => by
    unfold putAll
    rw [putAll_val ks, val_put]
    by_cases h : k ∈ ks
    · simp [h]
    · by_cases e : z = k
      · subst e; simp [h]
      · have : ¬ ((Sum.inl z : Key) = .inl k) := fun h => e (Sum.inl.inj h)
        have e2 : ¬ k = z := fun h => e h.symm
        simp [h, this, e2]
theorem putAll_len {a : Nat} : ∀ (ks : List Int) (kvs : List (Key × PyData)), (putAll a ks kvs).length ≤ kvs.length + ks.length
  | [], kvs => by simp [putAll]
  | z :: ks, kvs => by
    unfold putAll
    have := putAll_len (a := a) ks (putD kvs (.inl z) (.int (a : Nat)))
    have := put_len kvs (.inl z) (.int (a : Nat))
    rw [List.length_cons]
    omega
theorem putTh_out {k : Int} : ∀ (th : Thr) (a : Nat) (kvs : List (Key × PyData)), k ∉ kinds th → valD (putTh a th kvs) (.inl k) = valD kvs (.inl k)
  | [], _, _, _ => rfl
  | p :: th, a, kvs, h => by
    have e : kinds (p :: th) = p.1 ++ kinds th := by simp [kinds]
    rw [e, List.mem_append] at h
    unfold putTh
    rw [putTh_out th (a + 1) _ fun z => h (.inr z), putAll_val, if_neg fun z => h (.inl z)]
theorem putTh_in {k : Int} : ∀ (th : Thr) (a : Nat) (kvs : List (Key × PyData)), (kinds th).Nodup → ∀ (j : Nat) (p : List Int × Int), th[j]? = some p → k ∈ p.1 → valD (putTh a th kvs) (.inl k) = some (.int ((a + j : Nat) : Int))
  | [], _, _, _, j, p, h, _ => by simp at h
  | q :: th, a, kvs, nd, j, p, h, hk => by
    have e : kinds (q :: th) = q.1 ++ kinds th := by simp [kinds]
    rw [e] at nd
    obtain ⟨n1, n2, n3⟩ := List.nodup_append.mp nd
    unfold putTh
    cases j with
    | zero =>
      have e2 : q = p := by simpa using h
      subst e2
      rw [putTh_out th (a + 1) _ fun z => n3 k hk k z rfl, putAll_val, if_pos hk]
      rfl
    | succ j =>
      have h' : th[j]? = some p := by simpa using h
      rw [putTh_in th (a + 1) _ n2 j p h' hk]
      have : a + 1 + j = a + (j + 1) := by omega
      rw [this]
abbrev lstI (xs : List Int) : PyData := .list (xs.map .int)
/-- one card more on its heap -/
def heapsL (th : Thr) (pl : Int → Nat) : Nat → List Int → List (List Int) → List (List Int)
  | _, [], hs => hs
  | i, k :: ks, hs => heapsL th pl (i + 1) ks (hs.set (pl k) (if (th.getD (pl k) ([], 0)).2 = 1 then hs.getD (pl k) [] ++ [(i : Int)] else [(i : Int)] ++ hs.getD (pl k) []))
theorem heapsL_len (th : Thr) (pl : Int → Nat) : ∀ (ks : List Int) (i : Nat) (hs : List (List Int)), (heapsL th pl i ks hs).length = hs.length
  | [], _, _ => rfl
  | k :: ks, i, hs => by unfold heapsL; rw [heapsL_len th pl ks, List.length_set]
theorem heapsL_at (th : Thr) (pl : Int → Nat) (a : Nat) : ∀ (ks : List Int) (i : Nat) (hs : List (List Int)), a < hs.length → (heapsL th pl i ks hs).getD a [] =
    if (th.getD a ([], 0)).2 = 1 then hs.getD a [] ++ cardsF (fun k => decide (pl k = a)) i ks else (cardsF (fun k => decide (pl k = a)) i ks).reverse ++ hs.getD a []
  | [], i, hs, h => by simp [heapsL, cardsF]
  | k :: ks, i, hs, h => by
    unfold heapsL
    rw [heapsL_at th pl a ks (i + 1) _ (by rw [List.length_set]; exact h)]
    have ec : cardsF (fun k => decide (pl k = a)) i (k :: ks) = if decide (pl k = a) = true then (i : Int) :: cardsF (fun k => decide (pl k = a)) (i + 1) ks else cardsF (fun k => decide (pl k = a)) (i + 1) ks := rfl
    rw [ec]
    clear ec
    by_cases e : pl k = a
    · subst e
      have : ∀ z : List Int, (hs.set (pl k) z).getD (pl k) [] = z := fun z => by simp [List.getD_eq_getElem?_getD, h]
      rw [this]
      simp only [decide_true, if_true]
      split
      · rw [List.append_assoc]; rfl
      · rw [List.reverse_cons, List.append_assoc]
    · have : ∀ z : List Int, (hs.set (pl k) z).getD a [] = hs.getD a [] := fun z => by simp [List.getD_eq_getElem?_getD, List.getElem?_set_ne e]
      rw [this]
      have e2 : decide (pl k = a) = false := by simp [e]
      simp only [e2, Bool.false_eq_true, if_false]
theorem heaps_made {th : Thr} {deck : List Int} {pl : Int → Nat} (h : ∀ k, k ∈ deck → ∀ a p, th[a]? = some p → (decide (pl k = a)) = p.1.contains k) :
    heapsL th pl 0 deck (th.map fun _ => []) = th.map (heapOf deck) := by
  apply List.ext_getElem
  · rw [heapsL_len, List.length_map, List.length_map]
  · intro a h1 h2
    rw [List.length_map] at h2
    have e := heapsL_at th pl a deck 0 (th.map fun _ => []) (by rw [List.length_map]; exact h2)
    have e0 : (heapsL th pl 0 deck (th.map fun _ => [])).getD a [] = (heapsL th pl 0 deck (th.map fun _ => []))[a] := by simp [List.getD_eq_getElem?_getD, h1]
    rw [e0] at e
    rw [e, List.getElem_map]
    have e1 : th.getD a ([], 0) = th[a] := by simp [List.getD_eq_getElem?_getD, h2]
    have e2 : (th.map fun _ => ([] : List Int)).getD a [] = [] := by simp [List.getD_eq_getElem?_getD, h2]
    rw [e1, e2]
    have e3 : cardsF (fun k => decide (pl k = a)) 0 deck = cardsF (fun k => (th[a]).1.contains k) 0 deck := cards_congr 0 deck fun k hk => h k hk a th[a] (by simp [h2])
    rw [e3]
    unfold heapOf
    simp
theorem loop_put (R : EndsQ) (s0 s1 s3 s5 s6 s8 s9 s10 : Sl) (a : Nat) : ∀ (ks : List Int) (kvs : List (Key × PyData)) (s7 : Sl), kvs.length + ks.length ≤ 1000 → (∀ s7, R.nx [s0, s1, .owd (putAll a ks kvs), s3, .d (.int (a : Nat)), s5, s6, s7, s8, s9, s10]) →
    forQ (gN 7) (sSetD 2 (tV 4) (tV 7)) R (ks.map .int) [s0, s1, .owd kvs, s3, .d (.int (a : Nat)), s5, s6, s7, s8, s9, s10]
  | [], kvs, s7, _, h => by simpa only [List.map_nil, forQ, putAll] using h s7
  | k :: ks, kvs, s7, hl, h => by
    rw [List.length_cons] at hl
    have hp := put_len kvs (.inl k) (.int (a : Nat))
    simp only [List.map_cons, forQ, Q.addF, Q.enOf, Q.tV, Q.tK, Q.t2, Q.t1, Q.tB, Q.cI, Q.cIp, Q.addI, Q.subI, Q.mulI, Q.fdivI, Q.modI, Q.powI, Q.ltI, Q.leI, Q.gtI, Q.geI, Q.negI, Q.vAnd, Q.vOr, Q.vNot, Q.qAnd, Q.qOr, Q.qNot, Q.qIf, Q.chI, Q.tTupQ, Q.dNil, Q.dCons, Q.tLstQ, Q.tFz, Q.tCA, Q.lenD, Q.tupD, Q.isD, Q.isInt, Q.isBool, Q.isTup, Q.isStr, Q.isLst, Q.tLenN, Q.tIxN, Q.setQ, Q.aNil, Q.aD, Q.aK, Q.tCallQ, Q.tCallKQ, Q.pick, Q.sNil, Q.sSeq, Q.sRet, Q.sRetN, Q.sExpr, Q.sIf, Q.sSet, Q.sSetL, Q.sAsg, Q.sFor, Q.sPar2, Q.sPar3, Q.pNil, Q.pD, Q.pO, Q.pDn, Q.gN, Q.gT, Q.gsNil, Q.gsCons, Q.iQ, Q.itD, Q.iEn, Q.itE, Q.rg1, Q.rg2, Q.oNone, Q.oSome, Q.tSlQ, Q.revD, Q.tOwnM, Q.appC, Q.popC, Q.extC, Q.ownL, Q.tRepL, Q.repC, Q.sSetIx, Q.ixOwn, Q.tLcQ, Q.noOwn, Q.rstQ, Q.wipeQ, Q.sDn, Q.sSetD, Q.tDgetN, Q.dOwn, Q.tTupRg, Q.sNever, Q.isB, Q.listD, Q.listC, Q.reprD, Q.Sl.isOwn, List.map_cons, List.map_nil, List.replicate_succ, List.replicate_zero, List.cons_append, List.nil_append, List.append_nil, List.getElem?_cons_zero, List.getElem?_cons_succ, List.set_cons_zero, List.set_cons_succ, List.getD_cons_zero, List.getD_cons_succ, List.filterMap_cons, List.filterMap_nil, List.all_cons, List.all_nil, Bool.and_true, Bool.true_and, Bool.not_true, Bool.not_false, Bool.not_eq_true, Bool.false_eq_true, Bool.and_self, if_true, if_false, true_and, and_true, ↓reduceIte, eqD, neD, sh_int, eqv_int, eqv_strs, sDraw, List.length_cons, List.length_nil, Nat.zero_add, Nat.reduceAdd, keyD]
    refine ⟨by omega, ?_⟩
    exact loop_put R s0 s1 s3 s5 s6 s8 s9 s10 a ks _ (.d (.int k)) (by omega) h
theorem loop_places (R : EndsQ) (s0 s1 s3 s8 s9 s10 : Sl) : ∀ (th : Thr) (a : Nat) (kvs : List (Key × PyData)) (s4 s5 s6 s7 : Sl), kvs.length + (kinds th).length ≤ 1000 → (∀ s4 s5 s6 s7, R.nx [s0, s1, .owd (putTh a th kvs), s3, s4, s5, s6, s7, s8, s9, s10]) →
    forQ (gT 2 (gsCons (gN 4) (gsCons (gT 2 (gsCons (gN 5) (gsCons (gN 6) gsNil))) gsNil))) (sFor (iQ (tV 5)) (gN 7) (sSetD 2 (tV 4) (tV 7))) R (enumFrom a (th.map lotD)) [s0, s1, .owd kvs, s3, s4, s5, s6, s7, s8, s9, s10]
  | [], a, kvs, s4, s5, s6, s7, _, h => by simpa only [List.map_nil, enumFrom, forQ, putTh] using h s4 s5 s6 s7
  | p :: th, a, kvs, s4, s5, s6, s7, hl, h => by
    have e : kinds (p :: th) = p.1 ++ kinds th := by simp [kinds]
    rw [e, List.length_append] at hl
    have hp := putAll_len (a := a) p.1 kvs
    simp only [List.map_cons, enumFrom, forQ, lotD, tupI, Q.addF, Q.enOf, Q.tV, Q.tK, Q.t2, Q.t1, Q.tB, Q.cI, Q.cIp, Q.addI, Q.subI, Q.mulI, Q.fdivI, Q.modI, Q.powI, Q.ltI, Q.leI, Q.gtI, Q.geI, Q.negI, Q.vAnd, Q.vOr, Q.vNot, Q.qAnd, Q.qOr, Q.qNot, Q.qIf, Q.chI, Q.tTupQ, Q.dNil, Q.dCons, Q.tLstQ, Q.tFz, Q.tCA, Q.lenD, Q.tupD, Q.isD, Q.isInt, Q.isBool, Q.isTup, Q.isStr, Q.isLst, Q.tLenN, Q.tIxN, Q.setQ, Q.aNil, Q.aD, Q.aK, Q.tCallQ, Q.tCallKQ, Q.pick, Q.sNil, Q.sSeq, Q.sRet, Q.sRetN, Q.sExpr, Q.sIf, Q.sSet, Q.sSetL, Q.sAsg, Q.sFor, Q.sPar2, Q.sPar3, Q.pNil, Q.pD, Q.pO, Q.pDn, Q.gN, Q.gT, Q.gsNil, Q.gsCons, Q.iQ, Q.itD, Q.iEn, Q.itE, Q.rg1, Q.rg2, Q.oNone, Q.oSome, Q.tSlQ, Q.revD, Q.tOwnM, Q.appC, Q.popC, Q.extC, Q.ownL, Q.tRepL, Q.repC, Q.sSetIx, Q.ixOwn, Q.tLcQ, Q.noOwn, Q.rstQ, Q.wipeQ, Q.sDn, Q.sSetD, Q.tDgetN, Q.dOwn, Q.tTupRg, Q.sNever, Q.isB, Q.listD, Q.listC, Q.reprD, Q.Sl.isOwn, List.map_cons, List.map_nil, List.replicate_succ, List.replicate_zero, List.cons_append, List.nil_append, List.append_nil, List.getElem?_cons_zero, List.getElem?_cons_succ, List.set_cons_zero, List.set_cons_succ, List.getD_cons_zero, List.getD_cons_succ, List.filterMap_cons, List.filterMap_nil, List.all_cons, List.all_nil, Bool.and_true, Bool.true_and, Bool.not_true, Bool.not_false, Bool.not_eq_true, Bool.false_eq_true, Bool.and_self, if_true, if_false, true_and, and_true, ↓reduceIte, eqD, neD, sh_int, eqv_int, eqv_strs, sDraw, List.length_cons, List.length_nil, Nat.zero_add, Nat.reduceAdd]
    refine loop_put _ s0 s1 s3 (.d (tupI p.1)) (.d (.int p.2)) s8 s9 s10 a p.1 kvs s7 (by omega) fun s7 => ?_
    exact loop_places R s0 s1 s3 s8 s9 s10 th (a + 1) _ (.d (.int (a : Nat))) (.d (tupI p.1)) (.d (.int p.2)) s7 (by omega) h
theorem th_at {th : Thr} {a : Nat} (h : a < th.length) : atI (th.map lotD) ((a : Nat) : Int) = some (lotD (th.getD a ([], 0))) := by
  refine atI_nat ?_
  simp [List.getD_eq_getElem?_getD, h]
theorem hs_at {hs : List (List Int)} {a : Nat} (h : a < hs.length) : atI (hs.map lstI) ((a : Nat) : Int) = some (lstI (hs.getD a [])) := by
  refine atI_nat ?_
  simp [List.getD_eq_getElem?_getD, h]
theorem loop_heaps (R : EndsQ) (th : Thr) (pl : Int → Nat) (s1 s5 s6 s9 s10 : Sl) (kvs : List (Key × PyData)) : ∀ (ks : List Int) (i : Nat) (hs : List (List Int)) (s4 s7 s8 : Sl), hs.length = th.length → (∀ k, k ∈ ks → pl k < th.length ∧ valD kvs (.inl k) = some (.int ((pl k : Nat) : Int))) →
    (∀ l, l ∈ hs → l.length + ks.length ≤ 1000) →
    (∀ s4 s7 s8, R.nx [.d (thrD th), s1, .owd kvs, .own ((heapsL th pl i ks hs).map lstI), s4, s5, s6, s7, s8, s9, s10]) →
    forQ (gT 2 (gsCons (gN 8) (gsCons (gN 7) gsNil))) (sSeq (sSet 4 (tDgetN 2 (tV 7)))
      (sSetIx 3 (qIf (tB (t2 eqD (t2 ixD (tIxN 0 (tV 4)) (tK (.int 1))) (tK (.int 1)))) (t2 addF (tIxN 3 (tV 4)) (tFz (tLstQ (dCons (tV 8) dNil)))) (t2 addF (tFz (tLstQ (dCons (tV 8) dNil))) (tIxN 3 (tV 4)))) (tV 4))) R (enumFrom i (ks.map .int))
      [.d (thrD th), s1, .owd kvs, .own (hs.map lstI), s4, s5, s6, s7, s8, s9, s10]
  | [], i, hs, s4, s7, s8, _, _, _, h => by simpa only [List.map_nil, enumFrom, forQ, heapsL] using h s4 s7 s8
  | k :: ks, i, hs, s4, s7, s8, hl, hv, hz, h => by
    obtain ⟨h1, h2⟩ := hv k (by simp)
    have h1' : pl k < hs.length := by omega
    have hin : hs.getD (pl k) [] ∈ hs := by
      have : hs.getD (pl k) [] = hs[pl k] := by simp [List.getD_eq_getElem?_getD, h1']
      rw [this]; exact List.getElem_mem h1'
    have hb := hz _ hin
    rw [List.length_cons] at hb
    simp only [List.map_cons, enumFrom, forQ, thrD, Q.addF, Q.enOf, Q.tV, Q.tK, Q.t2, Q.t1, Q.tB, Q.cI, Q.cIp, Q.addI, Q.subI, Q.mulI, Q.fdivI, Q.modI, Q.powI, Q.ltI, Q.leI, Q.gtI, Q.geI, Q.negI, Q.vAnd, Q.vOr, Q.vNot, Q.qAnd, Q.qOr, Q.qNot, Q.qIf, Q.chI, Q.tTupQ, Q.dNil, Q.dCons, Q.tLstQ, Q.tFz, Q.tCA, Q.lenD, Q.tupD, Q.isD, Q.isInt, Q.isBool, Q.isTup, Q.isStr, Q.isLst, Q.tLenN, Q.tIxN, Q.setQ, Q.aNil, Q.aD, Q.aK, Q.tCallQ, Q.tCallKQ, Q.pick, Q.sNil, Q.sSeq, Q.sRet, Q.sRetN, Q.sExpr, Q.sIf, Q.sSet, Q.sSetL, Q.sAsg, Q.sFor, Q.sPar2, Q.sPar3, Q.pNil, Q.pD, Q.pO, Q.pDn, Q.gN, Q.gT, Q.gsNil, Q.gsCons, Q.iQ, Q.itD, Q.iEn, Q.itE, Q.rg1, Q.rg2, Q.oNone, Q.oSome, Q.tSlQ, Q.revD, Q.tOwnM, Q.appC, Q.popC, Q.extC, Q.ownL, Q.tRepL, Q.repC, Q.sSetIx, Q.ixOwn, Q.tLcQ, Q.noOwn, Q.rstQ, Q.wipeQ, Q.sDn, Q.sSetD, Q.tDgetN, Q.dOwn, Q.tTupRg, Q.sNever, Q.isB, Q.listD, Q.listC, Q.reprD, Q.Sl.isOwn, List.map_cons, List.map_nil, List.replicate_succ, List.replicate_zero, List.cons_append, List.nil_append, List.append_nil, List.getElem?_cons_zero, List.getElem?_cons_succ, List.set_cons_zero, List.set_cons_succ, List.getD_cons_zero, List.getD_cons_succ, List.filterMap_cons, List.filterMap_nil, List.all_cons, List.all_nil, Bool.and_true, Bool.true_and, Bool.not_true, Bool.not_false, Bool.not_eq_true, Bool.false_eq_true, Bool.and_self, if_true, if_false, true_and, and_true, ↓reduceIte, eqD, neD, sh_int, eqv_int, eqv_strs, sDraw, List.length_cons, List.length_nil, Nat.zero_add, Nat.reduceAdd, keyD, ixD]
    refine ⟨_, h2, ?_⟩
    simp only [Q.addF, Q.enOf, Q.tV, Q.tK, Q.t2, Q.t1, Q.tB, Q.cI, Q.cIp, Q.addI, Q.subI, Q.mulI, Q.fdivI, Q.modI, Q.powI, Q.ltI, Q.leI, Q.gtI, Q.geI, Q.negI, Q.vAnd, Q.vOr, Q.vNot, Q.qAnd, Q.qOr, Q.qNot, Q.qIf, Q.chI, Q.tTupQ, Q.dNil, Q.dCons, Q.tLstQ, Q.tFz, Q.tCA, Q.lenD, Q.tupD, Q.isD, Q.isInt, Q.isBool, Q.isTup, Q.isStr, Q.isLst, Q.tLenN, Q.tIxN, Q.setQ, Q.aNil, Q.aD, Q.aK, Q.tCallQ, Q.tCallKQ, Q.pick, Q.sNil, Q.sSeq, Q.sRet, Q.sRetN, Q.sExpr, Q.sIf, Q.sSet, Q.sSetL, Q.sAsg, Q.sFor, Q.sPar2, Q.sPar3, Q.pNil, Q.pD, Q.pO, Q.pDn, Q.gN, Q.gT, Q.gsNil, Q.gsCons, Q.iQ, Q.itD, Q.iEn, Q.itE, Q.rg1, Q.rg2, Q.oNone, Q.oSome, Q.tSlQ, Q.revD, Q.tOwnM, Q.appC, Q.popC, Q.extC, Q.ownL, Q.tRepL, Q.repC, Q.sSetIx, Q.ixOwn, Q.tLcQ, Q.noOwn, Q.rstQ, Q.wipeQ, Q.sDn, Q.sSetD, Q.tDgetN, Q.dOwn, Q.tTupRg, Q.sNever, Q.isB, Q.listD, Q.listC, Q.reprD, Q.Sl.isOwn, List.map_cons, List.map_nil, List.replicate_succ, List.replicate_zero, List.cons_append, List.nil_append, List.append_nil, List.getElem?_cons_zero, List.getElem?_cons_succ, List.set_cons_zero, List.set_cons_succ, List.getD_cons_zero, List.getD_cons_succ, List.filterMap_cons, List.filterMap_nil, List.all_cons, List.all_nil, Bool.and_true, Bool.true_and, Bool.not_true, Bool.not_false, Bool.not_eq_true, Bool.false_eq_true, Bool.and_self, if_true, if_false, true_and, and_true, ↓reduceIte, eqD, neD, sh_int, eqv_int, eqv_strs, sDraw, List.length_cons, List.length_nil, Nat.zero_add, Nat.reduceAdd, ixD]
    refine ⟨_, th_at h1, _, at1, ?_⟩
    simp only [Q.addF, Q.enOf, Q.tV, Q.tK, Q.t2, Q.t1, Q.tB, Q.cI, Q.cIp, Q.addI, Q.subI, Q.mulI, Q.fdivI, Q.modI, Q.powI, Q.ltI, Q.leI, Q.gtI, Q.geI, Q.negI, Q.vAnd, Q.vOr, Q.vNot, Q.qAnd, Q.qOr, Q.qNot, Q.qIf, Q.chI, Q.tTupQ, Q.dNil, Q.dCons, Q.tLstQ, Q.tFz, Q.tCA, Q.lenD, Q.tupD, Q.isD, Q.isInt, Q.isBool, Q.isTup, Q.isStr, Q.isLst, Q.tLenN, Q.tIxN, Q.setQ, Q.aNil, Q.aD, Q.aK, Q.tCallQ, Q.tCallKQ, Q.pick, Q.sNil, Q.sSeq, Q.sRet, Q.sRetN, Q.sExpr, Q.sIf, Q.sSet, Q.sSetL, Q.sAsg, Q.sFor, Q.sPar2, Q.sPar3, Q.pNil, Q.pD, Q.pO, Q.pDn, Q.gN, Q.gT, Q.gsNil, Q.gsCons, Q.iQ, Q.itD, Q.iEn, Q.itE, Q.rg1, Q.rg2, Q.oNone, Q.oSome, Q.tSlQ, Q.revD, Q.tOwnM, Q.appC, Q.popC, Q.extC, Q.ownL, Q.tRepL, Q.repC, Q.sSetIx, Q.ixOwn, Q.tLcQ, Q.noOwn, Q.rstQ, Q.wipeQ, Q.sDn, Q.sSetD, Q.tDgetN, Q.dOwn, Q.tTupRg, Q.sNever, Q.isB, Q.listD, Q.listC, Q.reprD, Q.Sl.isOwn, List.map_cons, List.map_nil, List.replicate_succ, List.replicate_zero, List.cons_append, List.nil_append, List.append_nil, List.getElem?_cons_zero, List.getElem?_cons_succ, List.set_cons_zero, List.set_cons_succ, List.getD_cons_zero, List.getD_cons_succ, List.filterMap_cons, List.filterMap_nil, List.all_cons, List.all_nil, Bool.and_true, Bool.true_and, Bool.not_true, Bool.not_false, Bool.not_eq_true, Bool.false_eq_true, Bool.and_self, if_true, if_false, true_and, and_true, ↓reduceIte, eqD, neD, sh_int, eqv_int, eqv_strs, sDraw, List.length_cons, List.length_nil, Nat.zero_add, Nat.reduceAdd, ixD]
    have next : ∀ l : List Int, l.length = (hs.getD (pl k) []).length + 1 → l = (if (th.getD (pl k) ([], 0)).2 = 1 then hs.getD (pl k) [] ++ [(i : Int)] else [(i : Int)] ++ hs.getD (pl k) []) →
        forQ (gT 2 (gsCons (gN 8) (gsCons (gN 7) gsNil))) (sSeq (sSet 4 (tDgetN 2 (tV 7)))
      (sSetIx 3 (qIf (tB (t2 eqD (t2 ixD (tIxN 0 (tV 4)) (tK (.int 1))) (tK (.int 1)))) (t2 addF (tIxN 3 (tV 4)) (tFz (tLstQ (dCons (tV 8) dNil)))) (t2 addF (tFz (tLstQ (dCons (tV 8) dNil))) (tIxN 3 (tV 4)))) (tV 4))) R (enumFrom (i + 1) (ks.map .int))
      [.d (thrD th), s1, .owd kvs, .own ((hs.map lstI).set (pl k) (lstI l)), .d (.int ((pl k : Nat) : Int)), s5, s6, .d (.int k), .d (.int (i : Nat)), s9, s10] := fun l hll el => by
      have := loop_heaps R th pl s1 s5 s6 s9 s10 kvs ks (i + 1) (hs.set (pl k) l) (.d (.int ((pl k : Nat) : Int))) (.d (.int k)) (.d (.int (i : Nat))) (by rw [List.length_set]; exact hl) (fun z hz2 => hv z (by simp [hz2])) (fun z hz2 => by
        rcases List.mem_or_eq_of_mem_set hz2 with h3 | rfl
        · have := hz z h3; rw [List.length_cons] at this; omega
        · omega) (by rw [el]; exact h)
      rw [List.map_set] at this
      exact this
    by_cases e1 : (th.getD (pl k) ([], 0)).2 = 1
    · simp only [e1, decide_true, Q.addF, Q.enOf, Q.tV, Q.tK, Q.t2, Q.t1, Q.tB, Q.cI, Q.cIp, Q.addI, Q.subI, Q.mulI, Q.fdivI, Q.modI, Q.powI, Q.ltI, Q.leI, Q.gtI, Q.geI, Q.negI, Q.vAnd, Q.vOr, Q.vNot, Q.qAnd, Q.qOr, Q.qNot, Q.qIf, Q.chI, Q.tTupQ, Q.dNil, Q.dCons, Q.tLstQ, Q.tFz, Q.tCA, Q.lenD, Q.tupD, Q.isD, Q.isInt, Q.isBool, Q.isTup, Q.isStr, Q.isLst, Q.tLenN, Q.tIxN, Q.setQ, Q.aNil, Q.aD, Q.aK, Q.tCallQ, Q.tCallKQ, Q.pick, Q.sNil, Q.sSeq, Q.sRet, Q.sRetN, Q.sExpr, Q.sIf, Q.sSet, Q.sSetL, Q.sAsg, Q.sFor, Q.sPar2, Q.sPar3, Q.pNil, Q.pD, Q.pO, Q.pDn, Q.gN, Q.gT, Q.gsNil, Q.gsCons, Q.iQ, Q.itD, Q.iEn, Q.itE, Q.rg1, Q.rg2, Q.oNone, Q.oSome, Q.tSlQ, Q.revD, Q.tOwnM, Q.appC, Q.popC, Q.extC, Q.ownL, Q.tRepL, Q.repC, Q.sSetIx, Q.ixOwn, Q.tLcQ, Q.noOwn, Q.rstQ, Q.wipeQ, Q.sDn, Q.sSetD, Q.tDgetN, Q.dOwn, Q.tTupRg, Q.sNever, Q.isB, Q.listD, Q.listC, Q.reprD, Q.Sl.isOwn, List.map_cons, List.map_nil, List.replicate_succ, List.replicate_zero, List.cons_append, List.nil_append, List.append_nil, List.getElem?_cons_zero, List.getElem?_cons_succ, List.set_cons_zero, List.set_cons_succ, List.getD_cons_zero, List.getD_cons_succ, List.filterMap_cons, List.filterMap_nil, List.all_cons, List.all_nil, Bool.and_true, Bool.true_and, Bool.not_true, Bool.not_false, Bool.not_eq_true, Bool.false_eq_true, Bool.and_self, if_true, if_false, true_and, and_true, ↓reduceIte, eqD, neD, sh_int, eqv_int, eqv_strs, sDraw, List.length_cons, List.length_nil, Nat.zero_add, Nat.reduceAdd]
      refine ⟨_, hs_at h1', ?_⟩
      simp only [Q.addF, Q.enOf, Q.tV, Q.tK, Q.t2, Q.t1, Q.tB, Q.cI, Q.cIp, Q.addI, Q.subI, Q.mulI, Q.fdivI, Q.modI, Q.powI, Q.ltI, Q.leI, Q.gtI, Q.geI, Q.negI, Q.vAnd, Q.vOr, Q.vNot, Q.qAnd, Q.qOr, Q.qNot, Q.qIf, Q.chI, Q.tTupQ, Q.dNil, Q.dCons, Q.tLstQ, Q.tFz, Q.tCA, Q.lenD, Q.tupD, Q.isD, Q.isInt, Q.isBool, Q.isTup, Q.isStr, Q.isLst, Q.tLenN, Q.tIxN, Q.setQ, Q.aNil, Q.aD, Q.aK, Q.tCallQ, Q.tCallKQ, Q.pick, Q.sNil, Q.sSeq, Q.sRet, Q.sRetN, Q.sExpr, Q.sIf, Q.sSet, Q.sSetL, Q.sAsg, Q.sFor, Q.sPar2, Q.sPar3, Q.pNil, Q.pD, Q.pO, Q.pDn, Q.gN, Q.gT, Q.gsNil, Q.gsCons, Q.iQ, Q.itD, Q.iEn, Q.itE, Q.rg1, Q.rg2, Q.oNone, Q.oSome, Q.tSlQ, Q.revD, Q.tOwnM, Q.appC, Q.popC, Q.extC, Q.ownL, Q.tRepL, Q.repC, Q.sSetIx, Q.ixOwn, Q.tLcQ, Q.noOwn, Q.rstQ, Q.wipeQ, Q.sDn, Q.sSetD, Q.tDgetN, Q.dOwn, Q.tTupRg, Q.sNever, Q.isB, Q.listD, Q.listC, Q.reprD, Q.Sl.isOwn, List.map_cons, List.map_nil, List.replicate_succ, List.replicate_zero, List.cons_append, List.nil_append, List.append_nil, List.getElem?_cons_zero, List.getElem?_cons_succ, List.set_cons_zero, List.set_cons_succ, List.getD_cons_zero, List.getD_cons_succ, List.filterMap_cons, List.filterMap_nil, List.all_cons, List.all_nil, Bool.and_true, Bool.true_and, Bool.not_true, Bool.not_false, Bool.not_eq_true, Bool.false_eq_true, Bool.and_self, if_true, if_false, true_and, and_true, ↓reduceIte, eqD, neD, sh_int, eqv_int, eqv_strs, sDraw, List.length_cons, List.length_nil, Nat.zero_add, Nat.reduceAdd, List.length_map]
      refine ⟨by decide, by omega, by omega, by omega, ?_⟩
      have := next (hs.getD (pl k) [] ++ [(i : Int)]) (by simp) (by rw [if_pos e1])
      simpa only [lstI, List.map_append, List.map_cons, List.map_nil, Int.toNat_natCast, thrD] using this
    · have e2 : decide ((th.getD (pl k) ([], 0)).2 = 1) = false := decide_eq_false e1
      simp only [e2, Q.addF, Q.enOf, Q.tV, Q.tK, Q.t2, Q.t1, Q.tB, Q.cI, Q.cIp, Q.addI, Q.subI, Q.mulI, Q.fdivI, Q.modI, Q.powI, Q.ltI, Q.leI, Q.gtI, Q.geI, Q.negI, Q.vAnd, Q.vOr, Q.vNot, Q.qAnd, Q.qOr, Q.qNot, Q.qIf, Q.chI, Q.tTupQ, Q.dNil, Q.dCons, Q.tLstQ, Q.tFz, Q.tCA, Q.lenD, Q.tupD, Q.isD, Q.isInt, Q.isBool, Q.isTup, Q.isStr, Q.isLst, Q.tLenN, Q.tIxN, Q.setQ, Q.aNil, Q.aD, Q.aK, Q.tCallQ, Q.tCallKQ, Q.pick, Q.sNil, Q.sSeq, Q.sRet, Q.sRetN, Q.sExpr, Q.sIf, Q.sSet, Q.sSetL, Q.sAsg, Q.sFor, Q.sPar2, Q.sPar3, Q.pNil, Q.pD, Q.pO, Q.pDn, Q.gN, Q.gT, Q.gsNil, Q.gsCons, Q.iQ, Q.itD, Q.iEn, Q.itE, Q.rg1, Q.rg2, Q.oNone, Q.oSome, Q.tSlQ, Q.revD, Q.tOwnM, Q.appC, Q.popC, Q.extC, Q.ownL, Q.tRepL, Q.repC, Q.sSetIx, Q.ixOwn, Q.tLcQ, Q.noOwn, Q.rstQ, Q.wipeQ, Q.sDn, Q.sSetD, Q.tDgetN, Q.dOwn, Q.tTupRg, Q.sNever, Q.isB, Q.listD, Q.listC, Q.reprD, Q.Sl.isOwn, List.map_cons, List.map_nil, List.replicate_succ, List.replicate_zero, List.cons_append, List.nil_append, List.append_nil, List.getElem?_cons_zero, List.getElem?_cons_succ, List.set_cons_zero, List.set_cons_succ, List.getD_cons_zero, List.getD_cons_succ, List.filterMap_cons, List.filterMap_nil, List.all_cons, List.all_nil, Bool.and_true, Bool.true_and, Bool.not_true, Bool.not_false, Bool.not_eq_true, Bool.false_eq_true, Bool.and_self, if_true, if_false, true_and, and_true, ↓reduceIte, eqD, neD, sh_int, eqv_int, eqv_strs, sDraw, List.length_cons, List.length_nil, Nat.zero_add, Nat.reduceAdd]
      refine ⟨by decide, _, hs_at h1', ?_⟩
      simp only [Q.addF, Q.enOf, Q.tV, Q.tK, Q.t2, Q.t1, Q.tB, Q.cI, Q.cIp, Q.addI, Q.subI, Q.mulI, Q.fdivI, Q.modI, Q.powI, Q.ltI, Q.leI, Q.gtI, Q.geI, Q.negI, Q.vAnd, Q.vOr, Q.vNot, Q.qAnd, Q.qOr, Q.qNot, Q.qIf, Q.chI, Q.tTupQ, Q.dNil, Q.dCons, Q.tLstQ, Q.tFz, Q.tCA, Q.lenD, Q.tupD, Q.isD, Q.isInt, Q.isBool, Q.isTup, Q.isStr, Q.isLst, Q.tLenN, Q.tIxN, Q.setQ, Q.aNil, Q.aD, Q.aK, Q.tCallQ, Q.tCallKQ, Q.pick, Q.sNil, Q.sSeq, Q.sRet, Q.sRetN, Q.sExpr, Q.sIf, Q.sSet, Q.sSetL, Q.sAsg, Q.sFor, Q.sPar2, Q.sPar3, Q.pNil, Q.pD, Q.pO, Q.pDn, Q.gN, Q.gT, Q.gsNil, Q.gsCons, Q.iQ, Q.itD, Q.iEn, Q.itE, Q.rg1, Q.rg2, Q.oNone, Q.oSome, Q.tSlQ, Q.revD, Q.tOwnM, Q.appC, Q.popC, Q.extC, Q.ownL, Q.tRepL, Q.repC, Q.sSetIx, Q.ixOwn, Q.tLcQ, Q.noOwn, Q.rstQ, Q.wipeQ, Q.sDn, Q.sSetD, Q.tDgetN, Q.dOwn, Q.tTupRg, Q.sNever, Q.isB, Q.listD, Q.listC, Q.reprD, Q.Sl.isOwn, List.map_cons, List.map_nil, List.replicate_succ, List.replicate_zero, List.cons_append, List.nil_append, List.append_nil, List.getElem?_cons_zero, List.getElem?_cons_succ, List.set_cons_zero, List.set_cons_succ, List.getD_cons_zero, List.getD_cons_succ, List.filterMap_cons, List.filterMap_nil, List.all_cons, List.all_nil, Bool.and_true, Bool.true_and, Bool.not_true, Bool.not_false, Bool.not_eq_true, Bool.false_eq_true, Bool.and_self, if_true, if_false, true_and, and_true, ↓reduceIte, eqD, neD, sh_int, eqv_int, eqv_strs, sDraw, List.length_cons, List.length_nil, Nat.zero_add, Nat.reduceAdd, List.length_map]
      refine ⟨by omega, by omega, by omega, ?_⟩
      have := next ([(i : Int)] ++ hs.getD (pl k) []) (by rw [List.length_append, Nat.add_comm]; rfl) (by rw [if_neg e1])
      simpa only [lstI, List.map_append, List.map_cons, List.map_nil, Int.toNat_natCast, thrD, List.cons_append, List.nil_append] using this
theorem loop_flat (R : EndsQ) (s0 s1 s2 s3 s4 s5 s6 s7 s8 : Sl) : ∀ (hs : List (List Int)) (acc : List Int) (s10 : Sl), acc.length + hs.flatten.length ≤ 100000 → (∀ s10, R.nx [s0, s1, s2, s3, s4, s5, s6, s7, s8, .own ((acc ++ hs.flatten).map .int), s10]) →
    forQ (gN 10) (sExpr (tOwnM 9 extC (dCons (tV 10) dNil))) R (hs.map lstI) [s0, s1, s2, s3, s4, s5, s6, s7, s8, .own (acc.map .int), s10]
  | [], acc, s10, _, h => by simpa only [List.map_nil, forQ, List.flatten_nil, List.append_nil] using h s10
  | l :: hs, acc, s10, hl, h => by
    rw [List.flatten_cons, List.length_append] at hl
    simp only [List.map_cons, forQ, Q.addF, Q.enOf, Q.tV, Q.tK, Q.t2, Q.t1, Q.tB, Q.cI, Q.cIp, Q.addI, Q.subI, Q.mulI, Q.fdivI, Q.modI, Q.powI, Q.ltI, Q.leI, Q.gtI, Q.geI, Q.negI, Q.vAnd, Q.vOr, Q.vNot, Q.qAnd, Q.qOr, Q.qNot, Q.qIf, Q.chI, Q.tTupQ, Q.dNil, Q.dCons, Q.tLstQ, Q.tFz, Q.tCA, Q.lenD, Q.tupD, Q.isD, Q.isInt, Q.isBool, Q.isTup, Q.isStr, Q.isLst, Q.tLenN, Q.tIxN, Q.setQ, Q.aNil, Q.aD, Q.aK, Q.tCallQ, Q.tCallKQ, Q.pick, Q.sNil, Q.sSeq, Q.sRet, Q.sRetN, Q.sExpr, Q.sIf, Q.sSet, Q.sSetL, Q.sAsg, Q.sFor, Q.sPar2, Q.sPar3, Q.pNil, Q.pD, Q.pO, Q.pDn, Q.gN, Q.gT, Q.gsNil, Q.gsCons, Q.iQ, Q.itD, Q.iEn, Q.itE, Q.rg1, Q.rg2, Q.oNone, Q.oSome, Q.tSlQ, Q.revD, Q.tOwnM, Q.appC, Q.popC, Q.extC, Q.ownL, Q.tRepL, Q.repC, Q.sSetIx, Q.ixOwn, Q.tLcQ, Q.noOwn, Q.rstQ, Q.wipeQ, Q.sDn, Q.sSetD, Q.tDgetN, Q.dOwn, Q.tTupRg, Q.sNever, Q.isB, Q.listD, Q.listC, Q.reprD, Q.Sl.isOwn, List.map_cons, List.map_nil, List.replicate_succ, List.replicate_zero, List.cons_append, List.nil_append, List.append_nil, List.getElem?_cons_zero, List.getElem?_cons_succ, List.set_cons_zero, List.set_cons_succ, List.getD_cons_zero, List.getD_cons_succ, List.filterMap_cons, List.filterMap_nil, List.all_cons, List.all_nil, Bool.and_true, Bool.true_and, Bool.not_true, Bool.not_false, Bool.not_eq_true, Bool.false_eq_true, Bool.and_self, if_true, if_false, true_and, and_true, ↓reduceIte, eqD, neD, sh_int, eqv_int, eqv_strs, sDraw, List.length_cons, List.length_nil, Nat.zero_add, Nat.reduceAdd, List.length_map]
    refine ⟨by omega, ?_⟩
    have := loop_flat R s0 s1 s2 s3 s4 s5 s6 s7 s8 hs (acc ++ l) (.d (lstI l)) (by rw [List.length_append]; omega) (by rw [List.append_assoc]; exact h)
    rw [List.map_append] at this
    exact this
def sp__law_after : PSpec := sp_order_after
theorem len__law_after : ∀ as R, sp__law_after as R → as.length = 2 := len_order_after
theorem rd__law_after : ∀ as R, sp__law_after as R → t__law_after { nx := fun _ => R .none, rt := R } (enOf as 9) := by
  rintro as R ⟨th, deck, rfl, h1, h2, h⟩
  simp only [t__law_after, thrD, Q.addF, Q.enOf, Q.tV, Q.tK, Q.t2, Q.t1, Q.tB, Q.cI, Q.cIp, Q.addI, Q.subI, Q.mulI, Q.fdivI, Q.modI, Q.powI, Q.ltI, Q.leI, Q.gtI, Q.geI, Q.negI, Q.vAnd, Q.vOr, Q.vNot, Q.qAnd, Q.qOr, Q.qNot, Q.qIf, Q.chI, Q.tTupQ, Q.dNil, Q.dCons, Q.tLstQ, Q.tFz, Q.tCA, Q.lenD, Q.tupD, Q.isD, Q.isInt, Q.isBool, Q.isTup, Q.isStr, Q.isLst, Q.tLenN, Q.tIxN, Q.setQ, Q.aNil, Q.aD, Q.aK, Q.tCallQ, Q.tCallKQ, Q.pick, Q.sNil, Q.sSeq, Q.sRet, Q.sRetN, Q.sExpr, Q.sIf, Q.sSet, Q.sSetL, Q.sAsg, Q.sFor, Q.sPar2, Q.sPar3, Q.pNil, Q.pD, Q.pO, Q.pDn, Q.gN, Q.gT, Q.gsNil, Q.gsCons, Q.iQ, Q.itD, Q.iEn, Q.itE, Q.rg1, Q.rg2, Q.oNone, Q.oSome, Q.tSlQ, Q.revD, Q.tOwnM, Q.appC, Q.popC, Q.extC, Q.ownL, Q.tRepL, Q.repC, Q.sSetIx, Q.ixOwn, Q.tLcQ, Q.noOwn, Q.rstQ, Q.wipeQ, Q.sDn, Q.sSetD, Q.tDgetN, Q.dOwn, Q.tTupRg, Q.sNever, Q.isB, Q.listD, Q.listC, Q.reprD, Q.Sl.isOwn, List.map_cons, List.map_nil, List.replicate_succ, List.replicate_zero, List.cons_append, List.nil_append, List.append_nil, List.getElem?_cons_zero, List.getElem?_cons_succ, List.set_cons_zero, List.set_cons_succ, List.getD_cons_zero, List.getD_cons_succ, List.filterMap_cons, List.filterMap_nil, List.all_cons, List.all_nil, Bool.and_true, Bool.true_and, Bool.not_true, Bool.not_false, Bool.not_eq_true, Bool.false_eq_true, Bool.and_self, if_true, if_false, true_and, and_true, ↓reduceIte, eqD, neD, sh_int, eqv_int, eqv_strs, sDraw, List.length_cons, List.length_nil, Nat.zero_add, Nat.reduceAdd]
  have few := h1.few
  refine comp_map (fun _ => lstI []) (fun x hx Rk hk => ?_) ?_
  · simp only [Q.addF, Q.enOf, Q.tV, Q.tK, Q.t2, Q.t1, Q.tB, Q.cI, Q.cIp, Q.addI, Q.subI, Q.mulI, Q.fdivI, Q.modI, Q.powI, Q.ltI, Q.leI, Q.gtI, Q.geI, Q.negI, Q.vAnd, Q.vOr, Q.vNot, Q.qAnd, Q.qOr, Q.qNot, Q.qIf, Q.chI, Q.tTupQ, Q.dNil, Q.dCons, Q.tLstQ, Q.tFz, Q.tCA, Q.lenD, Q.tupD, Q.isD, Q.isInt, Q.isBool, Q.isTup, Q.isStr, Q.isLst, Q.tLenN, Q.tIxN, Q.setQ, Q.aNil, Q.aD, Q.aK, Q.tCallQ, Q.tCallKQ, Q.pick, Q.sNil, Q.sSeq, Q.sRet, Q.sRetN, Q.sExpr, Q.sIf, Q.sSet, Q.sSetL, Q.sAsg, Q.sFor, Q.sPar2, Q.sPar3, Q.pNil, Q.pD, Q.pO, Q.pDn, Q.gN, Q.gT, Q.gsNil, Q.gsCons, Q.iQ, Q.itD, Q.iEn, Q.itE, Q.rg1, Q.rg2, Q.oNone, Q.oSome, Q.tSlQ, Q.revD, Q.tOwnM, Q.appC, Q.popC, Q.extC, Q.ownL, Q.tRepL, Q.repC, Q.sSetIx, Q.ixOwn, Q.tLcQ, Q.noOwn, Q.rstQ, Q.wipeQ, Q.sDn, Q.sSetD, Q.tDgetN, Q.dOwn, Q.tTupRg, Q.sNever, Q.isB, Q.listD, Q.listC, Q.reprD, Q.Sl.isOwn, List.map_cons, List.map_nil, List.replicate_succ, List.replicate_zero, List.cons_append, List.nil_append, List.append_nil, List.getElem?_cons_zero, List.getElem?_cons_succ, List.set_cons_zero, List.set_cons_succ, List.getD_cons_zero, List.getD_cons_succ, List.filterMap_cons, List.filterMap_nil, List.all_cons, List.all_nil, Bool.and_true, Bool.true_and, Bool.not_true, Bool.not_false, Bool.not_eq_true, Bool.false_eq_true, Bool.and_self, if_true, if_false, true_and, and_true, ↓reduceIte, eqD, neD, sh_int, eqv_int, eqv_strs, sDraw, List.length_cons, List.length_nil, Nat.zero_add, Nat.reduceAdd]
    exact ⟨by decide, hk _ (by simp only [Q.addF, Q.enOf, Q.tV, Q.tK, Q.t2, Q.t1, Q.tB, Q.cI, Q.cIp, Q.addI, Q.subI, Q.mulI, Q.fdivI, Q.modI, Q.powI, Q.ltI, Q.leI, Q.gtI, Q.geI, Q.negI, Q.vAnd, Q.vOr, Q.vNot, Q.qAnd, Q.qOr, Q.qNot, Q.qIf, Q.chI, Q.tTupQ, Q.dNil, Q.dCons, Q.tLstQ, Q.tFz, Q.tCA, Q.lenD, Q.tupD, Q.isD, Q.isInt, Q.isBool, Q.isTup, Q.isStr, Q.isLst, Q.tLenN, Q.tIxN, Q.setQ, Q.aNil, Q.aD, Q.aK, Q.tCallQ, Q.tCallKQ, Q.pick, Q.sNil, Q.sSeq, Q.sRet, Q.sRetN, Q.sExpr, Q.sIf, Q.sSet, Q.sSetL, Q.sAsg, Q.sFor, Q.sPar2, Q.sPar3, Q.pNil, Q.pD, Q.pO, Q.pDn, Q.gN, Q.gT, Q.gsNil, Q.gsCons, Q.iQ, Q.itD, Q.iEn, Q.itE, Q.rg1, Q.rg2, Q.oNone, Q.oSome, Q.tSlQ, Q.revD, Q.tOwnM, Q.appC, Q.popC, Q.extC, Q.ownL, Q.tRepL, Q.repC, Q.sSetIx, Q.ixOwn, Q.tLcQ, Q.noOwn, Q.rstQ, Q.wipeQ, Q.sDn, Q.sSetD, Q.tDgetN, Q.dOwn, Q.tTupRg, Q.sNever, Q.isB, Q.listD, Q.listC, Q.reprD, Q.Sl.isOwn, List.map_cons, List.map_nil, List.replicate_succ, List.replicate_zero, List.cons_append, List.nil_append, List.append_nil, List.getElem?_cons_zero, List.getElem?_cons_succ, List.set_cons_zero, List.set_cons_succ, List.getD_cons_zero, List.getD_cons_succ, List.filterMap_cons, List.filterMap_nil, List.all_cons, List.all_nil, Bool.and_true, Bool.true_and, Bool.not_true, Bool.not_false, Bool.not_eq_true, Bool.false_eq_true, Bool.and_self, if_true, if_false, true_and, and_true, ↓reduceIte, eqD, neD, sh_int, eqv_int, eqv_strs, sDraw, List.length_cons, List.length_nil, Nat.zero_add, Nat.reduceAdd])⟩
  try simp only [Q.addF, Q.enOf, Q.tV, Q.tK, Q.t2, Q.t1, Q.tB, Q.cI, Q.cIp, Q.addI, Q.subI, Q.mulI, Q.fdivI, Q.modI, Q.powI, Q.ltI, Q.leI, Q.gtI, Q.geI, Q.negI, Q.vAnd, Q.vOr, Q.vNot, Q.qAnd, Q.qOr, Q.qNot, Q.qIf, Q.chI, Q.tTupQ, Q.dNil, Q.dCons, Q.tLstQ, Q.tFz, Q.tCA, Q.lenD, Q.tupD, Q.isD, Q.isInt, Q.isBool, Q.isTup, Q.isStr, Q.isLst, Q.tLenN, Q.tIxN, Q.setQ, Q.aNil, Q.aD, Q.aK, Q.tCallQ, Q.tCallKQ, Q.pick, Q.sNil, Q.sSeq, Q.sRet, Q.sRetN, Q.sExpr, Q.sIf, Q.sSet, Q.sSetL, Q.sAsg, Q.sFor, Q.sPar2, Q.sPar3, Q.pNil, Q.pD, Q.pO, Q.pDn, Q.gN, Q.gT, Q.gsNil, Q.gsCons, Q.iQ, Q.itD, Q.iEn, Q.itE, Q.rg1, Q.rg2, Q.oNone, Q.oSome, Q.tSlQ, Q.revD, Q.tOwnM, Q.appC, Q.popC, Q.extC, Q.ownL, Q.tRepL, Q.repC, Q.sSetIx, Q.ixOwn, Q.tLcQ, Q.noOwn, Q.rstQ, Q.wipeQ, Q.sDn, Q.sSetD, Q.tDgetN, Q.dOwn, Q.tTupRg, Q.sNever, Q.isB, Q.listD, Q.listC, Q.reprD, Q.Sl.isOwn, List.map_cons, List.map_nil, List.replicate_succ, List.replicate_zero, List.cons_append, List.nil_append, List.append_nil, List.getElem?_cons_zero, List.getElem?_cons_succ, List.set_cons_zero, List.set_cons_succ, List.getD_cons_zero, List.getD_cons_succ, List.filterMap_cons, List.filterMap_nil, List.all_cons, List.all_nil, Bool.and_true, Bool.true_and, Bool.not_true, Bool.not_false, Bool.not_eq_true, Bool.false_eq_true, Bool.and_self, if_true, if_false, true_and, and_true, ↓reduceIte, eqD, neD, sh_int, eqv_int, eqv_strs, sDraw, List.length_cons, List.length_nil, Nat.zero_add, Nat.reduceAdd]
  refine loop_places _ (.d (.tuple (th.map lotD))) (.d (tupI deck)) _ .un .un .un th 0 [] .un .un .un .un (by simp; omega) fun s4 s5 s6 s7 => ?_
  simp only [tupI, Q.addF, Q.enOf, Q.tV, Q.tK, Q.t2, Q.t1, Q.tB, Q.cI, Q.cIp, Q.addI, Q.subI, Q.mulI, Q.fdivI, Q.modI, Q.powI, Q.ltI, Q.leI, Q.gtI, Q.geI, Q.negI, Q.vAnd, Q.vOr, Q.vNot, Q.qAnd, Q.qOr, Q.qNot, Q.qIf, Q.chI, Q.tTupQ, Q.dNil, Q.dCons, Q.tLstQ, Q.tFz, Q.tCA, Q.lenD, Q.tupD, Q.isD, Q.isInt, Q.isBool, Q.isTup, Q.isStr, Q.isLst, Q.tLenN, Q.tIxN, Q.setQ, Q.aNil, Q.aD, Q.aK, Q.tCallQ, Q.tCallKQ, Q.pick, Q.sNil, Q.sSeq, Q.sRet, Q.sRetN, Q.sExpr, Q.sIf, Q.sSet, Q.sSetL, Q.sAsg, Q.sFor, Q.sPar2, Q.sPar3, Q.pNil, Q.pD, Q.pO, Q.pDn, Q.gN, Q.gT, Q.gsNil, Q.gsCons, Q.iQ, Q.itD, Q.iEn, Q.itE, Q.rg1, Q.rg2, Q.oNone, Q.oSome, Q.tSlQ, Q.revD, Q.tOwnM, Q.appC, Q.popC, Q.extC, Q.ownL, Q.tRepL, Q.repC, Q.sSetIx, Q.ixOwn, Q.tLcQ, Q.noOwn, Q.rstQ, Q.wipeQ, Q.sDn, Q.sSetD, Q.tDgetN, Q.dOwn, Q.tTupRg, Q.sNever, Q.isB, Q.listD, Q.listC, Q.reprD, Q.Sl.isOwn, List.map_cons, List.map_nil, List.replicate_succ, List.replicate_zero, List.cons_append, List.nil_append, List.append_nil, List.getElem?_cons_zero, List.getElem?_cons_succ, List.set_cons_zero, List.set_cons_succ, List.getD_cons_zero, List.getD_cons_succ, List.filterMap_cons, List.filterMap_nil, List.all_cons, List.all_nil, Bool.and_true, Bool.true_and, Bool.not_true, Bool.not_false, Bool.not_eq_true, Bool.false_eq_true, Bool.and_self, if_true, if_false, true_and, and_true, ↓reduceIte, eqD, neD, sh_int, eqv_int, eqv_strs, sDraw, List.length_cons, List.length_nil, Nat.zero_add, Nat.reduceAdd]
  let pl : Int → Nat := fun k => th.findIdx fun p => p.1.contains k
  have hpl : ∀ k, k ∈ deck → pl k < th.length ∧ valD (putTh 0 th []) (.inl k) = some (.int ((pl k : Nat) : Int)) := fun k hk => by
    have hk2 : k ∈ kinds th := (List.Perm.mem_iff h1.perm).mpr (mem_row.mpr (deck_lt h2 k hk))
    unfold kinds at hk2
    obtain ⟨l, hl, hkl⟩ := List.mem_flatten.mp hk2
    obtain ⟨p, hp, rfl⟩ := List.mem_map.mp hl
    have hlt : pl k < th.length := List.findIdx_lt_length_of_exists ⟨p, hp, by simpa using hkl⟩
    have hget : (th[pl k]).1.contains k = true := List.findIdx_getElem (w := hlt)
    rw [List.contains_eq_mem] at hget
    have := putTh_in th 0 [] h1.nodup (pl k) th[pl k] (by simp [hlt]) (of_decide_eq_true hget)
    rw [Nat.zero_add] at this
    exact ⟨hlt, this⟩
  have e0 : ((th.map lotD).map fun _ => lstI []) = (th.map fun _ => ([] : List Int)).map lstI := by simp
  rw [e0]
  refine loop_heaps _ th pl _ s5 s6 .un .un _ deck 0 (th.map fun _ => []) s4 s7 .un (by simp) hpl (fun l hl => by
    obtain ⟨p, _, rfl⟩ := List.mem_map.mp hl
    have := h2.few
    simp; omega) fun s4 s7 s8 => ?_
  rw [heaps_made fun k hk a p ha => by
    obtain ⟨q1, q2⟩ := hpl k hk
    by_cases e : k ∈ p.1
    · have q3 := putTh_in th 0 [] h1.nodup a p ha e
      rw [q2, Nat.zero_add] at q3
      have : ((pl k : Nat) : Int) = (a : Int) := PyData.int.inj (Option.some.inj q3)
      have : pl k = a := by omega
      simp [e, this]
    · have : ¬ pl k = a := fun z => by
        subst z
        have hget : (th[pl k]).1.contains k = true := List.findIdx_getElem (w := q1)
        rw [List.contains_eq_mem] at hget
        have e2 : th[pl k]? = some th[pl k] := by simp [q1]
        rw [e2] at ha
        cases ha
        exact e (of_decide_eq_true hget)
      simp [e, this]]
  simp only [Q.addF, Q.enOf, Q.tV, Q.tK, Q.t2, Q.t1, Q.tB, Q.cI, Q.cIp, Q.addI, Q.subI, Q.mulI, Q.fdivI, Q.modI, Q.powI, Q.ltI, Q.leI, Q.gtI, Q.geI, Q.negI, Q.vAnd, Q.vOr, Q.vNot, Q.qAnd, Q.qOr, Q.qNot, Q.qIf, Q.chI, Q.tTupQ, Q.dNil, Q.dCons, Q.tLstQ, Q.tFz, Q.tCA, Q.lenD, Q.tupD, Q.isD, Q.isInt, Q.isBool, Q.isTup, Q.isStr, Q.isLst, Q.tLenN, Q.tIxN, Q.setQ, Q.aNil, Q.aD, Q.aK, Q.tCallQ, Q.tCallKQ, Q.pick, Q.sNil, Q.sSeq, Q.sRet, Q.sRetN, Q.sExpr, Q.sIf, Q.sSet, Q.sSetL, Q.sAsg, Q.sFor, Q.sPar2, Q.sPar3, Q.pNil, Q.pD, Q.pO, Q.pDn, Q.gN, Q.gT, Q.gsNil, Q.gsCons, Q.iQ, Q.itD, Q.iEn, Q.itE, Q.rg1, Q.rg2, Q.oNone, Q.oSome, Q.tSlQ, Q.revD, Q.tOwnM, Q.appC, Q.popC, Q.extC, Q.ownL, Q.tRepL, Q.repC, Q.sSetIx, Q.ixOwn, Q.tLcQ, Q.noOwn, Q.rstQ, Q.wipeQ, Q.sDn, Q.sSetD, Q.tDgetN, Q.dOwn, Q.tTupRg, Q.sNever, Q.isB, Q.listD, Q.listC, Q.reprD, Q.Sl.isOwn, List.map_cons, List.map_nil, List.replicate_succ, List.replicate_zero, List.cons_append, List.nil_append, List.append_nil, List.getElem?_cons_zero, List.getElem?_cons_succ, List.set_cons_zero, List.set_cons_succ, List.getD_cons_zero, List.getD_cons_succ, List.filterMap_cons, List.filterMap_nil, List.all_cons, List.all_nil, Bool.and_true, Bool.true_and, Bool.not_true, Bool.not_false, Bool.not_eq_true, Bool.false_eq_true, Bool.and_self, if_true, if_false, true_and, and_true, ↓reduceIte, eqD, neD, sh_int, eqv_int, eqv_strs, sDraw, List.length_cons, List.length_nil, Nat.zero_add, Nat.reduceAdd]
  refine ⟨by decide, ?_⟩
  have hlen : (rawOrder th deck).length ≤ 60 := by
    rw [(raw_ord h1 (deck_lt h2)).length]; exact h2.few
  refine loop_flat _ _ _ _ _ _ _ _ _ _ (th.map (heapOf deck)) [] _ (by unfold rawOrder at hlen; simp at hlen ⊢; omega) fun s10 => ?_
  simp only [List.nil_append, Q.addF, Q.enOf, Q.tV, Q.tK, Q.t2, Q.t1, Q.tB, Q.cI, Q.cIp, Q.addI, Q.subI, Q.mulI, Q.fdivI, Q.modI, Q.powI, Q.ltI, Q.leI, Q.gtI, Q.geI, Q.negI, Q.vAnd, Q.vOr, Q.vNot, Q.qAnd, Q.qOr, Q.qNot, Q.qIf, Q.chI, Q.tTupQ, Q.dNil, Q.dCons, Q.tLstQ, Q.tFz, Q.tCA, Q.lenD, Q.tupD, Q.isD, Q.isInt, Q.isBool, Q.isTup, Q.isStr, Q.isLst, Q.tLenN, Q.tIxN, Q.setQ, Q.aNil, Q.aD, Q.aK, Q.tCallQ, Q.tCallKQ, Q.pick, Q.sNil, Q.sSeq, Q.sRet, Q.sRetN, Q.sExpr, Q.sIf, Q.sSet, Q.sSetL, Q.sAsg, Q.sFor, Q.sPar2, Q.sPar3, Q.pNil, Q.pD, Q.pO, Q.pDn, Q.gN, Q.gT, Q.gsNil, Q.gsCons, Q.iQ, Q.itD, Q.iEn, Q.itE, Q.rg1, Q.rg2, Q.oNone, Q.oSome, Q.tSlQ, Q.revD, Q.tOwnM, Q.appC, Q.popC, Q.extC, Q.ownL, Q.tRepL, Q.repC, Q.sSetIx, Q.ixOwn, Q.tLcQ, Q.noOwn, Q.rstQ, Q.wipeQ, Q.sDn, Q.sSetD, Q.tDgetN, Q.dOwn, Q.tTupRg, Q.sNever, Q.isB, Q.listD, Q.listC, Q.reprD, Q.Sl.isOwn, List.map_cons, List.map_nil, List.replicate_succ, List.replicate_zero, List.cons_append, List.nil_append, List.append_nil, List.getElem?_cons_zero, List.getElem?_cons_succ, List.set_cons_zero, List.set_cons_succ, List.getD_cons_zero, List.getD_cons_succ, List.filterMap_cons, List.filterMap_nil, List.all_cons, List.all_nil, Bool.and_true, Bool.true_and, Bool.not_true, Bool.not_false, Bool.not_eq_true, Bool.false_eq_true, Bool.and_self, if_true, if_false, true_and, and_true, ↓reduceIte, eqD, neD, sh_int, eqv_int, eqv_strs, sDraw, List.length_cons, List.length_nil, Nat.zero_add, Nat.reduceAdd]
  exact h
end T01
end P25
section P26
open PySem PySem.Spec PyProof.Rows L2 HT Q
namespace T01
theorem tnI {ns : List Int} (h : ∀ i, i ∈ ns → 0 ≤ i ∧ i ≤ 60) (hl : ns.length ≤ 60) : Tn 1 363 (tupI ns) := tn_ints (n := 60) (fun i hi => by have := h i hi; omega) hl
theorem tnO {n : Nat} {o : List Int} (h : Ord n o) (hn : n ≤ 60) : Tn 1 363 (tupI o) := tnI (fun i hi => by have := h.mem hi; omega) (by rw [h.length]; exact hn)
theorem tnD {n : Int} {d : List Int} (h : DeckOk n d) (hn : n ≤ 8) : Tn 1 363 (tupI d) := tnI (fun i hi => by have := h.bd i hi; omega) h.few
theorem tnC {n : Nat} {d : List Int} (hn : n ≤ 8) (h : d.length ≤ 60) : Tn 1 363 (tupI (countsL n d)) := tnI (fun i hi => by
  unfold countsL at hi
  obtain ⟨k, hk, rfl⟩ := List.mem_map.mp hi
  have := List.length_filter_le (fun c => decide (c = k)) d
  omega) (by unfold countsL; rw [List.length_map, row_length]; omega)
theorem tnL {xs : List PyData} (h : ∀ x, x ∈ xs → Tn 1 363 x) (hl : xs.length ≤ 4) : Tn 2 1463 (.tuple xs) := tn_tup (n := 4) h hl
theorem tn2 {x y : PyData} (hx : Tn 1 363 x) (hy : Tn 1 363 y) : Tn 2 1463 (.tuple [x, y]) := tnL (fun z hz => by
  simp only [List.mem_cons, List.not_mem_nil, or_false] at hz
  rcases hz with rfl | rfl <;> assumption) (by simp)
theorem tn3 {x y z : PyData} (hx : Tn 1 363 x) (hy : Tn 1 363 y) (hz : Tn 1 363 z) : Tn 2 1463 (.tuple [x, y, z]) := tnL (fun u hu => by
  simp only [List.mem_cons, List.not_mem_nil, or_false] at hu
  rcases hu with rfl | rfl | rfl <;> assumption) (by simp)
theorem tn4 {x y z v : PyData} (hx : Tn 1 363 x) (hy : Tn 1 363 y) (hz : Tn 1 363 z) (hv : Tn 1 363 v) : Tn 2 1463 (.tuple [x, y, z, v]) := tnL (fun u hu => by
  simp only [List.mem_cons, List.not_mem_nil, or_false] at hu
  rcases hu with rfl | rfl | rfl | rfl <;> assumption) (by simp)
theorem tr2 {d : PyData} (h : Tn 2 1463 d) : RepOk d := h.rep (by decide) (by decide)
theorem tr1 {d : PyData} (h : Tn 1 363 d) : RepOk d := h.rep (by decide) (by decide)
theorem laid_deck {n : Int} {d o : List Int} (h : DeckOk n d) (ho : Ord d.length o) : DeckOk n (laidL d o) := ⟨fun i hi => h.bd i ((List.Perm.mem_iff (laid_perm ho)).mp hi), by rw [laid_length, ho.length]; exact h.few⟩
theorem deck8 {n : Int} {d : List Int} (h : DeckOk n d) (hn : n ≤ 8) : DeckOk 8 d := ⟨fun i hi => by have := h.bd i hi; omega, h.few⟩
def sp__law_are_orders_right : PSpec := fun as R => ∃ d a b c : List Int, as = [.d (tupI d), .d (tupI a), .d (tupI b), .d (tupI c)] ∧ DeckOk 8 d ∧ Ord d.length a ∧ Ord d.length b ∧ Ord d.length c ∧ R (.bool true)
theorem len__law_are_orders_right : ∀ as R, sp__law_are_orders_right as R → as.length = 4 := by rintro as R ⟨d, a, b, c, rfl, _⟩; rfl
theorem rd__law_are_orders_right : ∀ as R, sp__law_are_orders_right as R → t__law_are_orders_right sp__law_together sp__law_laid sp_laid sp_together sp__law_undone sp_undone_order sp_opposite sp_is_order { nx := fun _ => R .none, rt := R } (enOf as 5) := by
  rintro as R ⟨d, a, b, c, rfl, hd, ha, hb, hc, h⟩
  have hn := hd.few
  have hab := ha.laid hb
  have hbc := hb.laid hc
  have hua := ha.undo
  have hr := Ord.row d.length
  have tw := laid_laid (d := d) (ha.lt hb)
  have nl : (laidL d a).length = d.length := by rw [laid_length, ha.length]
  have hnear := laid_deck hd ha
  simp only [t__law_are_orders_right, Q.addF, Q.enOf, Q.tV, Q.tK, Q.t2, Q.t1, Q.tB, Q.cI, Q.cIp, Q.addI, Q.subI, Q.mulI, Q.fdivI, Q.modI, Q.powI, Q.ltI, Q.leI, Q.gtI, Q.geI, Q.negI, Q.vAnd, Q.vOr, Q.vNot, Q.qAnd, Q.qOr, Q.qNot, Q.qIf, Q.chI, Q.tTupQ, Q.dNil, Q.dCons, Q.tLstQ, Q.tFz, Q.tCA, Q.lenD, Q.tupD, Q.isD, Q.isInt, Q.isBool, Q.isTup, Q.isStr, Q.isLst, Q.tLenN, Q.tIxN, Q.setQ, Q.aNil, Q.aD, Q.aK, Q.tCallQ, Q.tCallKQ, Q.pick, Q.sNil, Q.sSeq, Q.sRet, Q.sRetN, Q.sExpr, Q.sIf, Q.sSet, Q.sSetL, Q.sAsg, Q.sFor, Q.sPar2, Q.sPar3, Q.pNil, Q.pD, Q.pO, Q.pDn, Q.gN, Q.gT, Q.gsNil, Q.gsCons, Q.iQ, Q.itD, Q.iEn, Q.itE, Q.rg1, Q.rg2, Q.oNone, Q.oSome, Q.tSlQ, Q.revD, Q.tOwnM, Q.appC, Q.popC, Q.extC, Q.ownL, Q.tRepL, Q.repC, Q.sSetIx, Q.ixOwn, Q.tLcQ, Q.noOwn, Q.rstQ, Q.wipeQ, Q.sDn, Q.sSetD, Q.tDgetN, Q.dOwn, Q.tTupRg, Q.sNever, Q.isB, Q.listD, Q.listC, Q.reprD, Q.Sl.isOwn, List.map_cons, List.map_nil, List.replicate_succ, List.replicate_zero, List.cons_append, List.nil_append, List.append_nil, List.getElem?_cons_zero, List.getElem?_cons_succ, List.set_cons_zero, List.set_cons_succ, List.getD_cons_zero, List.getD_cons_succ, List.filterMap_cons, List.filterMap_nil, List.all_cons, List.all_nil, Bool.and_true, Bool.true_and, Bool.not_true, Bool.not_false, Bool.not_eq_true, Bool.false_eq_true, Bool.and_self, if_true, if_false, true_and, and_true, ↓reduceIte, eqD, neD, sh_int, eqv_int, eqv_strs, sDraw, List.length_cons, List.length_nil, Nat.zero_add, Nat.reduceAdd, decide_true, eq_self]
  refine ⟨d, a, rfl, fun c hc => ha.mem hc, ?_⟩
  try simp only [Q.addF, Q.enOf, Q.tV, Q.tK, Q.t2, Q.t1, Q.tB, Q.cI, Q.cIp, Q.addI, Q.subI, Q.mulI, Q.fdivI, Q.modI, Q.powI, Q.ltI, Q.leI, Q.gtI, Q.geI, Q.negI, Q.vAnd, Q.vOr, Q.vNot, Q.qAnd, Q.qOr, Q.qNot, Q.qIf, Q.chI, Q.tTupQ, Q.dNil, Q.dCons, Q.tLstQ, Q.tFz, Q.tCA, Q.lenD, Q.tupD, Q.isD, Q.isInt, Q.isBool, Q.isTup, Q.isStr, Q.isLst, Q.tLenN, Q.tIxN, Q.setQ, Q.aNil, Q.aD, Q.aK, Q.tCallQ, Q.tCallKQ, Q.pick, Q.sNil, Q.sSeq, Q.sRet, Q.sRetN, Q.sExpr, Q.sIf, Q.sSet, Q.sSetL, Q.sAsg, Q.sFor, Q.sPar2, Q.sPar3, Q.pNil, Q.pD, Q.pO, Q.pDn, Q.gN, Q.gT, Q.gsNil, Q.gsCons, Q.iQ, Q.itD, Q.iEn, Q.itE, Q.rg1, Q.rg2, Q.oNone, Q.oSome, Q.tSlQ, Q.revD, Q.tOwnM, Q.appC, Q.popC, Q.extC, Q.ownL, Q.tRepL, Q.repC, Q.sSetIx, Q.ixOwn, Q.tLcQ, Q.noOwn, Q.rstQ, Q.wipeQ, Q.sDn, Q.sSetD, Q.tDgetN, Q.dOwn, Q.tTupRg, Q.sNever, Q.isB, Q.listD, Q.listC, Q.reprD, Q.Sl.isOwn, List.map_cons, List.map_nil, List.replicate_succ, List.replicate_zero, List.cons_append, List.nil_append, List.append_nil, List.getElem?_cons_zero, List.getElem?_cons_succ, List.set_cons_zero, List.set_cons_succ, List.getD_cons_zero, List.getD_cons_succ, List.filterMap_cons, List.filterMap_nil, List.all_cons, List.all_nil, Bool.and_true, Bool.true_and, Bool.not_true, Bool.not_false, Bool.not_eq_true, Bool.false_eq_true, Bool.and_self, if_true, if_false, true_and, and_true, ↓reduceIte, eqD, neD, sh_int, eqv_int, eqv_strs, sDraw, List.length_cons, List.length_nil, Nat.zero_add, Nat.reduceAdd, decide_true, eq_self]
  refine ⟨a, b, rfl, ha.lt hb, ?_⟩
  try simp only [Q.addF, Q.enOf, Q.tV, Q.tK, Q.t2, Q.t1, Q.tB, Q.cI, Q.cIp, Q.addI, Q.subI, Q.mulI, Q.fdivI, Q.modI, Q.powI, Q.ltI, Q.leI, Q.gtI, Q.geI, Q.negI, Q.vAnd, Q.vOr, Q.vNot, Q.qAnd, Q.qOr, Q.qNot, Q.qIf, Q.chI, Q.tTupQ, Q.dNil, Q.dCons, Q.tLstQ, Q.tFz, Q.tCA, Q.lenD, Q.tupD, Q.isD, Q.isInt, Q.isBool, Q.isTup, Q.isStr, Q.isLst, Q.tLenN, Q.tIxN, Q.setQ, Q.aNil, Q.aD, Q.aK, Q.tCallQ, Q.tCallKQ, Q.pick, Q.sNil, Q.sSeq, Q.sRet, Q.sRetN, Q.sExpr, Q.sIf, Q.sSet, Q.sSetL, Q.sAsg, Q.sFor, Q.sPar2, Q.sPar3, Q.pNil, Q.pD, Q.pO, Q.pDn, Q.gN, Q.gT, Q.gsNil, Q.gsCons, Q.iQ, Q.itD, Q.iEn, Q.itE, Q.rg1, Q.rg2, Q.oNone, Q.oSome, Q.tSlQ, Q.revD, Q.tOwnM, Q.appC, Q.popC, Q.extC, Q.ownL, Q.tRepL, Q.repC, Q.sSetIx, Q.ixOwn, Q.tLcQ, Q.noOwn, Q.rstQ, Q.wipeQ, Q.sDn, Q.sSetD, Q.tDgetN, Q.dOwn, Q.tTupRg, Q.sNever, Q.isB, Q.listD, Q.listC, Q.reprD, Q.Sl.isOwn, List.map_cons, List.map_nil, List.replicate_succ, List.replicate_zero, List.cons_append, List.nil_append, List.append_nil, List.getElem?_cons_zero, List.getElem?_cons_succ, List.set_cons_zero, List.set_cons_succ, List.getD_cons_zero, List.getD_cons_succ, List.filterMap_cons, List.filterMap_nil, List.all_cons, List.all_nil, Bool.and_true, Bool.true_and, Bool.not_true, Bool.not_false, Bool.not_eq_true, Bool.false_eq_true, Bool.and_self, if_true, if_false, true_and, and_true, ↓reduceIte, eqD, neD, sh_int, eqv_int, eqv_strs, sDraw, List.length_cons, List.length_nil, Nat.zero_add, Nat.reduceAdd, decide_true, eq_self]
  -- laid
  refine ⟨d, a, rfl, hd, ha, ?_⟩
  try simp only [Q.addF, Q.enOf, Q.tV, Q.tK, Q.t2, Q.t1, Q.tB, Q.cI, Q.cIp, Q.addI, Q.subI, Q.mulI, Q.fdivI, Q.modI, Q.powI, Q.ltI, Q.leI, Q.gtI, Q.geI, Q.negI, Q.vAnd, Q.vOr, Q.vNot, Q.qAnd, Q.qOr, Q.qNot, Q.qIf, Q.chI, Q.tTupQ, Q.dNil, Q.dCons, Q.tLstQ, Q.tFz, Q.tCA, Q.lenD, Q.tupD, Q.isD, Q.isInt, Q.isBool, Q.isTup, Q.isStr, Q.isLst, Q.tLenN, Q.tIxN, Q.setQ, Q.aNil, Q.aD, Q.aK, Q.tCallQ, Q.tCallKQ, Q.pick, Q.sNil, Q.sSeq, Q.sRet, Q.sRetN, Q.sExpr, Q.sIf, Q.sSet, Q.sSetL, Q.sAsg, Q.sFor, Q.sPar2, Q.sPar3, Q.pNil, Q.pD, Q.pO, Q.pDn, Q.gN, Q.gT, Q.gsNil, Q.gsCons, Q.iQ, Q.itD, Q.iEn, Q.itE, Q.rg1, Q.rg2, Q.oNone, Q.oSome, Q.tSlQ, Q.revD, Q.tOwnM, Q.appC, Q.popC, Q.extC, Q.ownL, Q.tRepL, Q.repC, Q.sSetIx, Q.ixOwn, Q.tLcQ, Q.noOwn, Q.rstQ, Q.wipeQ, Q.sDn, Q.sSetD, Q.tDgetN, Q.dOwn, Q.tTupRg, Q.sNever, Q.isB, Q.listD, Q.listC, Q.reprD, Q.Sl.isOwn, List.map_cons, List.map_nil, List.replicate_succ, List.replicate_zero, List.cons_append, List.nil_append, List.append_nil, List.getElem?_cons_zero, List.getElem?_cons_succ, List.set_cons_zero, List.set_cons_succ, List.getD_cons_zero, List.getD_cons_succ, List.filterMap_cons, List.filterMap_nil, List.all_cons, List.all_nil, Bool.and_true, Bool.true_and, Bool.not_true, Bool.not_false, Bool.not_eq_true, Bool.false_eq_true, Bool.and_self, if_true, if_false, true_and, and_true, ↓reduceIte, eqD, neD, sh_int, eqv_int, eqv_strs, sDraw, List.length_cons, List.length_nil, Nat.zero_add, Nat.reduceAdd, decide_true, eq_self]
  refine ⟨d, a, rfl, hd, ha, ?_⟩
  have q1 := tn2 (tnD hnear (by decide)) (tnD hnear (by decide))
  refine ⟨by decide, (tr2 q1), by decide, (tr2 q1), q1.text, q1.text, ?_⟩
  try simp only [Q.addF, Q.enOf, Q.tV, Q.tK, Q.t2, Q.t1, Q.tB, Q.cI, Q.cIp, Q.addI, Q.subI, Q.mulI, Q.fdivI, Q.modI, Q.powI, Q.ltI, Q.leI, Q.gtI, Q.geI, Q.negI, Q.vAnd, Q.vOr, Q.vNot, Q.qAnd, Q.qOr, Q.qNot, Q.qIf, Q.chI, Q.tTupQ, Q.dNil, Q.dCons, Q.tLstQ, Q.tFz, Q.tCA, Q.lenD, Q.tupD, Q.isD, Q.isInt, Q.isBool, Q.isTup, Q.isStr, Q.isLst, Q.tLenN, Q.tIxN, Q.setQ, Q.aNil, Q.aD, Q.aK, Q.tCallQ, Q.tCallKQ, Q.pick, Q.sNil, Q.sSeq, Q.sRet, Q.sRetN, Q.sExpr, Q.sIf, Q.sSet, Q.sSetL, Q.sAsg, Q.sFor, Q.sPar2, Q.sPar3, Q.pNil, Q.pD, Q.pO, Q.pDn, Q.gN, Q.gT, Q.gsNil, Q.gsCons, Q.iQ, Q.itD, Q.iEn, Q.itE, Q.rg1, Q.rg2, Q.oNone, Q.oSome, Q.tSlQ, Q.revD, Q.tOwnM, Q.appC, Q.popC, Q.extC, Q.ownL, Q.tRepL, Q.repC, Q.sSetIx, Q.ixOwn, Q.tLcQ, Q.noOwn, Q.rstQ, Q.wipeQ, Q.sDn, Q.sSetD, Q.tDgetN, Q.dOwn, Q.tTupRg, Q.sNever, Q.isB, Q.listD, Q.listC, Q.reprD, Q.Sl.isOwn, List.map_cons, List.map_nil, List.replicate_succ, List.replicate_zero, List.cons_append, List.nil_append, List.append_nil, List.getElem?_cons_zero, List.getElem?_cons_succ, List.set_cons_zero, List.set_cons_succ, List.getD_cons_zero, List.getD_cons_succ, List.filterMap_cons, List.filterMap_nil, List.all_cons, List.all_nil, Bool.and_true, Bool.true_and, Bool.not_true, Bool.not_false, Bool.not_eq_true, Bool.false_eq_true, Bool.and_self, if_true, if_false, true_and, and_true, ↓reduceIte, eqD, neD, sh_int, eqv_int, eqv_strs, sDraw, List.length_cons, List.length_nil, Nat.zero_add, Nat.reduceAdd, decide_true, eq_self]
  -- together
  refine ⟨d.length, a, b, rfl, ha, hb, hn, ?_⟩
  try simp only [Q.addF, Q.enOf, Q.tV, Q.tK, Q.t2, Q.t1, Q.tB, Q.cI, Q.cIp, Q.addI, Q.subI, Q.mulI, Q.fdivI, Q.modI, Q.powI, Q.ltI, Q.leI, Q.gtI, Q.geI, Q.negI, Q.vAnd, Q.vOr, Q.vNot, Q.qAnd, Q.qOr, Q.qNot, Q.qIf, Q.chI, Q.tTupQ, Q.dNil, Q.dCons, Q.tLstQ, Q.tFz, Q.tCA, Q.lenD, Q.tupD, Q.isD, Q.isInt, Q.isBool, Q.isTup, Q.isStr, Q.isLst, Q.tLenN, Q.tIxN, Q.setQ, Q.aNil, Q.aD, Q.aK, Q.tCallQ, Q.tCallKQ, Q.pick, Q.sNil, Q.sSeq, Q.sRet, Q.sRetN, Q.sExpr, Q.sIf, Q.sSet, Q.sSetL, Q.sAsg, Q.sFor, Q.sPar2, Q.sPar3, Q.pNil, Q.pD, Q.pO, Q.pDn, Q.gN, Q.gT, Q.gsNil, Q.gsCons, Q.iQ, Q.itD, Q.iEn, Q.itE, Q.rg1, Q.rg2, Q.oNone, Q.oSome, Q.tSlQ, Q.revD, Q.tOwnM, Q.appC, Q.popC, Q.extC, Q.ownL, Q.tRepL, Q.repC, Q.sSetIx, Q.ixOwn, Q.tLcQ, Q.noOwn, Q.rstQ, Q.wipeQ, Q.sDn, Q.sSetD, Q.tDgetN, Q.dOwn, Q.tTupRg, Q.sNever, Q.isB, Q.listD, Q.listC, Q.reprD, Q.Sl.isOwn, List.map_cons, List.map_nil, List.replicate_succ, List.replicate_zero, List.cons_append, List.nil_append, List.append_nil, List.getElem?_cons_zero, List.getElem?_cons_succ, List.set_cons_zero, List.set_cons_succ, List.getD_cons_zero, List.getD_cons_succ, List.filterMap_cons, List.filterMap_nil, List.all_cons, List.all_nil, Bool.and_true, Bool.true_and, Bool.not_true, Bool.not_false, Bool.not_eq_true, Bool.false_eq_true, Bool.and_self, if_true, if_false, true_and, and_true, ↓reduceIte, eqD, neD, sh_int, eqv_int, eqv_strs, sDraw, List.length_cons, List.length_nil, Nat.zero_add, Nat.reduceAdd, decide_true, eq_self]
  refine ⟨d.length, a, b, rfl, ha, hb, hn, ?_⟩
  try simp only [Q.addF, Q.enOf, Q.tV, Q.tK, Q.t2, Q.t1, Q.tB, Q.cI, Q.cIp, Q.addI, Q.subI, Q.mulI, Q.fdivI, Q.modI, Q.powI, Q.ltI, Q.leI, Q.gtI, Q.geI, Q.negI, Q.vAnd, Q.vOr, Q.vNot, Q.qAnd, Q.qOr, Q.qNot, Q.qIf, Q.chI, Q.tTupQ, Q.dNil, Q.dCons, Q.tLstQ, Q.tFz, Q.tCA, Q.lenD, Q.tupD, Q.isD, Q.isInt, Q.isBool, Q.isTup, Q.isStr, Q.isLst, Q.tLenN, Q.tIxN, Q.setQ, Q.aNil, Q.aD, Q.aK, Q.tCallQ, Q.tCallKQ, Q.pick, Q.sNil, Q.sSeq, Q.sRet, Q.sRetN, Q.sExpr, Q.sIf, Q.sSet, Q.sSetL, Q.sAsg, Q.sFor, Q.sPar2, Q.sPar3, Q.pNil, Q.pD, Q.pO, Q.pDn, Q.gN, Q.gT, Q.gsNil, Q.gsCons, Q.iQ, Q.itD, Q.iEn, Q.itE, Q.rg1, Q.rg2, Q.oNone, Q.oSome, Q.tSlQ, Q.revD, Q.tOwnM, Q.appC, Q.popC, Q.extC, Q.ownL, Q.tRepL, Q.repC, Q.sSetIx, Q.ixOwn, Q.tLcQ, Q.noOwn, Q.rstQ, Q.wipeQ, Q.sDn, Q.sSetD, Q.tDgetN, Q.dOwn, Q.tTupRg, Q.sNever, Q.isB, Q.listD, Q.listC, Q.reprD, Q.Sl.isOwn, List.map_cons, List.map_nil, List.replicate_succ, List.replicate_zero, List.cons_append, List.nil_append, List.append_nil, List.getElem?_cons_zero, List.getElem?_cons_succ, List.set_cons_zero, List.set_cons_succ, List.getD_cons_zero, List.getD_cons_succ, List.filterMap_cons, List.filterMap_nil, List.all_cons, List.all_nil, Bool.and_true, Bool.true_and, Bool.not_true, Bool.not_false, Bool.not_eq_true, Bool.false_eq_true, Bool.and_self, if_true, if_false, true_and, and_true, ↓reduceIte, eqD, neD, sh_int, eqv_int, eqv_strs, sDraw, List.length_cons, List.length_nil, Nat.zero_add, Nat.reduceAdd, decide_true, eq_self]
  refine ⟨d, laidL a b, rfl, hd, hab, ?_⟩
  have q2 := tn3 (tnO hab hn) (tnO hab hn) (tnD (laid_deck hd hab) (by decide))
  refine ⟨by decide, (tr2 q2), ?_⟩
  try simp only [Q.addF, Q.enOf, Q.tV, Q.tK, Q.t2, Q.t1, Q.tB, Q.cI, Q.cIp, Q.addI, Q.subI, Q.mulI, Q.fdivI, Q.modI, Q.powI, Q.ltI, Q.leI, Q.gtI, Q.geI, Q.negI, Q.vAnd, Q.vOr, Q.vNot, Q.qAnd, Q.qOr, Q.qNot, Q.qIf, Q.chI, Q.tTupQ, Q.dNil, Q.dCons, Q.tLstQ, Q.tFz, Q.tCA, Q.lenD, Q.tupD, Q.isD, Q.isInt, Q.isBool, Q.isTup, Q.isStr, Q.isLst, Q.tLenN, Q.tIxN, Q.setQ, Q.aNil, Q.aD, Q.aK, Q.tCallQ, Q.tCallKQ, Q.pick, Q.sNil, Q.sSeq, Q.sRet, Q.sRetN, Q.sExpr, Q.sIf, Q.sSet, Q.sSetL, Q.sAsg, Q.sFor, Q.sPar2, Q.sPar3, Q.pNil, Q.pD, Q.pO, Q.pDn, Q.gN, Q.gT, Q.gsNil, Q.gsCons, Q.iQ, Q.itD, Q.iEn, Q.itE, Q.rg1, Q.rg2, Q.oNone, Q.oSome, Q.tSlQ, Q.revD, Q.tOwnM, Q.appC, Q.popC, Q.extC, Q.ownL, Q.tRepL, Q.repC, Q.sSetIx, Q.ixOwn, Q.tLcQ, Q.noOwn, Q.rstQ, Q.wipeQ, Q.sDn, Q.sSetD, Q.tDgetN, Q.dOwn, Q.tTupRg, Q.sNever, Q.isB, Q.listD, Q.listC, Q.reprD, Q.Sl.isOwn, List.map_cons, List.map_nil, List.replicate_succ, List.replicate_zero, List.cons_append, List.nil_append, List.append_nil, List.getElem?_cons_zero, List.getElem?_cons_succ, List.set_cons_zero, List.set_cons_succ, List.getD_cons_zero, List.getD_cons_succ, List.filterMap_cons, List.filterMap_nil, List.all_cons, List.all_nil, Bool.and_true, Bool.true_and, Bool.not_true, Bool.not_false, Bool.not_eq_true, Bool.false_eq_true, Bool.and_self, if_true, if_false, true_and, and_true, ↓reduceIte, eqD, neD, sh_int, eqv_int, eqv_strs, sDraw, List.length_cons, List.length_nil, Nat.zero_add, Nat.reduceAdd, decide_true, eq_self]
  refine ⟨laidL d a, b, rfl, hnear, by rw [nl]; exact hb, ?_⟩
  rw [tw]
  refine ⟨by decide, (tr2 q2), q2.text, q2.text, ?_⟩
  try simp only [Q.addF, Q.enOf, Q.tV, Q.tK, Q.t2, Q.t1, Q.tB, Q.cI, Q.cIp, Q.addI, Q.subI, Q.mulI, Q.fdivI, Q.modI, Q.powI, Q.ltI, Q.leI, Q.gtI, Q.geI, Q.negI, Q.vAnd, Q.vOr, Q.vNot, Q.qAnd, Q.qOr, Q.qNot, Q.qIf, Q.chI, Q.tTupQ, Q.dNil, Q.dCons, Q.tLstQ, Q.tFz, Q.tCA, Q.lenD, Q.tupD, Q.isD, Q.isInt, Q.isBool, Q.isTup, Q.isStr, Q.isLst, Q.tLenN, Q.tIxN, Q.setQ, Q.aNil, Q.aD, Q.aK, Q.tCallQ, Q.tCallKQ, Q.pick, Q.sNil, Q.sSeq, Q.sRet, Q.sRetN, Q.sExpr, Q.sIf, Q.sSet, Q.sSetL, Q.sAsg, Q.sFor, Q.sPar2, Q.sPar3, Q.pNil, Q.pD, Q.pO, Q.pDn, Q.gN, Q.gT, Q.gsNil, Q.gsCons, Q.iQ, Q.itD, Q.iEn, Q.itE, Q.rg1, Q.rg2, Q.oNone, Q.oSome, Q.tSlQ, Q.revD, Q.tOwnM, Q.appC, Q.popC, Q.extC, Q.ownL, Q.tRepL, Q.repC, Q.sSetIx, Q.ixOwn, Q.tLcQ, Q.noOwn, Q.rstQ, Q.wipeQ, Q.sDn, Q.sSetD, Q.tDgetN, Q.dOwn, Q.tTupRg, Q.sNever, Q.isB, Q.listD, Q.listC, Q.reprD, Q.Sl.isOwn, List.map_cons, List.map_nil, List.replicate_succ, List.replicate_zero, List.cons_append, List.nil_append, List.append_nil, List.getElem?_cons_zero, List.getElem?_cons_succ, List.set_cons_zero, List.set_cons_succ, List.getD_cons_zero, List.getD_cons_succ, List.filterMap_cons, List.filterMap_nil, List.all_cons, List.all_nil, Bool.and_true, Bool.true_and, Bool.not_true, Bool.not_false, Bool.not_eq_true, Bool.false_eq_true, Bool.and_self, if_true, if_false, true_and, and_true, ↓reduceIte, eqD, neD, sh_int, eqv_int, eqv_strs, sDraw, List.length_cons, List.length_nil, Nat.zero_add, Nat.reduceAdd, decide_true, eq_self]
  refine ⟨d.length, laidL a b, c, rfl, hab, hc, hn, ?_⟩
  have q3 := tnO (hab.laid hc) hn
  refine ⟨(tr1 q3), ?_⟩
  try simp only [Q.addF, Q.enOf, Q.tV, Q.tK, Q.t2, Q.t1, Q.tB, Q.cI, Q.cIp, Q.addI, Q.subI, Q.mulI, Q.fdivI, Q.modI, Q.powI, Q.ltI, Q.leI, Q.gtI, Q.geI, Q.negI, Q.vAnd, Q.vOr, Q.vNot, Q.qAnd, Q.qOr, Q.qNot, Q.qIf, Q.chI, Q.tTupQ, Q.dNil, Q.dCons, Q.tLstQ, Q.tFz, Q.tCA, Q.lenD, Q.tupD, Q.isD, Q.isInt, Q.isBool, Q.isTup, Q.isStr, Q.isLst, Q.tLenN, Q.tIxN, Q.setQ, Q.aNil, Q.aD, Q.aK, Q.tCallQ, Q.tCallKQ, Q.pick, Q.sNil, Q.sSeq, Q.sRet, Q.sRetN, Q.sExpr, Q.sIf, Q.sSet, Q.sSetL, Q.sAsg, Q.sFor, Q.sPar2, Q.sPar3, Q.pNil, Q.pD, Q.pO, Q.pDn, Q.gN, Q.gT, Q.gsNil, Q.gsCons, Q.iQ, Q.itD, Q.iEn, Q.itE, Q.rg1, Q.rg2, Q.oNone, Q.oSome, Q.tSlQ, Q.revD, Q.tOwnM, Q.appC, Q.popC, Q.extC, Q.ownL, Q.tRepL, Q.repC, Q.sSetIx, Q.ixOwn, Q.tLcQ, Q.noOwn, Q.rstQ, Q.wipeQ, Q.sDn, Q.sSetD, Q.tDgetN, Q.dOwn, Q.tTupRg, Q.sNever, Q.isB, Q.listD, Q.listC, Q.reprD, Q.Sl.isOwn, List.map_cons, List.map_nil, List.replicate_succ, List.replicate_zero, List.cons_append, List.nil_append, List.append_nil, List.getElem?_cons_zero, List.getElem?_cons_succ, List.set_cons_zero, List.set_cons_succ, List.getD_cons_zero, List.getD_cons_succ, List.filterMap_cons, List.filterMap_nil, List.all_cons, List.all_nil, Bool.and_true, Bool.true_and, Bool.not_true, Bool.not_false, Bool.not_eq_true, Bool.false_eq_true, Bool.and_self, if_true, if_false, true_and, and_true, ↓reduceIte, eqD, neD, sh_int, eqv_int, eqv_strs, sDraw, List.length_cons, List.length_nil, Nat.zero_add, Nat.reduceAdd, decide_true, eq_self]
  refine ⟨d.length, b, c, rfl, hb, hc, hn, ?_⟩
  try simp only [Q.addF, Q.enOf, Q.tV, Q.tK, Q.t2, Q.t1, Q.tB, Q.cI, Q.cIp, Q.addI, Q.subI, Q.mulI, Q.fdivI, Q.modI, Q.powI, Q.ltI, Q.leI, Q.gtI, Q.geI, Q.negI, Q.vAnd, Q.vOr, Q.vNot, Q.qAnd, Q.qOr, Q.qNot, Q.qIf, Q.chI, Q.tTupQ, Q.dNil, Q.dCons, Q.tLstQ, Q.tFz, Q.tCA, Q.lenD, Q.tupD, Q.isD, Q.isInt, Q.isBool, Q.isTup, Q.isStr, Q.isLst, Q.tLenN, Q.tIxN, Q.setQ, Q.aNil, Q.aD, Q.aK, Q.tCallQ, Q.tCallKQ, Q.pick, Q.sNil, Q.sSeq, Q.sRet, Q.sRetN, Q.sExpr, Q.sIf, Q.sSet, Q.sSetL, Q.sAsg, Q.sFor, Q.sPar2, Q.sPar3, Q.pNil, Q.pD, Q.pO, Q.pDn, Q.gN, Q.gT, Q.gsNil, Q.gsCons, Q.iQ, Q.itD, Q.iEn, Q.itE, Q.rg1, Q.rg2, Q.oNone, Q.oSome, Q.tSlQ, Q.revD, Q.tOwnM, Q.appC, Q.popC, Q.extC, Q.ownL, Q.tRepL, Q.repC, Q.sSetIx, Q.ixOwn, Q.tLcQ, Q.noOwn, Q.rstQ, Q.wipeQ, Q.sDn, Q.sSetD, Q.tDgetN, Q.dOwn, Q.tTupRg, Q.sNever, Q.isB, Q.listD, Q.listC, Q.reprD, Q.Sl.isOwn, List.map_cons, List.map_nil, List.replicate_succ, List.replicate_zero, List.cons_append, List.nil_append, List.append_nil, List.getElem?_cons_zero, List.getElem?_cons_succ, List.set_cons_zero, List.set_cons_succ, List.getD_cons_zero, List.getD_cons_succ, List.filterMap_cons, List.filterMap_nil, List.all_cons, List.all_nil, Bool.and_true, Bool.true_and, Bool.not_true, Bool.not_false, Bool.not_eq_true, Bool.false_eq_true, Bool.and_self, if_true, if_false, true_and, and_true, ↓reduceIte, eqD, neD, sh_int, eqv_int, eqv_strs, sDraw, List.length_cons, List.length_nil, Nat.zero_add, Nat.reduceAdd, decide_true, eq_self]
  refine ⟨d.length, a, laidL b c, rfl, ha, hbc, hn, ?_⟩
  rw [← laid_laid (hb.lt hc)]
  refine ⟨(tr1 q3), q3.text, q3.text, ?_⟩
  try simp only [Q.addF, Q.enOf, Q.tV, Q.tK, Q.t2, Q.t1, Q.tB, Q.cI, Q.cIp, Q.addI, Q.subI, Q.mulI, Q.fdivI, Q.modI, Q.powI, Q.ltI, Q.leI, Q.gtI, Q.geI, Q.negI, Q.vAnd, Q.vOr, Q.vNot, Q.qAnd, Q.qOr, Q.qNot, Q.qIf, Q.chI, Q.tTupQ, Q.dNil, Q.dCons, Q.tLstQ, Q.tFz, Q.tCA, Q.lenD, Q.tupD, Q.isD, Q.isInt, Q.isBool, Q.isTup, Q.isStr, Q.isLst, Q.tLenN, Q.tIxN, Q.setQ, Q.aNil, Q.aD, Q.aK, Q.tCallQ, Q.tCallKQ, Q.pick, Q.sNil, Q.sSeq, Q.sRet, Q.sRetN, Q.sExpr, Q.sIf, Q.sSet, Q.sSetL, Q.sAsg, Q.sFor, Q.sPar2, Q.sPar3, Q.pNil, Q.pD, Q.pO, Q.pDn, Q.gN, Q.gT, Q.gsNil, Q.gsCons, Q.iQ, Q.itD, Q.iEn, Q.itE, Q.rg1, Q.rg2, Q.oNone, Q.oSome, Q.tSlQ, Q.revD, Q.tOwnM, Q.appC, Q.popC, Q.extC, Q.ownL, Q.tRepL, Q.repC, Q.sSetIx, Q.ixOwn, Q.tLcQ, Q.noOwn, Q.rstQ, Q.wipeQ, Q.sDn, Q.sSetD, Q.tDgetN, Q.dOwn, Q.tTupRg, Q.sNever, Q.isB, Q.listD, Q.listC, Q.reprD, Q.Sl.isOwn, List.map_cons, List.map_nil, List.replicate_succ, List.replicate_zero, List.cons_append, List.nil_append, List.append_nil, List.getElem?_cons_zero, List.getElem?_cons_succ, List.set_cons_zero, List.set_cons_succ, List.getD_cons_zero, List.getD_cons_succ, List.filterMap_cons, List.filterMap_nil, List.all_cons, List.all_nil, Bool.and_true, Bool.true_and, Bool.not_true, Bool.not_false, Bool.not_eq_true, Bool.false_eq_true, Bool.and_self, if_true, if_false, true_and, and_true, ↓reduceIte, eqD, neD, sh_int, eqv_int, eqv_strs, sDraw, List.length_cons, List.length_nil, Nat.zero_add, Nat.reduceAdd, decide_true, eq_self]
  -- the row, back, turned
  simp only [tupI, Q.addF, Q.enOf, Q.tV, Q.tK, Q.t2, Q.t1, Q.tB, Q.cI, Q.cIp, Q.addI, Q.subI, Q.mulI, Q.fdivI, Q.modI, Q.powI, Q.ltI, Q.leI, Q.gtI, Q.geI, Q.negI, Q.vAnd, Q.vOr, Q.vNot, Q.qAnd, Q.qOr, Q.qNot, Q.qIf, Q.chI, Q.tTupQ, Q.dNil, Q.dCons, Q.tLstQ, Q.tFz, Q.tCA, Q.lenD, Q.tupD, Q.isD, Q.isInt, Q.isBool, Q.isTup, Q.isStr, Q.isLst, Q.tLenN, Q.tIxN, Q.setQ, Q.aNil, Q.aD, Q.aK, Q.tCallQ, Q.tCallKQ, Q.pick, Q.sNil, Q.sSeq, Q.sRet, Q.sRetN, Q.sExpr, Q.sIf, Q.sSet, Q.sSetL, Q.sAsg, Q.sFor, Q.sPar2, Q.sPar3, Q.pNil, Q.pD, Q.pO, Q.pDn, Q.gN, Q.gT, Q.gsNil, Q.gsCons, Q.iQ, Q.itD, Q.iEn, Q.itE, Q.rg1, Q.rg2, Q.oNone, Q.oSome, Q.tSlQ, Q.revD, Q.tOwnM, Q.appC, Q.popC, Q.extC, Q.ownL, Q.tRepL, Q.repC, Q.sSetIx, Q.ixOwn, Q.tLcQ, Q.noOwn, Q.rstQ, Q.wipeQ, Q.sDn, Q.sSetD, Q.tDgetN, Q.dOwn, Q.tTupRg, Q.sNever, Q.isB, Q.listD, Q.listC, Q.reprD, Q.Sl.isOwn, List.map_cons, List.map_nil, List.replicate_succ, List.replicate_zero, List.cons_append, List.nil_append, List.append_nil, List.getElem?_cons_zero, List.getElem?_cons_succ, List.set_cons_zero, List.set_cons_succ, List.getD_cons_zero, List.getD_cons_succ, List.filterMap_cons, List.filterMap_nil, List.all_cons, List.all_nil, Bool.and_true, Bool.true_and, Bool.not_true, Bool.not_false, Bool.not_eq_true, Bool.false_eq_true, Bool.and_self, if_true, if_false, true_and, and_true, ↓reduceIte, eqD, neD, sh_int, eqv_int, eqv_strs, sDraw, List.length_cons, List.length_nil, Nat.zero_add, Nat.reduceAdd, decide_true, eq_self, List.length_map, rg_row, Int.toNat_natCast]
  refine ⟨by omega, by omega, ?_⟩
  refine ⟨d.length, a, rfl, ha, hn, ?_⟩
  try simp only [Q.addF, Q.enOf, Q.tV, Q.tK, Q.t2, Q.t1, Q.tB, Q.cI, Q.cIp, Q.addI, Q.subI, Q.mulI, Q.fdivI, Q.modI, Q.powI, Q.ltI, Q.leI, Q.gtI, Q.geI, Q.negI, Q.vAnd, Q.vOr, Q.vNot, Q.qAnd, Q.qOr, Q.qNot, Q.qIf, Q.chI, Q.tTupQ, Q.dNil, Q.dCons, Q.tLstQ, Q.tFz, Q.tCA, Q.lenD, Q.tupD, Q.isD, Q.isInt, Q.isBool, Q.isTup, Q.isStr, Q.isLst, Q.tLenN, Q.tIxN, Q.setQ, Q.aNil, Q.aD, Q.aK, Q.tCallQ, Q.tCallKQ, Q.pick, Q.sNil, Q.sSeq, Q.sRet, Q.sRetN, Q.sExpr, Q.sIf, Q.sSet, Q.sSetL, Q.sAsg, Q.sFor, Q.sPar2, Q.sPar3, Q.pNil, Q.pD, Q.pO, Q.pDn, Q.gN, Q.gT, Q.gsNil, Q.gsCons, Q.iQ, Q.itD, Q.iEn, Q.itE, Q.rg1, Q.rg2, Q.oNone, Q.oSome, Q.tSlQ, Q.revD, Q.tOwnM, Q.appC, Q.popC, Q.extC, Q.ownL, Q.tRepL, Q.repC, Q.sSetIx, Q.ixOwn, Q.tLcQ, Q.noOwn, Q.rstQ, Q.wipeQ, Q.sDn, Q.sSetD, Q.tDgetN, Q.dOwn, Q.tTupRg, Q.sNever, Q.isB, Q.listD, Q.listC, Q.reprD, Q.Sl.isOwn, List.map_cons, List.map_nil, List.replicate_succ, List.replicate_zero, List.cons_append, List.nil_append, List.append_nil, List.getElem?_cons_zero, List.getElem?_cons_succ, List.set_cons_zero, List.set_cons_succ, List.getD_cons_zero, List.getD_cons_succ, List.filterMap_cons, List.filterMap_nil, List.all_cons, List.all_nil, Bool.and_true, Bool.true_and, Bool.not_true, Bool.not_false, Bool.not_eq_true, Bool.false_eq_true, Bool.and_self, if_true, if_false, true_and, and_true, ↓reduceIte, eqD, neD, sh_int, eqv_int, eqv_strs, sDraw, List.length_cons, List.length_nil, Nat.zero_add, Nat.reduceAdd, decide_true, eq_self]
  rw [← List.map_reverse]
  refine ⟨d.length, a, rfl, ha, hn, ?_⟩
  try simp only [Q.addF, Q.enOf, Q.tV, Q.tK, Q.t2, Q.t1, Q.tB, Q.cI, Q.cIp, Q.addI, Q.subI, Q.mulI, Q.fdivI, Q.modI, Q.powI, Q.ltI, Q.leI, Q.gtI, Q.geI, Q.negI, Q.vAnd, Q.vOr, Q.vNot, Q.qAnd, Q.qOr, Q.qNot, Q.qIf, Q.chI, Q.tTupQ, Q.dNil, Q.dCons, Q.tLstQ, Q.tFz, Q.tCA, Q.lenD, Q.tupD, Q.isD, Q.isInt, Q.isBool, Q.isTup, Q.isStr, Q.isLst, Q.tLenN, Q.tIxN, Q.setQ, Q.aNil, Q.aD, Q.aK, Q.tCallQ, Q.tCallKQ, Q.pick, Q.sNil, Q.sSeq, Q.sRet, Q.sRetN, Q.sExpr, Q.sIf, Q.sSet, Q.sSetL, Q.sAsg, Q.sFor, Q.sPar2, Q.sPar3, Q.pNil, Q.pD, Q.pO, Q.pDn, Q.gN, Q.gT, Q.gsNil, Q.gsCons, Q.iQ, Q.itD, Q.iEn, Q.itE, Q.rg1, Q.rg2, Q.oNone, Q.oSome, Q.tSlQ, Q.revD, Q.tOwnM, Q.appC, Q.popC, Q.extC, Q.ownL, Q.tRepL, Q.repC, Q.sSetIx, Q.ixOwn, Q.tLcQ, Q.noOwn, Q.rstQ, Q.wipeQ, Q.sDn, Q.sSetD, Q.tDgetN, Q.dOwn, Q.tTupRg, Q.sNever, Q.isB, Q.listD, Q.listC, Q.reprD, Q.Sl.isOwn, List.map_cons, List.map_nil, List.replicate_succ, List.replicate_zero, List.cons_append, List.nil_append, List.append_nil, List.getElem?_cons_zero, List.getElem?_cons_succ, List.set_cons_zero, List.set_cons_succ, List.getD_cons_zero, List.getD_cons_succ, List.filterMap_cons, List.filterMap_nil, List.all_cons, List.all_nil, Bool.and_true, Bool.true_and, Bool.not_true, Bool.not_false, Bool.not_eq_true, Bool.false_eq_true, Bool.and_self, if_true, if_false, true_and, and_true, ↓reduceIte, eqD, neD, sh_int, eqv_int, eqv_strs, sDraw, List.length_cons, List.length_nil, Nat.zero_add, Nat.reduceAdd, decide_true, eq_self]
  refine ⟨d.length, a, rfl, ha, hn, ?_⟩
  try simp only [Q.addF, Q.enOf, Q.tV, Q.tK, Q.t2, Q.t1, Q.tB, Q.cI, Q.cIp, Q.addI, Q.subI, Q.mulI, Q.fdivI, Q.modI, Q.powI, Q.ltI, Q.leI, Q.gtI, Q.geI, Q.negI, Q.vAnd, Q.vOr, Q.vNot, Q.qAnd, Q.qOr, Q.qNot, Q.qIf, Q.chI, Q.tTupQ, Q.dNil, Q.dCons, Q.tLstQ, Q.tFz, Q.tCA, Q.lenD, Q.tupD, Q.isD, Q.isInt, Q.isBool, Q.isTup, Q.isStr, Q.isLst, Q.tLenN, Q.tIxN, Q.setQ, Q.aNil, Q.aD, Q.aK, Q.tCallQ, Q.tCallKQ, Q.pick, Q.sNil, Q.sSeq, Q.sRet, Q.sRetN, Q.sExpr, Q.sIf, Q.sSet, Q.sSetL, Q.sAsg, Q.sFor, Q.sPar2, Q.sPar3, Q.pNil, Q.pD, Q.pO, Q.pDn, Q.gN, Q.gT, Q.gsNil, Q.gsCons, Q.iQ, Q.itD, Q.iEn, Q.itE, Q.rg1, Q.rg2, Q.oNone, Q.oSome, Q.tSlQ, Q.revD, Q.tOwnM, Q.appC, Q.popC, Q.extC, Q.ownL, Q.tRepL, Q.repC, Q.sSetIx, Q.ixOwn, Q.tLcQ, Q.noOwn, Q.rstQ, Q.wipeQ, Q.sDn, Q.sSetD, Q.tDgetN, Q.dOwn, Q.tTupRg, Q.sNever, Q.isB, Q.listD, Q.listC, Q.reprD, Q.Sl.isOwn, List.map_cons, List.map_nil, List.replicate_succ, List.replicate_zero, List.cons_append, List.nil_append, List.append_nil, List.getElem?_cons_zero, List.getElem?_cons_succ, List.set_cons_zero, List.set_cons_succ, List.getD_cons_zero, List.getD_cons_succ, List.filterMap_cons, List.filterMap_nil, List.all_cons, List.all_nil, Bool.and_true, Bool.true_and, Bool.not_true, Bool.not_false, Bool.not_eq_true, Bool.false_eq_true, Bool.and_self, if_true, if_false, true_and, and_true, ↓reduceIte, eqD, neD, sh_int, eqv_int, eqv_strs, sDraw, List.length_cons, List.length_nil, Nat.zero_add, Nat.reduceAdd, decide_true, eq_self]
  refine ⟨d.length, a, rfl, ha, hn, ?_⟩
  try simp only [Q.addF, Q.enOf, Q.tV, Q.tK, Q.t2, Q.t1, Q.tB, Q.cI, Q.cIp, Q.addI, Q.subI, Q.mulI, Q.fdivI, Q.modI, Q.powI, Q.ltI, Q.leI, Q.gtI, Q.geI, Q.negI, Q.vAnd, Q.vOr, Q.vNot, Q.qAnd, Q.qOr, Q.qNot, Q.qIf, Q.chI, Q.tTupQ, Q.dNil, Q.dCons, Q.tLstQ, Q.tFz, Q.tCA, Q.lenD, Q.tupD, Q.isD, Q.isInt, Q.isBool, Q.isTup, Q.isStr, Q.isLst, Q.tLenN, Q.tIxN, Q.setQ, Q.aNil, Q.aD, Q.aK, Q.tCallQ, Q.tCallKQ, Q.pick, Q.sNil, Q.sSeq, Q.sRet, Q.sRetN, Q.sExpr, Q.sIf, Q.sSet, Q.sSetL, Q.sAsg, Q.sFor, Q.sPar2, Q.sPar3, Q.pNil, Q.pD, Q.pO, Q.pDn, Q.gN, Q.gT, Q.gsNil, Q.gsCons, Q.iQ, Q.itD, Q.iEn, Q.itE, Q.rg1, Q.rg2, Q.oNone, Q.oSome, Q.tSlQ, Q.revD, Q.tOwnM, Q.appC, Q.popC, Q.extC, Q.ownL, Q.tRepL, Q.repC, Q.sSetIx, Q.ixOwn, Q.tLcQ, Q.noOwn, Q.rstQ, Q.wipeQ, Q.sDn, Q.sSetD, Q.tDgetN, Q.dOwn, Q.tTupRg, Q.sNever, Q.isB, Q.listD, Q.listC, Q.reprD, Q.Sl.isOwn, List.map_cons, List.map_nil, List.replicate_succ, List.replicate_zero, List.cons_append, List.nil_append, List.append_nil, List.getElem?_cons_zero, List.getElem?_cons_succ, List.set_cons_zero, List.set_cons_succ, List.getD_cons_zero, List.getD_cons_succ, List.filterMap_cons, List.filterMap_nil, List.all_cons, List.all_nil, Bool.and_true, Bool.true_and, Bool.not_true, Bool.not_false, Bool.not_eq_true, Bool.false_eq_true, Bool.and_self, if_true, if_false, true_and, and_true, ↓reduceIte, eqD, neD, sh_int, eqv_int, eqv_strs, sDraw, List.length_cons, List.length_nil, Nat.zero_add, Nat.reduceAdd, decide_true, eq_self]
  refine ⟨d.length, a, rfl, ha, hn, ?_⟩
  have q4 := tn4 (tnO hua hn) (tnO hua hn) (tnO ha.rev hn) (tnO ha.rev hn)
  refine ⟨by decide, (tr2 q4), by decide, (tr2 q4), q4.text, q4.text, ?_⟩
  try simp only [Q.addF, Q.enOf, Q.tV, Q.tK, Q.t2, Q.t1, Q.tB, Q.cI, Q.cIp, Q.addI, Q.subI, Q.mulI, Q.fdivI, Q.modI, Q.powI, Q.ltI, Q.leI, Q.gtI, Q.geI, Q.negI, Q.vAnd, Q.vOr, Q.vNot, Q.qAnd, Q.qOr, Q.qNot, Q.qIf, Q.chI, Q.tTupQ, Q.dNil, Q.dCons, Q.tLstQ, Q.tFz, Q.tCA, Q.lenD, Q.tupD, Q.isD, Q.isInt, Q.isBool, Q.isTup, Q.isStr, Q.isLst, Q.tLenN, Q.tIxN, Q.setQ, Q.aNil, Q.aD, Q.aK, Q.tCallQ, Q.tCallKQ, Q.pick, Q.sNil, Q.sSeq, Q.sRet, Q.sRetN, Q.sExpr, Q.sIf, Q.sSet, Q.sSetL, Q.sAsg, Q.sFor, Q.sPar2, Q.sPar3, Q.pNil, Q.pD, Q.pO, Q.pDn, Q.gN, Q.gT, Q.gsNil, Q.gsCons, Q.iQ, Q.itD, Q.iEn, Q.itE, Q.rg1, Q.rg2, Q.oNone, Q.oSome, Q.tSlQ, Q.revD, Q.tOwnM, Q.appC, Q.popC, Q.extC, Q.ownL, Q.tRepL, Q.repC, Q.sSetIx, Q.ixOwn, Q.tLcQ, Q.noOwn, Q.rstQ, Q.wipeQ, Q.sDn, Q.sSetD, Q.tDgetN, Q.dOwn, Q.tTupRg, Q.sNever, Q.isB, Q.listD, Q.listC, Q.reprD, Q.Sl.isOwn, List.map_cons, List.map_nil, List.replicate_succ, List.replicate_zero, List.cons_append, List.nil_append, List.append_nil, List.getElem?_cons_zero, List.getElem?_cons_succ, List.set_cons_zero, List.set_cons_succ, List.getD_cons_zero, List.getD_cons_succ, List.filterMap_cons, List.filterMap_nil, List.all_cons, List.all_nil, Bool.and_true, Bool.true_and, Bool.not_true, Bool.not_false, Bool.not_eq_true, Bool.false_eq_true, Bool.and_self, if_true, if_false, true_and, and_true, ↓reduceIte, eqD, neD, sh_int, eqv_int, eqv_strs, sDraw, List.length_cons, List.length_nil, Nat.zero_add, Nat.reduceAdd, decide_true, eq_self]
  -- together with the row and back
  refine ⟨d.length, a, undo a, rfl, ha, hua, hn, ?_⟩
  try simp only [Q.addF, Q.enOf, Q.tV, Q.tK, Q.t2, Q.t1, Q.tB, Q.cI, Q.cIp, Q.addI, Q.subI, Q.mulI, Q.fdivI, Q.modI, Q.powI, Q.ltI, Q.leI, Q.gtI, Q.geI, Q.negI, Q.vAnd, Q.vOr, Q.vNot, Q.qAnd, Q.qOr, Q.qNot, Q.qIf, Q.chI, Q.tTupQ, Q.dNil, Q.dCons, Q.tLstQ, Q.tFz, Q.tCA, Q.lenD, Q.tupD, Q.isD, Q.isInt, Q.isBool, Q.isTup, Q.isStr, Q.isLst, Q.tLenN, Q.tIxN, Q.setQ, Q.aNil, Q.aD, Q.aK, Q.tCallQ, Q.tCallKQ, Q.pick, Q.sNil, Q.sSeq, Q.sRet, Q.sRetN, Q.sExpr, Q.sIf, Q.sSet, Q.sSetL, Q.sAsg, Q.sFor, Q.sPar2, Q.sPar3, Q.pNil, Q.pD, Q.pO, Q.pDn, Q.gN, Q.gT, Q.gsNil, Q.gsCons, Q.iQ, Q.itD, Q.iEn, Q.itE, Q.rg1, Q.rg2, Q.oNone, Q.oSome, Q.tSlQ, Q.revD, Q.tOwnM, Q.appC, Q.popC, Q.extC, Q.ownL, Q.tRepL, Q.repC, Q.sSetIx, Q.ixOwn, Q.tLcQ, Q.noOwn, Q.rstQ, Q.wipeQ, Q.sDn, Q.sSetD, Q.tDgetN, Q.dOwn, Q.tTupRg, Q.sNever, Q.isB, Q.listD, Q.listC, Q.reprD, Q.Sl.isOwn, List.map_cons, List.map_nil, List.replicate_succ, List.replicate_zero, List.cons_append, List.nil_append, List.append_nil, List.getElem?_cons_zero, List.getElem?_cons_succ, List.set_cons_zero, List.set_cons_succ, List.getD_cons_zero, List.getD_cons_succ, List.filterMap_cons, List.filterMap_nil, List.all_cons, List.all_nil, Bool.and_true, Bool.true_and, Bool.not_true, Bool.not_false, Bool.not_eq_true, Bool.false_eq_true, Bool.and_self, if_true, if_false, true_and, and_true, ↓reduceIte, eqD, neD, sh_int, eqv_int, eqv_strs, sDraw, List.length_cons, List.length_nil, Nat.zero_add, Nat.reduceAdd, decide_true, eq_self]
  refine ⟨d.length, undo a, a, rfl, hua, ha, hn, ?_⟩
  try simp only [Q.addF, Q.enOf, Q.tV, Q.tK, Q.t2, Q.t1, Q.tB, Q.cI, Q.cIp, Q.addI, Q.subI, Q.mulI, Q.fdivI, Q.modI, Q.powI, Q.ltI, Q.leI, Q.gtI, Q.geI, Q.negI, Q.vAnd, Q.vOr, Q.vNot, Q.qAnd, Q.qOr, Q.qNot, Q.qIf, Q.chI, Q.tTupQ, Q.dNil, Q.dCons, Q.tLstQ, Q.tFz, Q.tCA, Q.lenD, Q.tupD, Q.isD, Q.isInt, Q.isBool, Q.isTup, Q.isStr, Q.isLst, Q.tLenN, Q.tIxN, Q.setQ, Q.aNil, Q.aD, Q.aK, Q.tCallQ, Q.tCallKQ, Q.pick, Q.sNil, Q.sSeq, Q.sRet, Q.sRetN, Q.sExpr, Q.sIf, Q.sSet, Q.sSetL, Q.sAsg, Q.sFor, Q.sPar2, Q.sPar3, Q.pNil, Q.pD, Q.pO, Q.pDn, Q.gN, Q.gT, Q.gsNil, Q.gsCons, Q.iQ, Q.itD, Q.iEn, Q.itE, Q.rg1, Q.rg2, Q.oNone, Q.oSome, Q.tSlQ, Q.revD, Q.tOwnM, Q.appC, Q.popC, Q.extC, Q.ownL, Q.tRepL, Q.repC, Q.sSetIx, Q.ixOwn, Q.tLcQ, Q.noOwn, Q.rstQ, Q.wipeQ, Q.sDn, Q.sSetD, Q.tDgetN, Q.dOwn, Q.tTupRg, Q.sNever, Q.isB, Q.listD, Q.listC, Q.reprD, Q.Sl.isOwn, List.map_cons, List.map_nil, List.replicate_succ, List.replicate_zero, List.cons_append, List.nil_append, List.append_nil, List.getElem?_cons_zero, List.getElem?_cons_succ, List.set_cons_zero, List.set_cons_succ, List.getD_cons_zero, List.getD_cons_succ, List.filterMap_cons, List.filterMap_nil, List.all_cons, List.all_nil, Bool.and_true, Bool.true_and, Bool.not_true, Bool.not_false, Bool.not_eq_true, Bool.false_eq_true, Bool.and_self, if_true, if_false, true_and, and_true, ↓reduceIte, eqD, neD, sh_int, eqv_int, eqv_strs, sDraw, List.length_cons, List.length_nil, Nat.zero_add, Nat.reduceAdd, decide_true, eq_self]
  refine ⟨d.length, a, row d.length, rfl, ha, hr, hn, ?_⟩
  try simp only [Q.addF, Q.enOf, Q.tV, Q.tK, Q.t2, Q.t1, Q.tB, Q.cI, Q.cIp, Q.addI, Q.subI, Q.mulI, Q.fdivI, Q.modI, Q.powI, Q.ltI, Q.leI, Q.gtI, Q.geI, Q.negI, Q.vAnd, Q.vOr, Q.vNot, Q.qAnd, Q.qOr, Q.qNot, Q.qIf, Q.chI, Q.tTupQ, Q.dNil, Q.dCons, Q.tLstQ, Q.tFz, Q.tCA, Q.lenD, Q.tupD, Q.isD, Q.isInt, Q.isBool, Q.isTup, Q.isStr, Q.isLst, Q.tLenN, Q.tIxN, Q.setQ, Q.aNil, Q.aD, Q.aK, Q.tCallQ, Q.tCallKQ, Q.pick, Q.sNil, Q.sSeq, Q.sRet, Q.sRetN, Q.sExpr, Q.sIf, Q.sSet, Q.sSetL, Q.sAsg, Q.sFor, Q.sPar2, Q.sPar3, Q.pNil, Q.pD, Q.pO, Q.pDn, Q.gN, Q.gT, Q.gsNil, Q.gsCons, Q.iQ, Q.itD, Q.iEn, Q.itE, Q.rg1, Q.rg2, Q.oNone, Q.oSome, Q.tSlQ, Q.revD, Q.tOwnM, Q.appC, Q.popC, Q.extC, Q.ownL, Q.tRepL, Q.repC, Q.sSetIx, Q.ixOwn, Q.tLcQ, Q.noOwn, Q.rstQ, Q.wipeQ, Q.sDn, Q.sSetD, Q.tDgetN, Q.dOwn, Q.tTupRg, Q.sNever, Q.isB, Q.listD, Q.listC, Q.reprD, Q.Sl.isOwn, List.map_cons, List.map_nil, List.replicate_succ, List.replicate_zero, List.cons_append, List.nil_append, List.append_nil, List.getElem?_cons_zero, List.getElem?_cons_succ, List.set_cons_zero, List.set_cons_succ, List.getD_cons_zero, List.getD_cons_succ, List.filterMap_cons, List.filterMap_nil, List.all_cons, List.all_nil, Bool.and_true, Bool.true_and, Bool.not_true, Bool.not_false, Bool.not_eq_true, Bool.false_eq_true, Bool.and_self, if_true, if_false, true_and, and_true, ↓reduceIte, eqD, neD, sh_int, eqv_int, eqv_strs, sDraw, List.length_cons, List.length_nil, Nat.zero_add, Nat.reduceAdd, decide_true, eq_self]
  refine ⟨d.length, row d.length, a, rfl, hr, ha, hn, ?_⟩
  have e1 : laidL a (row d.length) = a := by have := laid_row a; rw [ha.length] at this; exact this
  rw [laid_undo ha, undo_laid ha, e1, row_laid fun c hc => ha.mem hc]
  have q5 := tn4 (tnO hr hn) (tnO hr hn) (tnO ha hn) (tnO ha hn)
  refine ⟨by decide, (tr2 q5), by decide, (tr2 q5), q5.text, q5.text, ?_⟩
  try simp only [Q.addF, Q.enOf, Q.tV, Q.tK, Q.t2, Q.t1, Q.tB, Q.cI, Q.cIp, Q.addI, Q.subI, Q.mulI, Q.fdivI, Q.modI, Q.powI, Q.ltI, Q.leI, Q.gtI, Q.geI, Q.negI, Q.vAnd, Q.vOr, Q.vNot, Q.qAnd, Q.qOr, Q.qNot, Q.qIf, Q.chI, Q.tTupQ, Q.dNil, Q.dCons, Q.tLstQ, Q.tFz, Q.tCA, Q.lenD, Q.tupD, Q.isD, Q.isInt, Q.isBool, Q.isTup, Q.isStr, Q.isLst, Q.tLenN, Q.tIxN, Q.setQ, Q.aNil, Q.aD, Q.aK, Q.tCallQ, Q.tCallKQ, Q.pick, Q.sNil, Q.sSeq, Q.sRet, Q.sRetN, Q.sExpr, Q.sIf, Q.sSet, Q.sSetL, Q.sAsg, Q.sFor, Q.sPar2, Q.sPar3, Q.pNil, Q.pD, Q.pO, Q.pDn, Q.gN, Q.gT, Q.gsNil, Q.gsCons, Q.iQ, Q.itD, Q.iEn, Q.itE, Q.rg1, Q.rg2, Q.oNone, Q.oSome, Q.tSlQ, Q.revD, Q.tOwnM, Q.appC, Q.popC, Q.extC, Q.ownL, Q.tRepL, Q.repC, Q.sSetIx, Q.ixOwn, Q.tLcQ, Q.noOwn, Q.rstQ, Q.wipeQ, Q.sDn, Q.sSetD, Q.tDgetN, Q.dOwn, Q.tTupRg, Q.sNever, Q.isB, Q.listD, Q.listC, Q.reprD, Q.Sl.isOwn, List.map_cons, List.map_nil, List.replicate_succ, List.replicate_zero, List.cons_append, List.nil_append, List.append_nil, List.getElem?_cons_zero, List.getElem?_cons_succ, List.set_cons_zero, List.set_cons_succ, List.getD_cons_zero, List.getD_cons_succ, List.filterMap_cons, List.filterMap_nil, List.all_cons, List.all_nil, Bool.and_true, Bool.true_and, Bool.not_true, Bool.not_false, Bool.not_eq_true, Bool.false_eq_true, Bool.and_self, if_true, if_false, true_and, and_true, ↓reduceIte, eqD, neD, sh_int, eqv_int, eqv_strs, sDraw, List.length_cons, List.length_nil, Nat.zero_add, Nat.reduceAdd, decide_true, eq_self]
  -- there and back again
  refine ⟨d.length, a.reverse, rfl, ha.rev, hn, ?_⟩
  try simp only [Q.addF, Q.enOf, Q.tV, Q.tK, Q.t2, Q.t1, Q.tB, Q.cI, Q.cIp, Q.addI, Q.subI, Q.mulI, Q.fdivI, Q.modI, Q.powI, Q.ltI, Q.leI, Q.gtI, Q.geI, Q.negI, Q.vAnd, Q.vOr, Q.vNot, Q.qAnd, Q.qOr, Q.qNot, Q.qIf, Q.chI, Q.tTupQ, Q.dNil, Q.dCons, Q.tLstQ, Q.tFz, Q.tCA, Q.lenD, Q.tupD, Q.isD, Q.isInt, Q.isBool, Q.isTup, Q.isStr, Q.isLst, Q.tLenN, Q.tIxN, Q.setQ, Q.aNil, Q.aD, Q.aK, Q.tCallQ, Q.tCallKQ, Q.pick, Q.sNil, Q.sSeq, Q.sRet, Q.sRetN, Q.sExpr, Q.sIf, Q.sSet, Q.sSetL, Q.sAsg, Q.sFor, Q.sPar2, Q.sPar3, Q.pNil, Q.pD, Q.pO, Q.pDn, Q.gN, Q.gT, Q.gsNil, Q.gsCons, Q.iQ, Q.itD, Q.iEn, Q.itE, Q.rg1, Q.rg2, Q.oNone, Q.oSome, Q.tSlQ, Q.revD, Q.tOwnM, Q.appC, Q.popC, Q.extC, Q.ownL, Q.tRepL, Q.repC, Q.sSetIx, Q.ixOwn, Q.tLcQ, Q.noOwn, Q.rstQ, Q.wipeQ, Q.sDn, Q.sSetD, Q.tDgetN, Q.dOwn, Q.tTupRg, Q.sNever, Q.isB, Q.listD, Q.listC, Q.reprD, Q.Sl.isOwn, List.map_cons, List.map_nil, List.replicate_succ, List.replicate_zero, List.cons_append, List.nil_append, List.append_nil, List.getElem?_cons_zero, List.getElem?_cons_succ, List.set_cons_zero, List.set_cons_succ, List.getD_cons_zero, List.getD_cons_succ, List.filterMap_cons, List.filterMap_nil, List.all_cons, List.all_nil, Bool.and_true, Bool.true_and, Bool.not_true, Bool.not_false, Bool.not_eq_true, Bool.false_eq_true, Bool.and_self, if_true, if_false, true_and, and_true, ↓reduceIte, eqD, neD, sh_int, eqv_int, eqv_strs, sDraw, List.length_cons, List.length_nil, Nat.zero_add, Nat.reduceAdd, decide_true, eq_self]
  refine ⟨d.length, undo a, rfl, hua, hn, ?_⟩
  try simp only [Q.addF, Q.enOf, Q.tV, Q.tK, Q.t2, Q.t1, Q.tB, Q.cI, Q.cIp, Q.addI, Q.subI, Q.mulI, Q.fdivI, Q.modI, Q.powI, Q.ltI, Q.leI, Q.gtI, Q.geI, Q.negI, Q.vAnd, Q.vOr, Q.vNot, Q.qAnd, Q.qOr, Q.qNot, Q.qIf, Q.chI, Q.tTupQ, Q.dNil, Q.dCons, Q.tLstQ, Q.tFz, Q.tCA, Q.lenD, Q.tupD, Q.isD, Q.isInt, Q.isBool, Q.isTup, Q.isStr, Q.isLst, Q.tLenN, Q.tIxN, Q.setQ, Q.aNil, Q.aD, Q.aK, Q.tCallQ, Q.tCallKQ, Q.pick, Q.sNil, Q.sSeq, Q.sRet, Q.sRetN, Q.sExpr, Q.sIf, Q.sSet, Q.sSetL, Q.sAsg, Q.sFor, Q.sPar2, Q.sPar3, Q.pNil, Q.pD, Q.pO, Q.pDn, Q.gN, Q.gT, Q.gsNil, Q.gsCons, Q.iQ, Q.itD, Q.iEn, Q.itE, Q.rg1, Q.rg2, Q.oNone, Q.oSome, Q.tSlQ, Q.revD, Q.tOwnM, Q.appC, Q.popC, Q.extC, Q.ownL, Q.tRepL, Q.repC, Q.sSetIx, Q.ixOwn, Q.tLcQ, Q.noOwn, Q.rstQ, Q.wipeQ, Q.sDn, Q.sSetD, Q.tDgetN, Q.dOwn, Q.tTupRg, Q.sNever, Q.isB, Q.listD, Q.listC, Q.reprD, Q.Sl.isOwn, List.map_cons, List.map_nil, List.replicate_succ, List.replicate_zero, List.cons_append, List.nil_append, List.append_nil, List.getElem?_cons_zero, List.getElem?_cons_succ, List.set_cons_zero, List.set_cons_succ, List.getD_cons_zero, List.getD_cons_succ, List.filterMap_cons, List.filterMap_nil, List.all_cons, List.all_nil, Bool.and_true, Bool.true_and, Bool.not_true, Bool.not_false, Bool.not_eq_true, Bool.false_eq_true, Bool.and_self, if_true, if_false, true_and, and_true, ↓reduceIte, eqD, neD, sh_int, eqv_int, eqv_strs, sDraw, List.length_cons, List.length_nil, Nat.zero_add, Nat.reduceAdd, decide_true, eq_self]
  refine ⟨laidL d a, undo a, rfl, hnear, by rw [nl]; exact hua, ?_⟩
  rw [List.reverse_reverse, undo_undo ha, laid_laid (ha.lt hua), laid_undo ha, laid_row]
  have q6 := tn3 (tnO ha hn) (tnO ha hn) (tnD hd (by decide))
  refine ⟨by decide, (tr2 q6), by decide, (tr2 q6), q6.text, q6.text, ?_⟩
  try simp only [Q.addF, Q.enOf, Q.tV, Q.tK, Q.t2, Q.t1, Q.tB, Q.cI, Q.cIp, Q.addI, Q.subI, Q.mulI, Q.fdivI, Q.modI, Q.powI, Q.ltI, Q.leI, Q.gtI, Q.geI, Q.negI, Q.vAnd, Q.vOr, Q.vNot, Q.qAnd, Q.qOr, Q.qNot, Q.qIf, Q.chI, Q.tTupQ, Q.dNil, Q.dCons, Q.tLstQ, Q.tFz, Q.tCA, Q.lenD, Q.tupD, Q.isD, Q.isInt, Q.isBool, Q.isTup, Q.isStr, Q.isLst, Q.tLenN, Q.tIxN, Q.setQ, Q.aNil, Q.aD, Q.aK, Q.tCallQ, Q.tCallKQ, Q.pick, Q.sNil, Q.sSeq, Q.sRet, Q.sRetN, Q.sExpr, Q.sIf, Q.sSet, Q.sSetL, Q.sAsg, Q.sFor, Q.sPar2, Q.sPar3, Q.pNil, Q.pD, Q.pO, Q.pDn, Q.gN, Q.gT, Q.gsNil, Q.gsCons, Q.iQ, Q.itD, Q.iEn, Q.itE, Q.rg1, Q.rg2, Q.oNone, Q.oSome, Q.tSlQ, Q.revD, Q.tOwnM, Q.appC, Q.popC, Q.extC, Q.ownL, Q.tRepL, Q.repC, Q.sSetIx, Q.ixOwn, Q.tLcQ, Q.noOwn, Q.rstQ, Q.wipeQ, Q.sDn, Q.sSetD, Q.tDgetN, Q.dOwn, Q.tTupRg, Q.sNever, Q.isB, Q.listD, Q.listC, Q.reprD, Q.Sl.isOwn, List.map_cons, List.map_nil, List.replicate_succ, List.replicate_zero, List.cons_append, List.nil_append, List.append_nil, List.getElem?_cons_zero, List.getElem?_cons_succ, List.set_cons_zero, List.set_cons_succ, List.getD_cons_zero, List.getD_cons_succ, List.filterMap_cons, List.filterMap_nil, List.all_cons, List.all_nil, Bool.and_true, Bool.true_and, Bool.not_true, Bool.not_false, Bool.not_eq_true, Bool.false_eq_true, Bool.and_self, if_true, if_false, true_and, and_true, ↓reduceIte, eqD, neD, sh_int, eqv_int, eqv_strs, sDraw, List.length_cons, List.length_nil, Nat.zero_add, Nat.reduceAdd, decide_true, eq_self]
  refine ⟨d.length, row d.length, rfl, hr, hn, ?_⟩
  try simp only [Q.addF, Q.enOf, Q.tV, Q.tK, Q.t2, Q.t1, Q.tB, Q.cI, Q.cIp, Q.addI, Q.subI, Q.mulI, Q.fdivI, Q.modI, Q.powI, Q.ltI, Q.leI, Q.gtI, Q.geI, Q.negI, Q.vAnd, Q.vOr, Q.vNot, Q.qAnd, Q.qOr, Q.qNot, Q.qIf, Q.chI, Q.tTupQ, Q.dNil, Q.dCons, Q.tLstQ, Q.tFz, Q.tCA, Q.lenD, Q.tupD, Q.isD, Q.isInt, Q.isBool, Q.isTup, Q.isStr, Q.isLst, Q.tLenN, Q.tIxN, Q.setQ, Q.aNil, Q.aD, Q.aK, Q.tCallQ, Q.tCallKQ, Q.pick, Q.sNil, Q.sSeq, Q.sRet, Q.sRetN, Q.sExpr, Q.sIf, Q.sSet, Q.sSetL, Q.sAsg, Q.sFor, Q.sPar2, Q.sPar3, Q.pNil, Q.pD, Q.pO, Q.pDn, Q.gN, Q.gT, Q.gsNil, Q.gsCons, Q.iQ, Q.itD, Q.iEn, Q.itE, Q.rg1, Q.rg2, Q.oNone, Q.oSome, Q.tSlQ, Q.revD, Q.tOwnM, Q.appC, Q.popC, Q.extC, Q.ownL, Q.tRepL, Q.repC, Q.sSetIx, Q.ixOwn, Q.tLcQ, Q.noOwn, Q.rstQ, Q.wipeQ, Q.sDn, Q.sSetD, Q.tDgetN, Q.dOwn, Q.tTupRg, Q.sNever, Q.isB, Q.listD, Q.listC, Q.reprD, Q.Sl.isOwn, List.map_cons, List.map_nil, List.replicate_succ, List.replicate_zero, List.cons_append, List.nil_append, List.append_nil, List.getElem?_cons_zero, List.getElem?_cons_succ, List.set_cons_zero, List.set_cons_succ, List.getD_cons_zero, List.getD_cons_succ, List.filterMap_cons, List.filterMap_nil, List.all_cons, List.all_nil, Bool.and_true, Bool.true_and, Bool.not_true, Bool.not_false, Bool.not_eq_true, Bool.false_eq_true, Bool.and_self, if_true, if_false, true_and, and_true, ↓reduceIte, eqD, neD, sh_int, eqv_int, eqv_strs, sDraw, List.length_cons, List.length_nil, Nat.zero_add, Nat.reduceAdd, decide_true, eq_self]
  refine ⟨d.length, a, (row d.length).reverse, rfl, ha, hr.rev, hn, ?_⟩
  try simp only [Q.addF, Q.enOf, Q.tV, Q.tK, Q.t2, Q.t1, Q.tB, Q.cI, Q.cIp, Q.addI, Q.subI, Q.mulI, Q.fdivI, Q.modI, Q.powI, Q.ltI, Q.leI, Q.gtI, Q.geI, Q.negI, Q.vAnd, Q.vOr, Q.vNot, Q.qAnd, Q.qOr, Q.qNot, Q.qIf, Q.chI, Q.tTupQ, Q.dNil, Q.dCons, Q.tLstQ, Q.tFz, Q.tCA, Q.lenD, Q.tupD, Q.isD, Q.isInt, Q.isBool, Q.isTup, Q.isStr, Q.isLst, Q.tLenN, Q.tIxN, Q.setQ, Q.aNil, Q.aD, Q.aK, Q.tCallQ, Q.tCallKQ, Q.pick, Q.sNil, Q.sSeq, Q.sRet, Q.sRetN, Q.sExpr, Q.sIf, Q.sSet, Q.sSetL, Q.sAsg, Q.sFor, Q.sPar2, Q.sPar3, Q.pNil, Q.pD, Q.pO, Q.pDn, Q.gN, Q.gT, Q.gsNil, Q.gsCons, Q.iQ, Q.itD, Q.iEn, Q.itE, Q.rg1, Q.rg2, Q.oNone, Q.oSome, Q.tSlQ, Q.revD, Q.tOwnM, Q.appC, Q.popC, Q.extC, Q.ownL, Q.tRepL, Q.repC, Q.sSetIx, Q.ixOwn, Q.tLcQ, Q.noOwn, Q.rstQ, Q.wipeQ, Q.sDn, Q.sSetD, Q.tDgetN, Q.dOwn, Q.tTupRg, Q.sNever, Q.isB, Q.listD, Q.listC, Q.reprD, Q.Sl.isOwn, List.map_cons, List.map_nil, List.replicate_succ, List.replicate_zero, List.cons_append, List.nil_append, List.append_nil, List.getElem?_cons_zero, List.getElem?_cons_succ, List.set_cons_zero, List.set_cons_succ, List.getD_cons_zero, List.getD_cons_succ, List.filterMap_cons, List.filterMap_nil, List.all_cons, List.all_nil, Bool.and_true, Bool.true_and, Bool.not_true, Bool.not_false, Bool.not_eq_true, Bool.false_eq_true, Bool.and_self, if_true, if_false, true_and, and_true, ↓reduceIte, eqD, neD, sh_int, eqv_int, eqv_strs, sDraw, List.length_cons, List.length_nil, Nat.zero_add, Nat.reduceAdd, decide_true, eq_self]
  refine ⟨d.length, laidL a b, rfl, hab, hn, ?_⟩
  rw [laid_rev, e1]
  have q7 := tn2 (tnO ha.rev hn) (tnO hab.undo hn)
  refine ⟨by decide, (tr2 q7), ?_⟩
  try simp only [Q.addF, Q.enOf, Q.tV, Q.tK, Q.t2, Q.t1, Q.tB, Q.cI, Q.cIp, Q.addI, Q.subI, Q.mulI, Q.fdivI, Q.modI, Q.powI, Q.ltI, Q.leI, Q.gtI, Q.geI, Q.negI, Q.vAnd, Q.vOr, Q.vNot, Q.qAnd, Q.qOr, Q.qNot, Q.qIf, Q.chI, Q.tTupQ, Q.dNil, Q.dCons, Q.tLstQ, Q.tFz, Q.tCA, Q.lenD, Q.tupD, Q.isD, Q.isInt, Q.isBool, Q.isTup, Q.isStr, Q.isLst, Q.tLenN, Q.tIxN, Q.setQ, Q.aNil, Q.aD, Q.aK, Q.tCallQ, Q.tCallKQ, Q.pick, Q.sNil, Q.sSeq, Q.sRet, Q.sRetN, Q.sExpr, Q.sIf, Q.sSet, Q.sSetL, Q.sAsg, Q.sFor, Q.sPar2, Q.sPar3, Q.pNil, Q.pD, Q.pO, Q.pDn, Q.gN, Q.gT, Q.gsNil, Q.gsCons, Q.iQ, Q.itD, Q.iEn, Q.itE, Q.rg1, Q.rg2, Q.oNone, Q.oSome, Q.tSlQ, Q.revD, Q.tOwnM, Q.appC, Q.popC, Q.extC, Q.ownL, Q.tRepL, Q.repC, Q.sSetIx, Q.ixOwn, Q.tLcQ, Q.noOwn, Q.rstQ, Q.wipeQ, Q.sDn, Q.sSetD, Q.tDgetN, Q.dOwn, Q.tTupRg, Q.sNever, Q.isB, Q.listD, Q.listC, Q.reprD, Q.Sl.isOwn, List.map_cons, List.map_nil, List.replicate_succ, List.replicate_zero, List.cons_append, List.nil_append, List.append_nil, List.getElem?_cons_zero, List.getElem?_cons_succ, List.set_cons_zero, List.set_cons_succ, List.getD_cons_zero, List.getD_cons_succ, List.filterMap_cons, List.filterMap_nil, List.all_cons, List.all_nil, Bool.and_true, Bool.true_and, Bool.not_true, Bool.not_false, Bool.not_eq_true, Bool.false_eq_true, Bool.and_self, if_true, if_false, true_and, and_true, ↓reduceIte, eqD, neD, sh_int, eqv_int, eqv_strs, sDraw, List.length_cons, List.length_nil, Nat.zero_add, Nat.reduceAdd, decide_true, eq_self]
  refine ⟨d.length, b, rfl, hb, hn, ?_⟩
  try simp only [Q.addF, Q.enOf, Q.tV, Q.tK, Q.t2, Q.t1, Q.tB, Q.cI, Q.cIp, Q.addI, Q.subI, Q.mulI, Q.fdivI, Q.modI, Q.powI, Q.ltI, Q.leI, Q.gtI, Q.geI, Q.negI, Q.vAnd, Q.vOr, Q.vNot, Q.qAnd, Q.qOr, Q.qNot, Q.qIf, Q.chI, Q.tTupQ, Q.dNil, Q.dCons, Q.tLstQ, Q.tFz, Q.tCA, Q.lenD, Q.tupD, Q.isD, Q.isInt, Q.isBool, Q.isTup, Q.isStr, Q.isLst, Q.tLenN, Q.tIxN, Q.setQ, Q.aNil, Q.aD, Q.aK, Q.tCallQ, Q.tCallKQ, Q.pick, Q.sNil, Q.sSeq, Q.sRet, Q.sRetN, Q.sExpr, Q.sIf, Q.sSet, Q.sSetL, Q.sAsg, Q.sFor, Q.sPar2, Q.sPar3, Q.pNil, Q.pD, Q.pO, Q.pDn, Q.gN, Q.gT, Q.gsNil, Q.gsCons, Q.iQ, Q.itD, Q.iEn, Q.itE, Q.rg1, Q.rg2, Q.oNone, Q.oSome, Q.tSlQ, Q.revD, Q.tOwnM, Q.appC, Q.popC, Q.extC, Q.ownL, Q.tRepL, Q.repC, Q.sSetIx, Q.ixOwn, Q.tLcQ, Q.noOwn, Q.rstQ, Q.wipeQ, Q.sDn, Q.sSetD, Q.tDgetN, Q.dOwn, Q.tTupRg, Q.sNever, Q.isB, Q.listD, Q.listC, Q.reprD, Q.Sl.isOwn, List.map_cons, List.map_nil, List.replicate_succ, List.replicate_zero, List.cons_append, List.nil_append, List.append_nil, List.getElem?_cons_zero, List.getElem?_cons_succ, List.set_cons_zero, List.set_cons_succ, List.getD_cons_zero, List.getD_cons_succ, List.filterMap_cons, List.filterMap_nil, List.all_cons, List.all_nil, Bool.and_true, Bool.true_and, Bool.not_true, Bool.not_false, Bool.not_eq_true, Bool.false_eq_true, Bool.and_self, if_true, if_false, true_and, and_true, ↓reduceIte, eqD, neD, sh_int, eqv_int, eqv_strs, sDraw, List.length_cons, List.length_nil, Nat.zero_add, Nat.reduceAdd, decide_true, eq_self]
  refine ⟨d.length, undo b, undo a, rfl, hb.undo, hua, hn, ?_⟩
  rw [← undo_both ha hb]
  refine ⟨by decide, (tr2 q7), q7.text, q7.text, ?_⟩
  try simp only [Q.addF, Q.enOf, Q.tV, Q.tK, Q.t2, Q.t1, Q.tB, Q.cI, Q.cIp, Q.addI, Q.subI, Q.mulI, Q.fdivI, Q.modI, Q.powI, Q.ltI, Q.leI, Q.gtI, Q.geI, Q.negI, Q.vAnd, Q.vOr, Q.vNot, Q.qAnd, Q.qOr, Q.qNot, Q.qIf, Q.chI, Q.tTupQ, Q.dNil, Q.dCons, Q.tLstQ, Q.tFz, Q.tCA, Q.lenD, Q.tupD, Q.isD, Q.isInt, Q.isBool, Q.isTup, Q.isStr, Q.isLst, Q.tLenN, Q.tIxN, Q.setQ, Q.aNil, Q.aD, Q.aK, Q.tCallQ, Q.tCallKQ, Q.pick, Q.sNil, Q.sSeq, Q.sRet, Q.sRetN, Q.sExpr, Q.sIf, Q.sSet, Q.sSetL, Q.sAsg, Q.sFor, Q.sPar2, Q.sPar3, Q.pNil, Q.pD, Q.pO, Q.pDn, Q.gN, Q.gT, Q.gsNil, Q.gsCons, Q.iQ, Q.itD, Q.iEn, Q.itE, Q.rg1, Q.rg2, Q.oNone, Q.oSome, Q.tSlQ, Q.revD, Q.tOwnM, Q.appC, Q.popC, Q.extC, Q.ownL, Q.tRepL, Q.repC, Q.sSetIx, Q.ixOwn, Q.tLcQ, Q.noOwn, Q.rstQ, Q.wipeQ, Q.sDn, Q.sSetD, Q.tDgetN, Q.dOwn, Q.tTupRg, Q.sNever, Q.isB, Q.listD, Q.listC, Q.reprD, Q.Sl.isOwn, List.map_cons, List.map_nil, List.replicate_succ, List.replicate_zero, List.cons_append, List.nil_append, List.append_nil, List.getElem?_cons_zero, List.getElem?_cons_succ, List.set_cons_zero, List.set_cons_succ, List.getD_cons_zero, List.getD_cons_succ, List.filterMap_cons, List.filterMap_nil, List.all_cons, List.all_nil, Bool.and_true, Bool.true_and, Bool.not_true, Bool.not_false, Bool.not_eq_true, Bool.false_eq_true, Bool.and_self, if_true, if_false, true_and, and_true, ↓reduceIte, eqD, neD, sh_int, eqv_int, eqv_strs, sDraw, List.length_cons, List.length_nil, Nat.zero_add, Nat.reduceAdd, decide_true, eq_self, List.length_map]
  refine ⟨d.length, laidL a b, rfl, hab, hn, ?_⟩
  try simp only [Q.addF, Q.enOf, Q.tV, Q.tK, Q.t2, Q.t1, Q.tB, Q.cI, Q.cIp, Q.addI, Q.subI, Q.mulI, Q.fdivI, Q.modI, Q.powI, Q.ltI, Q.leI, Q.gtI, Q.geI, Q.negI, Q.vAnd, Q.vOr, Q.vNot, Q.qAnd, Q.qOr, Q.qNot, Q.qIf, Q.chI, Q.tTupQ, Q.dNil, Q.dCons, Q.tLstQ, Q.tFz, Q.tCA, Q.lenD, Q.tupD, Q.isD, Q.isInt, Q.isBool, Q.isTup, Q.isStr, Q.isLst, Q.tLenN, Q.tIxN, Q.setQ, Q.aNil, Q.aD, Q.aK, Q.tCallQ, Q.tCallKQ, Q.pick, Q.sNil, Q.sSeq, Q.sRet, Q.sRetN, Q.sExpr, Q.sIf, Q.sSet, Q.sSetL, Q.sAsg, Q.sFor, Q.sPar2, Q.sPar3, Q.pNil, Q.pD, Q.pO, Q.pDn, Q.gN, Q.gT, Q.gsNil, Q.gsCons, Q.iQ, Q.itD, Q.iEn, Q.itE, Q.rg1, Q.rg2, Q.oNone, Q.oSome, Q.tSlQ, Q.revD, Q.tOwnM, Q.appC, Q.popC, Q.extC, Q.ownL, Q.tRepL, Q.repC, Q.sSetIx, Q.ixOwn, Q.tLcQ, Q.noOwn, Q.rstQ, Q.wipeQ, Q.sDn, Q.sSetD, Q.tDgetN, Q.dOwn, Q.tTupRg, Q.sNever, Q.isB, Q.listD, Q.listC, Q.reprD, Q.Sl.isOwn, List.map_cons, List.map_nil, List.replicate_succ, List.replicate_zero, List.cons_append, List.nil_append, List.append_nil, List.getElem?_cons_zero, List.getElem?_cons_succ, List.set_cons_zero, List.set_cons_succ, List.getD_cons_zero, List.getD_cons_succ, List.filterMap_cons, List.filterMap_nil, List.all_cons, List.all_nil, Bool.and_true, Bool.true_and, Bool.not_true, Bool.not_false, Bool.not_eq_true, Bool.false_eq_true, Bool.and_self, if_true, if_false, true_and, and_true, ↓reduceIte, eqD, neD, sh_int, eqv_int, eqv_strs, sDraw, List.length_cons, List.length_nil, Nat.zero_add, Nat.reduceAdd, decide_true, eq_self]
  exact h
def sp__law_are_throws_right : PSpec := fun as R => ∃ (n : Nat) (d : List Int) (t u : Thr), as = [.d (.int n), .d (tupI d), .d (thrD t), .d (thrD u)] ∧ 1 ≤ n ∧ n ≤ 8 ∧ DeckOk n d ∧ ThrowOk t ∧ (kinds t).length = n ∧ ThrowOk u ∧ (kinds u).length = n ∧ R (.bool true)
theorem len__law_are_throws_right : ∀ as R, sp__law_are_throws_right as R → as.length = 4 := by rintro as R ⟨d, a, b, c, rfl, _⟩; rfl
theorem rd__law_are_throws_right : ∀ as R, sp__law_are_throws_right as R → t__law_are_throws_right sp_order_after sp_deck_after sp__law_after sp__law_laid sp_laid sp_together sp_counts_of sp_is_deck sp_undone_order { nx := fun _ => R .none, rt := R } (enOf as 3) := by
  rintro as R ⟨n, d, t, u, rfl, hn1, hn8, hd, ht, tl, hu, ul, h⟩
  have hn8' : (n : Int) ≤ 8 := by omega
  have hn := hd.few
  have ho : Ord d.length (rawOrder t d) := raw_ord ht (by rw [tl]; exact deck_lt hd)
  have hdt : DeckOk (kinds t).length d := by rw [tl]; exact hd
  have hnear := laid_deck hd ho
  have nl : (laidL d (rawOrder t d)).length = d.length := by rw [laid_length, ho.length]
  have hnu : DeckOk (kinds u).length (laidL d (rawOrder t d)) := by rw [ul]; exact hnear
  have ho2 : Ord d.length (rawOrder u (laidL d (rawOrder t d))) := by
    have := raw_ord hu (deck := laidL d (rawOrder t d)) (by rw [ul]; exact deck_lt hnear)
    rw [nl] at this
    exact this
  simp only [t__law_are_throws_right, Q.addF, Q.enOf, Q.tV, Q.tK, Q.t2, Q.t1, Q.tB, Q.cI, Q.cIp, Q.addI, Q.subI, Q.mulI, Q.fdivI, Q.modI, Q.powI, Q.ltI, Q.leI, Q.gtI, Q.geI, Q.negI, Q.vAnd, Q.vOr, Q.vNot, Q.qAnd, Q.qOr, Q.qNot, Q.qIf, Q.chI, Q.tTupQ, Q.dNil, Q.dCons, Q.tLstQ, Q.tFz, Q.tCA, Q.lenD, Q.tupD, Q.isD, Q.isInt, Q.isBool, Q.isTup, Q.isStr, Q.isLst, Q.tLenN, Q.tIxN, Q.setQ, Q.aNil, Q.aD, Q.aK, Q.tCallQ, Q.tCallKQ, Q.pick, Q.sNil, Q.sSeq, Q.sRet, Q.sRetN, Q.sExpr, Q.sIf, Q.sSet, Q.sSetL, Q.sAsg, Q.sFor, Q.sPar2, Q.sPar3, Q.pNil, Q.pD, Q.pO, Q.pDn, Q.gN, Q.gT, Q.gsNil, Q.gsCons, Q.iQ, Q.itD, Q.iEn, Q.itE, Q.rg1, Q.rg2, Q.oNone, Q.oSome, Q.tSlQ, Q.revD, Q.tOwnM, Q.appC, Q.popC, Q.extC, Q.ownL, Q.tRepL, Q.repC, Q.sSetIx, Q.ixOwn, Q.tLcQ, Q.noOwn, Q.rstQ, Q.wipeQ, Q.sDn, Q.sSetD, Q.tDgetN, Q.dOwn, Q.tTupRg, Q.sNever, Q.isB, Q.listD, Q.listC, Q.reprD, Q.Sl.isOwn, List.map_cons, List.map_nil, List.replicate_succ, List.replicate_zero, List.cons_append, List.nil_append, List.append_nil, List.getElem?_cons_zero, List.getElem?_cons_succ, List.set_cons_zero, List.set_cons_succ, List.getD_cons_zero, List.getD_cons_succ, List.filterMap_cons, List.filterMap_nil, List.all_cons, List.all_nil, Bool.and_true, Bool.true_and, Bool.not_true, Bool.not_false, Bool.not_eq_true, Bool.false_eq_true, Bool.and_self, if_true, if_false, true_and, and_true, ↓reduceIte, eqD, neD, sh_int, eqv_int, eqv_strs, sDraw, List.length_cons, List.length_nil, Nat.zero_add, Nat.reduceAdd, decide_true, eq_self]
  refine ⟨t, d, rfl, ht, hdt, ?_⟩
  try simp only [Q.addF, Q.enOf, Q.tV, Q.tK, Q.t2, Q.t1, Q.tB, Q.cI, Q.cIp, Q.addI, Q.subI, Q.mulI, Q.fdivI, Q.modI, Q.powI, Q.ltI, Q.leI, Q.gtI, Q.geI, Q.negI, Q.vAnd, Q.vOr, Q.vNot, Q.qAnd, Q.qOr, Q.qNot, Q.qIf, Q.chI, Q.tTupQ, Q.dNil, Q.dCons, Q.tLstQ, Q.tFz, Q.tCA, Q.lenD, Q.tupD, Q.isD, Q.isInt, Q.isBool, Q.isTup, Q.isStr, Q.isLst, Q.tLenN, Q.tIxN, Q.setQ, Q.aNil, Q.aD, Q.aK, Q.tCallQ, Q.tCallKQ, Q.pick, Q.sNil, Q.sSeq, Q.sRet, Q.sRetN, Q.sExpr, Q.sIf, Q.sSet, Q.sSetL, Q.sAsg, Q.sFor, Q.sPar2, Q.sPar3, Q.pNil, Q.pD, Q.pO, Q.pDn, Q.gN, Q.gT, Q.gsNil, Q.gsCons, Q.iQ, Q.itD, Q.iEn, Q.itE, Q.rg1, Q.rg2, Q.oNone, Q.oSome, Q.tSlQ, Q.revD, Q.tOwnM, Q.appC, Q.popC, Q.extC, Q.ownL, Q.tRepL, Q.repC, Q.sSetIx, Q.ixOwn, Q.tLcQ, Q.noOwn, Q.rstQ, Q.wipeQ, Q.sDn, Q.sSetD, Q.tDgetN, Q.dOwn, Q.tTupRg, Q.sNever, Q.isB, Q.listD, Q.listC, Q.reprD, Q.Sl.isOwn, List.map_cons, List.map_nil, List.replicate_succ, List.replicate_zero, List.cons_append, List.nil_append, List.append_nil, List.getElem?_cons_zero, List.getElem?_cons_succ, List.set_cons_zero, List.set_cons_succ, List.getD_cons_zero, List.getD_cons_succ, List.filterMap_cons, List.filterMap_nil, List.all_cons, List.all_nil, Bool.and_true, Bool.true_and, Bool.not_true, Bool.not_false, Bool.not_eq_true, Bool.false_eq_true, Bool.and_self, if_true, if_false, true_and, and_true, ↓reduceIte, eqD, neD, sh_int, eqv_int, eqv_strs, sDraw, List.length_cons, List.length_nil, Nat.zero_add, Nat.reduceAdd, decide_true, eq_self]
  refine ⟨t, d, rfl, ht, hdt, ?_⟩
  try simp only [Q.addF, Q.enOf, Q.tV, Q.tK, Q.t2, Q.t1, Q.tB, Q.cI, Q.cIp, Q.addI, Q.subI, Q.mulI, Q.fdivI, Q.modI, Q.powI, Q.ltI, Q.leI, Q.gtI, Q.geI, Q.negI, Q.vAnd, Q.vOr, Q.vNot, Q.qAnd, Q.qOr, Q.qNot, Q.qIf, Q.chI, Q.tTupQ, Q.dNil, Q.dCons, Q.tLstQ, Q.tFz, Q.tCA, Q.lenD, Q.tupD, Q.isD, Q.isInt, Q.isBool, Q.isTup, Q.isStr, Q.isLst, Q.tLenN, Q.tIxN, Q.setQ, Q.aNil, Q.aD, Q.aK, Q.tCallQ, Q.tCallKQ, Q.pick, Q.sNil, Q.sSeq, Q.sRet, Q.sRetN, Q.sExpr, Q.sIf, Q.sSet, Q.sSetL, Q.sAsg, Q.sFor, Q.sPar2, Q.sPar3, Q.pNil, Q.pD, Q.pO, Q.pDn, Q.gN, Q.gT, Q.gsNil, Q.gsCons, Q.iQ, Q.itD, Q.iEn, Q.itE, Q.rg1, Q.rg2, Q.oNone, Q.oSome, Q.tSlQ, Q.revD, Q.tOwnM, Q.appC, Q.popC, Q.extC, Q.ownL, Q.tRepL, Q.repC, Q.sSetIx, Q.ixOwn, Q.tLcQ, Q.noOwn, Q.rstQ, Q.wipeQ, Q.sDn, Q.sSetD, Q.tDgetN, Q.dOwn, Q.tTupRg, Q.sNever, Q.isB, Q.listD, Q.listC, Q.reprD, Q.Sl.isOwn, List.map_cons, List.map_nil, List.replicate_succ, List.replicate_zero, List.cons_append, List.nil_append, List.append_nil, List.getElem?_cons_zero, List.getElem?_cons_succ, List.set_cons_zero, List.set_cons_succ, List.getD_cons_zero, List.getD_cons_succ, List.filterMap_cons, List.filterMap_nil, List.all_cons, List.all_nil, Bool.and_true, Bool.true_and, Bool.not_true, Bool.not_false, Bool.not_eq_true, Bool.false_eq_true, Bool.and_self, if_true, if_false, true_and, and_true, ↓reduceIte, eqD, neD, sh_int, eqv_int, eqv_strs, sDraw, List.length_cons, List.length_nil, Nat.zero_add, Nat.reduceAdd, decide_true, eq_self]
  have q1 := tn2 (tnO ho hn) (tnD hnear hn8')
  refine ⟨by decide, (tr2 q1), ?_⟩
  refine ⟨t, d, rfl, ht, hdt, ?_⟩
  try simp only [Q.addF, Q.enOf, Q.tV, Q.tK, Q.t2, Q.t1, Q.tB, Q.cI, Q.cIp, Q.addI, Q.subI, Q.mulI, Q.fdivI, Q.modI, Q.powI, Q.ltI, Q.leI, Q.gtI, Q.geI, Q.negI, Q.vAnd, Q.vOr, Q.vNot, Q.qAnd, Q.qOr, Q.qNot, Q.qIf, Q.chI, Q.tTupQ, Q.dNil, Q.dCons, Q.tLstQ, Q.tFz, Q.tCA, Q.lenD, Q.tupD, Q.isD, Q.isInt, Q.isBool, Q.isTup, Q.isStr, Q.isLst, Q.tLenN, Q.tIxN, Q.setQ, Q.aNil, Q.aD, Q.aK, Q.tCallQ, Q.tCallKQ, Q.pick, Q.sNil, Q.sSeq, Q.sRet, Q.sRetN, Q.sExpr, Q.sIf, Q.sSet, Q.sSetL, Q.sAsg, Q.sFor, Q.sPar2, Q.sPar3, Q.pNil, Q.pD, Q.pO, Q.pDn, Q.gN, Q.gT, Q.gsNil, Q.gsCons, Q.iQ, Q.itD, Q.iEn, Q.itE, Q.rg1, Q.rg2, Q.oNone, Q.oSome, Q.tSlQ, Q.revD, Q.tOwnM, Q.appC, Q.popC, Q.extC, Q.ownL, Q.tRepL, Q.repC, Q.sSetIx, Q.ixOwn, Q.tLcQ, Q.noOwn, Q.rstQ, Q.wipeQ, Q.sDn, Q.sSetD, Q.tDgetN, Q.dOwn, Q.tTupRg, Q.sNever, Q.isB, Q.listD, Q.listC, Q.reprD, Q.Sl.isOwn, List.map_cons, List.map_nil, List.replicate_succ, List.replicate_zero, List.cons_append, List.nil_append, List.append_nil, List.getElem?_cons_zero, List.getElem?_cons_succ, List.set_cons_zero, List.set_cons_succ, List.getD_cons_zero, List.getD_cons_succ, List.filterMap_cons, List.filterMap_nil, List.all_cons, List.all_nil, Bool.and_true, Bool.true_and, Bool.not_true, Bool.not_false, Bool.not_eq_true, Bool.false_eq_true, Bool.and_self, if_true, if_false, true_and, and_true, ↓reduceIte, eqD, neD, sh_int, eqv_int, eqv_strs, sDraw, List.length_cons, List.length_nil, Nat.zero_add, Nat.reduceAdd, decide_true, eq_self]
  refine ⟨d, rawOrder t d, rfl, fun c hc => ho.mem hc, ?_⟩
  refine ⟨by decide, (tr2 q1), q1.text, q1.text, ?_⟩
  try simp only [Q.addF, Q.enOf, Q.tV, Q.tK, Q.t2, Q.t1, Q.tB, Q.cI, Q.cIp, Q.addI, Q.subI, Q.mulI, Q.fdivI, Q.modI, Q.powI, Q.ltI, Q.leI, Q.gtI, Q.geI, Q.negI, Q.vAnd, Q.vOr, Q.vNot, Q.qAnd, Q.qOr, Q.qNot, Q.qIf, Q.chI, Q.tTupQ, Q.dNil, Q.dCons, Q.tLstQ, Q.tFz, Q.tCA, Q.lenD, Q.tupD, Q.isD, Q.isInt, Q.isBool, Q.isTup, Q.isStr, Q.isLst, Q.tLenN, Q.tIxN, Q.setQ, Q.aNil, Q.aD, Q.aK, Q.tCallQ, Q.tCallKQ, Q.pick, Q.sNil, Q.sSeq, Q.sRet, Q.sRetN, Q.sExpr, Q.sIf, Q.sSet, Q.sSetL, Q.sAsg, Q.sFor, Q.sPar2, Q.sPar3, Q.pNil, Q.pD, Q.pO, Q.pDn, Q.gN, Q.gT, Q.gsNil, Q.gsCons, Q.iQ, Q.itD, Q.iEn, Q.itE, Q.rg1, Q.rg2, Q.oNone, Q.oSome, Q.tSlQ, Q.revD, Q.tOwnM, Q.appC, Q.popC, Q.extC, Q.ownL, Q.tRepL, Q.repC, Q.sSetIx, Q.ixOwn, Q.tLcQ, Q.noOwn, Q.rstQ, Q.wipeQ, Q.sDn, Q.sSetD, Q.tDgetN, Q.dOwn, Q.tTupRg, Q.sNever, Q.isB, Q.listD, Q.listC, Q.reprD, Q.Sl.isOwn, List.map_cons, List.map_nil, List.replicate_succ, List.replicate_zero, List.cons_append, List.nil_append, List.append_nil, List.getElem?_cons_zero, List.getElem?_cons_succ, List.set_cons_zero, List.set_cons_succ, List.getD_cons_zero, List.getD_cons_succ, List.filterMap_cons, List.filterMap_nil, List.all_cons, List.all_nil, Bool.and_true, Bool.true_and, Bool.not_true, Bool.not_false, Bool.not_eq_true, Bool.false_eq_true, Bool.and_self, if_true, if_false, true_and, and_true, ↓reduceIte, eqD, neD, sh_int, eqv_int, eqv_strs, sDraw, List.length_cons, List.length_nil, Nat.zero_add, Nat.reduceAdd, decide_true, eq_self]
  refine ⟨u, _, rfl, hu, hnu, ?_⟩
  try simp only [Q.addF, Q.enOf, Q.tV, Q.tK, Q.t2, Q.t1, Q.tB, Q.cI, Q.cIp, Q.addI, Q.subI, Q.mulI, Q.fdivI, Q.modI, Q.powI, Q.ltI, Q.leI, Q.gtI, Q.geI, Q.negI, Q.vAnd, Q.vOr, Q.vNot, Q.qAnd, Q.qOr, Q.qNot, Q.qIf, Q.chI, Q.tTupQ, Q.dNil, Q.dCons, Q.tLstQ, Q.tFz, Q.tCA, Q.lenD, Q.tupD, Q.isD, Q.isInt, Q.isBool, Q.isTup, Q.isStr, Q.isLst, Q.tLenN, Q.tIxN, Q.setQ, Q.aNil, Q.aD, Q.aK, Q.tCallQ, Q.tCallKQ, Q.pick, Q.sNil, Q.sSeq, Q.sRet, Q.sRetN, Q.sExpr, Q.sIf, Q.sSet, Q.sSetL, Q.sAsg, Q.sFor, Q.sPar2, Q.sPar3, Q.pNil, Q.pD, Q.pO, Q.pDn, Q.gN, Q.gT, Q.gsNil, Q.gsCons, Q.iQ, Q.itD, Q.iEn, Q.itE, Q.rg1, Q.rg2, Q.oNone, Q.oSome, Q.tSlQ, Q.revD, Q.tOwnM, Q.appC, Q.popC, Q.extC, Q.ownL, Q.tRepL, Q.repC, Q.sSetIx, Q.ixOwn, Q.tLcQ, Q.noOwn, Q.rstQ, Q.wipeQ, Q.sDn, Q.sSetD, Q.tDgetN, Q.dOwn, Q.tTupRg, Q.sNever, Q.isB, Q.listD, Q.listC, Q.reprD, Q.Sl.isOwn, List.map_cons, List.map_nil, List.replicate_succ, List.replicate_zero, List.cons_append, List.nil_append, List.append_nil, List.getElem?_cons_zero, List.getElem?_cons_succ, List.set_cons_zero, List.set_cons_succ, List.getD_cons_zero, List.getD_cons_succ, List.filterMap_cons, List.filterMap_nil, List.all_cons, List.all_nil, Bool.and_true, Bool.true_and, Bool.not_true, Bool.not_false, Bool.not_eq_true, Bool.false_eq_true, Bool.and_self, if_true, if_false, true_and, and_true, ↓reduceIte, eqD, neD, sh_int, eqv_int, eqv_strs, sDraw, List.length_cons, List.length_nil, Nat.zero_add, Nat.reduceAdd, decide_true, eq_self]
  refine ⟨d.length, _, _, rfl, ho, ho2, hn, ?_⟩
  try simp only [Q.addF, Q.enOf, Q.tV, Q.tK, Q.t2, Q.t1, Q.tB, Q.cI, Q.cIp, Q.addI, Q.subI, Q.mulI, Q.fdivI, Q.modI, Q.powI, Q.ltI, Q.leI, Q.gtI, Q.geI, Q.negI, Q.vAnd, Q.vOr, Q.vNot, Q.qAnd, Q.qOr, Q.qNot, Q.qIf, Q.chI, Q.tTupQ, Q.dNil, Q.dCons, Q.tLstQ, Q.tFz, Q.tCA, Q.lenD, Q.tupD, Q.isD, Q.isInt, Q.isBool, Q.isTup, Q.isStr, Q.isLst, Q.tLenN, Q.tIxN, Q.setQ, Q.aNil, Q.aD, Q.aK, Q.tCallQ, Q.tCallKQ, Q.pick, Q.sNil, Q.sSeq, Q.sRet, Q.sRetN, Q.sExpr, Q.sIf, Q.sSet, Q.sSetL, Q.sAsg, Q.sFor, Q.sPar2, Q.sPar3, Q.pNil, Q.pD, Q.pO, Q.pDn, Q.gN, Q.gT, Q.gsNil, Q.gsCons, Q.iQ, Q.itD, Q.iEn, Q.itE, Q.rg1, Q.rg2, Q.oNone, Q.oSome, Q.tSlQ, Q.revD, Q.tOwnM, Q.appC, Q.popC, Q.extC, Q.ownL, Q.tRepL, Q.repC, Q.sSetIx, Q.ixOwn, Q.tLcQ, Q.noOwn, Q.rstQ, Q.wipeQ, Q.sDn, Q.sSetD, Q.tDgetN, Q.dOwn, Q.tTupRg, Q.sNever, Q.isB, Q.listD, Q.listC, Q.reprD, Q.Sl.isOwn, List.map_cons, List.map_nil, List.replicate_succ, List.replicate_zero, List.cons_append, List.nil_append, List.append_nil, List.getElem?_cons_zero, List.getElem?_cons_succ, List.set_cons_zero, List.set_cons_succ, List.getD_cons_zero, List.getD_cons_succ, List.filterMap_cons, List.filterMap_nil, List.all_cons, List.all_nil, Bool.and_true, Bool.true_and, Bool.not_true, Bool.not_false, Bool.not_eq_true, Bool.false_eq_true, Bool.and_self, if_true, if_false, true_and, and_true, ↓reduceIte, eqD, neD, sh_int, eqv_int, eqv_strs, sDraw, List.length_cons, List.length_nil, Nat.zero_add, Nat.reduceAdd, decide_true, eq_self]
  refine ⟨d, _, rfl, deck8 hd hn8', ho.laid ho2, ?_⟩
  try simp only [Q.addF, Q.enOf, Q.tV, Q.tK, Q.t2, Q.t1, Q.tB, Q.cI, Q.cIp, Q.addI, Q.subI, Q.mulI, Q.fdivI, Q.modI, Q.powI, Q.ltI, Q.leI, Q.gtI, Q.geI, Q.negI, Q.vAnd, Q.vOr, Q.vNot, Q.qAnd, Q.qOr, Q.qNot, Q.qIf, Q.chI, Q.tTupQ, Q.dNil, Q.dCons, Q.tLstQ, Q.tFz, Q.tCA, Q.lenD, Q.tupD, Q.isD, Q.isInt, Q.isBool, Q.isTup, Q.isStr, Q.isLst, Q.tLenN, Q.tIxN, Q.setQ, Q.aNil, Q.aD, Q.aK, Q.tCallQ, Q.tCallKQ, Q.pick, Q.sNil, Q.sSeq, Q.sRet, Q.sRetN, Q.sExpr, Q.sIf, Q.sSet, Q.sSetL, Q.sAsg, Q.sFor, Q.sPar2, Q.sPar3, Q.pNil, Q.pD, Q.pO, Q.pDn, Q.gN, Q.gT, Q.gsNil, Q.gsCons, Q.iQ, Q.itD, Q.iEn, Q.itE, Q.rg1, Q.rg2, Q.oNone, Q.oSome, Q.tSlQ, Q.revD, Q.tOwnM, Q.appC, Q.popC, Q.extC, Q.ownL, Q.tRepL, Q.repC, Q.sSetIx, Q.ixOwn, Q.tLcQ, Q.noOwn, Q.rstQ, Q.wipeQ, Q.sDn, Q.sSetD, Q.tDgetN, Q.dOwn, Q.tTupRg, Q.sNever, Q.isB, Q.listD, Q.listC, Q.reprD, Q.Sl.isOwn, List.map_cons, List.map_nil, List.replicate_succ, List.replicate_zero, List.cons_append, List.nil_append, List.append_nil, List.getElem?_cons_zero, List.getElem?_cons_succ, List.set_cons_zero, List.set_cons_succ, List.getD_cons_zero, List.getD_cons_succ, List.filterMap_cons, List.filterMap_nil, List.all_cons, List.all_nil, Bool.and_true, Bool.true_and, Bool.not_true, Bool.not_false, Bool.not_eq_true, Bool.false_eq_true, Bool.and_self, if_true, if_false, true_and, and_true, ↓reduceIte, eqD, neD, sh_int, eqv_int, eqv_strs, sDraw, List.length_cons, List.length_nil, Nat.zero_add, Nat.reduceAdd, decide_true, eq_self]
  refine ⟨n, _, rfl, hn1, hn8, hnear, ?_⟩
  have q2 := tn2 (tnD (laid_deck hd (ho.laid ho2)) hn8') (tnC (d := laidL d (rawOrder t d)) hn8 (by rw [nl]; exact hn))
  refine ⟨by decide, (tr2 q2), ?_⟩
  try simp only [Q.addF, Q.enOf, Q.tV, Q.tK, Q.t2, Q.t1, Q.tB, Q.cI, Q.cIp, Q.addI, Q.subI, Q.mulI, Q.fdivI, Q.modI, Q.powI, Q.ltI, Q.leI, Q.gtI, Q.geI, Q.negI, Q.vAnd, Q.vOr, Q.vNot, Q.qAnd, Q.qOr, Q.qNot, Q.qIf, Q.chI, Q.tTupQ, Q.dNil, Q.dCons, Q.tLstQ, Q.tFz, Q.tCA, Q.lenD, Q.tupD, Q.isD, Q.isInt, Q.isBool, Q.isTup, Q.isStr, Q.isLst, Q.tLenN, Q.tIxN, Q.setQ, Q.aNil, Q.aD, Q.aK, Q.tCallQ, Q.tCallKQ, Q.pick, Q.sNil, Q.sSeq, Q.sRet, Q.sRetN, Q.sExpr, Q.sIf, Q.sSet, Q.sSetL, Q.sAsg, Q.sFor, Q.sPar2, Q.sPar3, Q.pNil, Q.pD, Q.pO, Q.pDn, Q.gN, Q.gT, Q.gsNil, Q.gsCons, Q.iQ, Q.itD, Q.iEn, Q.itE, Q.rg1, Q.rg2, Q.oNone, Q.oSome, Q.tSlQ, Q.revD, Q.tOwnM, Q.appC, Q.popC, Q.extC, Q.ownL, Q.tRepL, Q.repC, Q.sSetIx, Q.ixOwn, Q.tLcQ, Q.noOwn, Q.rstQ, Q.wipeQ, Q.sDn, Q.sSetD, Q.tDgetN, Q.dOwn, Q.tTupRg, Q.sNever, Q.isB, Q.listD, Q.listC, Q.reprD, Q.Sl.isOwn, List.map_cons, List.map_nil, List.replicate_succ, List.replicate_zero, List.cons_append, List.nil_append, List.append_nil, List.getElem?_cons_zero, List.getElem?_cons_succ, List.set_cons_zero, List.set_cons_succ, List.getD_cons_zero, List.getD_cons_succ, List.filterMap_cons, List.filterMap_nil, List.all_cons, List.all_nil, Bool.and_true, Bool.true_and, Bool.not_true, Bool.not_false, Bool.not_eq_true, Bool.false_eq_true, Bool.and_self, if_true, if_false, true_and, and_true, ↓reduceIte, eqD, neD, sh_int, eqv_int, eqv_strs, sDraw, List.length_cons, List.length_nil, Nat.zero_add, Nat.reduceAdd, decide_true, eq_self]
  refine ⟨u, _, rfl, hu, hnu, ?_⟩
  try simp only [Q.addF, Q.enOf, Q.tV, Q.tK, Q.t2, Q.t1, Q.tB, Q.cI, Q.cIp, Q.addI, Q.subI, Q.mulI, Q.fdivI, Q.modI, Q.powI, Q.ltI, Q.leI, Q.gtI, Q.geI, Q.negI, Q.vAnd, Q.vOr, Q.vNot, Q.qAnd, Q.qOr, Q.qNot, Q.qIf, Q.chI, Q.tTupQ, Q.dNil, Q.dCons, Q.tLstQ, Q.tFz, Q.tCA, Q.lenD, Q.tupD, Q.isD, Q.isInt, Q.isBool, Q.isTup, Q.isStr, Q.isLst, Q.tLenN, Q.tIxN, Q.setQ, Q.aNil, Q.aD, Q.aK, Q.tCallQ, Q.tCallKQ, Q.pick, Q.sNil, Q.sSeq, Q.sRet, Q.sRetN, Q.sExpr, Q.sIf, Q.sSet, Q.sSetL, Q.sAsg, Q.sFor, Q.sPar2, Q.sPar3, Q.pNil, Q.pD, Q.pO, Q.pDn, Q.gN, Q.gT, Q.gsNil, Q.gsCons, Q.iQ, Q.itD, Q.iEn, Q.itE, Q.rg1, Q.rg2, Q.oNone, Q.oSome, Q.tSlQ, Q.revD, Q.tOwnM, Q.appC, Q.popC, Q.extC, Q.ownL, Q.tRepL, Q.repC, Q.sSetIx, Q.ixOwn, Q.tLcQ, Q.noOwn, Q.rstQ, Q.wipeQ, Q.sDn, Q.sSetD, Q.tDgetN, Q.dOwn, Q.tTupRg, Q.sNever, Q.isB, Q.listD, Q.listC, Q.reprD, Q.Sl.isOwn, List.map_cons, List.map_nil, List.replicate_succ, List.replicate_zero, List.cons_append, List.nil_append, List.append_nil, List.getElem?_cons_zero, List.getElem?_cons_succ, List.set_cons_zero, List.set_cons_succ, List.getD_cons_zero, List.getD_cons_succ, List.filterMap_cons, List.filterMap_nil, List.all_cons, List.all_nil, Bool.and_true, Bool.true_and, Bool.not_true, Bool.not_false, Bool.not_eq_true, Bool.false_eq_true, Bool.and_self, if_true, if_false, true_and, and_true, ↓reduceIte, eqD, neD, sh_int, eqv_int, eqv_strs, sDraw, List.length_cons, List.length_nil, Nat.zero_add, Nat.reduceAdd, decide_true, eq_self]
  refine ⟨n, d, rfl, hn1, hn8, hd, ?_⟩
  rw [laid_laid (ho.lt ho2), ← counts_perm (size := n) (laid_perm ho)]
  refine ⟨by decide, (tr2 q2), q2.text, q2.text, ?_⟩
  try simp only [Q.addF, Q.enOf, Q.tV, Q.tK, Q.t2, Q.t1, Q.tB, Q.cI, Q.cIp, Q.addI, Q.subI, Q.mulI, Q.fdivI, Q.modI, Q.powI, Q.ltI, Q.leI, Q.gtI, Q.geI, Q.negI, Q.vAnd, Q.vOr, Q.vNot, Q.qAnd, Q.qOr, Q.qNot, Q.qIf, Q.chI, Q.tTupQ, Q.dNil, Q.dCons, Q.tLstQ, Q.tFz, Q.tCA, Q.lenD, Q.tupD, Q.isD, Q.isInt, Q.isBool, Q.isTup, Q.isStr, Q.isLst, Q.tLenN, Q.tIxN, Q.setQ, Q.aNil, Q.aD, Q.aK, Q.tCallQ, Q.tCallKQ, Q.pick, Q.sNil, Q.sSeq, Q.sRet, Q.sRetN, Q.sExpr, Q.sIf, Q.sSet, Q.sSetL, Q.sAsg, Q.sFor, Q.sPar2, Q.sPar3, Q.pNil, Q.pD, Q.pO, Q.pDn, Q.gN, Q.gT, Q.gsNil, Q.gsCons, Q.iQ, Q.itD, Q.iEn, Q.itE, Q.rg1, Q.rg2, Q.oNone, Q.oSome, Q.tSlQ, Q.revD, Q.tOwnM, Q.appC, Q.popC, Q.extC, Q.ownL, Q.tRepL, Q.repC, Q.sSetIx, Q.ixOwn, Q.tLcQ, Q.noOwn, Q.rstQ, Q.wipeQ, Q.sDn, Q.sSetD, Q.tDgetN, Q.dOwn, Q.tTupRg, Q.sNever, Q.isB, Q.listD, Q.listC, Q.reprD, Q.Sl.isOwn, List.map_cons, List.map_nil, List.replicate_succ, List.replicate_zero, List.cons_append, List.nil_append, List.append_nil, List.getElem?_cons_zero, List.getElem?_cons_succ, List.set_cons_zero, List.set_cons_succ, List.getD_cons_zero, List.getD_cons_succ, List.filterMap_cons, List.filterMap_nil, List.all_cons, List.all_nil, Bool.and_true, Bool.true_and, Bool.not_true, Bool.not_false, Bool.not_eq_true, Bool.false_eq_true, Bool.and_self, if_true, if_false, true_and, and_true, ↓reduceIte, eqD, neD, sh_int, eqv_int, eqv_strs, sDraw, List.length_cons, List.length_nil, Nat.zero_add, Nat.reduceAdd, decide_true, eq_self]
  refine ⟨n, _, rfl, by omega, hn8', hnear, ?_⟩
  try simp only [Q.addF, Q.enOf, Q.tV, Q.tK, Q.t2, Q.t1, Q.tB, Q.cI, Q.cIp, Q.addI, Q.subI, Q.mulI, Q.fdivI, Q.modI, Q.powI, Q.ltI, Q.leI, Q.gtI, Q.geI, Q.negI, Q.vAnd, Q.vOr, Q.vNot, Q.qAnd, Q.qOr, Q.qNot, Q.qIf, Q.chI, Q.tTupQ, Q.dNil, Q.dCons, Q.tLstQ, Q.tFz, Q.tCA, Q.lenD, Q.tupD, Q.isD, Q.isInt, Q.isBool, Q.isTup, Q.isStr, Q.isLst, Q.tLenN, Q.tIxN, Q.setQ, Q.aNil, Q.aD, Q.aK, Q.tCallQ, Q.tCallKQ, Q.pick, Q.sNil, Q.sSeq, Q.sRet, Q.sRetN, Q.sExpr, Q.sIf, Q.sSet, Q.sSetL, Q.sAsg, Q.sFor, Q.sPar2, Q.sPar3, Q.pNil, Q.pD, Q.pO, Q.pDn, Q.gN, Q.gT, Q.gsNil, Q.gsCons, Q.iQ, Q.itD, Q.iEn, Q.itE, Q.rg1, Q.rg2, Q.oNone, Q.oSome, Q.tSlQ, Q.revD, Q.tOwnM, Q.appC, Q.popC, Q.extC, Q.ownL, Q.tRepL, Q.repC, Q.sSetIx, Q.ixOwn, Q.tLcQ, Q.noOwn, Q.rstQ, Q.wipeQ, Q.sDn, Q.sSetD, Q.tDgetN, Q.dOwn, Q.tTupRg, Q.sNever, Q.isB, Q.listD, Q.listC, Q.reprD, Q.Sl.isOwn, List.map_cons, List.map_nil, List.replicate_succ, List.replicate_zero, List.cons_append, List.nil_append, List.append_nil, List.getElem?_cons_zero, List.getElem?_cons_succ, List.set_cons_zero, List.set_cons_succ, List.getD_cons_zero, List.getD_cons_succ, List.filterMap_cons, List.filterMap_nil, List.all_cons, List.all_nil, Bool.and_true, Bool.true_and, Bool.not_true, Bool.not_false, Bool.not_eq_true, Bool.false_eq_true, Bool.and_self, if_true, if_false, true_and, and_true, ↓reduceIte, eqD, neD, sh_int, eqv_int, eqv_strs, sDraw, List.length_cons, List.length_nil, Nat.zero_add, Nat.reduceAdd, decide_true, eq_self]
  refine ⟨d.length, _, rfl, ho, hn, ?_⟩
  try simp only [Q.addF, Q.enOf, Q.tV, Q.tK, Q.t2, Q.t1, Q.tB, Q.cI, Q.cIp, Q.addI, Q.subI, Q.mulI, Q.fdivI, Q.modI, Q.powI, Q.ltI, Q.leI, Q.gtI, Q.geI, Q.negI, Q.vAnd, Q.vOr, Q.vNot, Q.qAnd, Q.qOr, Q.qNot, Q.qIf, Q.chI, Q.tTupQ, Q.dNil, Q.dCons, Q.tLstQ, Q.tFz, Q.tCA, Q.lenD, Q.tupD, Q.isD, Q.isInt, Q.isBool, Q.isTup, Q.isStr, Q.isLst, Q.tLenN, Q.tIxN, Q.setQ, Q.aNil, Q.aD, Q.aK, Q.tCallQ, Q.tCallKQ, Q.pick, Q.sNil, Q.sSeq, Q.sRet, Q.sRetN, Q.sExpr, Q.sIf, Q.sSet, Q.sSetL, Q.sAsg, Q.sFor, Q.sPar2, Q.sPar3, Q.pNil, Q.pD, Q.pO, Q.pDn, Q.gN, Q.gT, Q.gsNil, Q.gsCons, Q.iQ, Q.itD, Q.iEn, Q.itE, Q.rg1, Q.rg2, Q.oNone, Q.oSome, Q.tSlQ, Q.revD, Q.tOwnM, Q.appC, Q.popC, Q.extC, Q.ownL, Q.tRepL, Q.repC, Q.sSetIx, Q.ixOwn, Q.tLcQ, Q.noOwn, Q.rstQ, Q.wipeQ, Q.sDn, Q.sSetD, Q.tDgetN, Q.dOwn, Q.tTupRg, Q.sNever, Q.isB, Q.listD, Q.listC, Q.reprD, Q.Sl.isOwn, List.map_cons, List.map_nil, List.replicate_succ, List.replicate_zero, List.cons_append, List.nil_append, List.append_nil, List.getElem?_cons_zero, List.getElem?_cons_succ, List.set_cons_zero, List.set_cons_succ, List.getD_cons_zero, List.getD_cons_succ, List.filterMap_cons, List.filterMap_nil, List.all_cons, List.all_nil, Bool.and_true, Bool.true_and, Bool.not_true, Bool.not_false, Bool.not_eq_true, Bool.false_eq_true, Bool.and_self, if_true, if_false, true_and, and_true, ↓reduceIte, eqD, neD, sh_int, eqv_int, eqv_strs, sDraw, List.length_cons, List.length_nil, Nat.zero_add, Nat.reduceAdd, decide_true, eq_self]
  refine ⟨_, _, rfl, deck8 hnear hn8', by rw [nl]; exact ho.undo, ?_⟩
  rw [laid_laid (ho.lt ho.undo), laid_undo ho, laid_row]
  have q3 := tnD hd hn8'
  refine ⟨(tr1 q3), (tr1 q3), q3.text, q3.text, ?_⟩
  try simp only [Q.addF, Q.enOf, Q.tV, Q.tK, Q.t2, Q.t1, Q.tB, Q.cI, Q.cIp, Q.addI, Q.subI, Q.mulI, Q.fdivI, Q.modI, Q.powI, Q.ltI, Q.leI, Q.gtI, Q.geI, Q.negI, Q.vAnd, Q.vOr, Q.vNot, Q.qAnd, Q.qOr, Q.qNot, Q.qIf, Q.chI, Q.tTupQ, Q.dNil, Q.dCons, Q.tLstQ, Q.tFz, Q.tCA, Q.lenD, Q.tupD, Q.isD, Q.isInt, Q.isBool, Q.isTup, Q.isStr, Q.isLst, Q.tLenN, Q.tIxN, Q.setQ, Q.aNil, Q.aD, Q.aK, Q.tCallQ, Q.tCallKQ, Q.pick, Q.sNil, Q.sSeq, Q.sRet, Q.sRetN, Q.sExpr, Q.sIf, Q.sSet, Q.sSetL, Q.sAsg, Q.sFor, Q.sPar2, Q.sPar3, Q.pNil, Q.pD, Q.pO, Q.pDn, Q.gN, Q.gT, Q.gsNil, Q.gsCons, Q.iQ, Q.itD, Q.iEn, Q.itE, Q.rg1, Q.rg2, Q.oNone, Q.oSome, Q.tSlQ, Q.revD, Q.tOwnM, Q.appC, Q.popC, Q.extC, Q.ownL, Q.tRepL, Q.repC, Q.sSetIx, Q.ixOwn, Q.tLcQ, Q.noOwn, Q.rstQ, Q.wipeQ, Q.sDn, Q.sSetD, Q.tDgetN, Q.dOwn, Q.tTupRg, Q.sNever, Q.isB, Q.listD, Q.listC, Q.reprD, Q.Sl.isOwn, List.map_cons, List.map_nil, List.replicate_succ, List.replicate_zero, List.cons_append, List.nil_append, List.append_nil, List.getElem?_cons_zero, List.getElem?_cons_succ, List.set_cons_zero, List.set_cons_succ, List.getD_cons_zero, List.getD_cons_succ, List.filterMap_cons, List.filterMap_nil, List.all_cons, List.all_nil, Bool.and_true, Bool.true_and, Bool.not_true, Bool.not_false, Bool.not_eq_true, Bool.false_eq_true, Bool.and_self, if_true, if_false, true_and, and_true, ↓reduceIte, eqD, neD, sh_int, eqv_int, eqv_strs, sDraw, List.length_cons, List.length_nil, Nat.zero_add, Nat.reduceAdd, decide_true, eq_self]
  exact h
/-! ### the law -/
def body_law : TQS := (sSeq (sSet 3 (t2 addF (tK (.int 1)) (tCallQ sDraw (aK 1 (aD (tK (.int 8)) aNil)))))
  (sSeq (sSet 4 (tCallQ sp__law_cards (aK 1 (aD (tV 3) (aD (tCallQ sp__law_pick (aK 1 (aD (tTupQ (dCons (tK (.int 4)) (dCons (tK (.int 8)) (dCons (tK (.int 12)) (dCons (tK (.int 24)) (dCons (tK (.int 60)) dNil)))))) aNil))) aNil)))))
  (sSeq (sSetL 5 (tLcQ (rg1 (tK (.int 3))) (gN 7) tY (tCallQ sp__law_order (aK 1 (aD (tLenN 4) aNil))) [7]))
  (sSeq (sIf (qNot (tB (tCallQ sp__law_are_orders_right (aD (tV 4) (aD (tIxN 5 (tK (.int 0))) (aD (tIxN 5 (tK (.int 1))) (aD (tIxN 5 (tK (.int 2))) aNil))))))) (sRet (tK (.bool false))) sNil)
  (sSeq (sSet 6 (tCA tupD (dCons (tFz (tLcQ (rg1 (tV 3)) (gN 8) tY (tCA lenD (dCons (tFz (tLcQ (iQ (tV 4)) (gN 9) (tB (t2 eqD (tV 9) (tV 8))) (tV 9) [9])) dNil)) [8])) dNil)))
  (sSeq (sIf (tB (t2 neD (tCA reprD (dCons (tTupQ (dCons (tCallQ sp_counts_of (aD (tV 3) (aD (tV 4) aNil))) (dCons (tCallKQ sp_counts_of [1, 0] aNil (aD (tV 4) (aD (tV 3) aNil))) dNil))) dNil)) (tCA reprD (dCons (tTupQ (dCons (tV 6) (dCons (tV 6) dNil))) dNil)))) (sRet (tK (.bool false))) sNil)
  (sIf (qNot (tB (tCallQ sp__law_are_throws_right (aD (tV 3) (aD (tV 4) (aD (tCallQ sp__law_throw (aK 1 (aD (tV 3) aNil))) (aD (tCallQ sp__law_throw (aK 1 (aD (tV 3) aNil))) aNil))))))) (sRet (tK (.bool false))) sNil)))))))
def bl1 : TQS := (sSeq (sSet 4 (tCallQ sp__law_cards (aK 1 (aD (tV 3) (aD (tCallQ sp__law_pick (aK 1 (aD (tTupQ (dCons (tK (.int 4)) (dCons (tK (.int 8)) (dCons (tK (.int 12)) (dCons (tK (.int 24)) (dCons (tK (.int 60)) dNil)))))) aNil))) aNil)))))
  (sSeq (sSetL 5 (tLcQ (rg1 (tK (.int 3))) (gN 7) tY (tCallQ sp__law_order (aK 1 (aD (tLenN 4) aNil))) [7]))
  (sSeq (sIf (qNot (tB (tCallQ sp__law_are_orders_right (aD (tV 4) (aD (tIxN 5 (tK (.int 0))) (aD (tIxN 5 (tK (.int 1))) (aD (tIxN 5 (tK (.int 2))) aNil))))))) (sRet (tK (.bool false))) sNil)
  (sSeq (sSet 6 (tCA tupD (dCons (tFz (tLcQ (rg1 (tV 3)) (gN 8) tY (tCA lenD (dCons (tFz (tLcQ (iQ (tV 4)) (gN 9) (tB (t2 eqD (tV 9) (tV 8))) (tV 9) [9])) dNil)) [8])) dNil)))
  (sSeq (sIf (tB (t2 neD (tCA reprD (dCons (tTupQ (dCons (tCallQ sp_counts_of (aD (tV 3) (aD (tV 4) aNil))) (dCons (tCallKQ sp_counts_of [1, 0] aNil (aD (tV 4) (aD (tV 3) aNil))) dNil))) dNil)) (tCA reprD (dCons (tTupQ (dCons (tV 6) (dCons (tV 6) dNil))) dNil)))) (sRet (tK (.bool false))) sNil)
  (sIf (qNot (tB (tCallQ sp__law_are_throws_right (aD (tV 3) (aD (tV 4) (aD (tCallQ sp__law_throw (aK 1 (aD (tV 3) aNil))) (aD (tCallQ sp__law_throw (aK 1 (aD (tV 3) aNil))) aNil))))))) (sRet (tK (.bool false))) sNil))))))
def bl2 : TQS := (sSeq (sSetL 5 (tLcQ (rg1 (tK (.int 3))) (gN 7) tY (tCallQ sp__law_order (aK 1 (aD (tLenN 4) aNil))) [7]))
  (sSeq (sIf (qNot (tB (tCallQ sp__law_are_orders_right (aD (tV 4) (aD (tIxN 5 (tK (.int 0))) (aD (tIxN 5 (tK (.int 1))) (aD (tIxN 5 (tK (.int 2))) aNil))))))) (sRet (tK (.bool false))) sNil)
  (sSeq (sSet 6 (tCA tupD (dCons (tFz (tLcQ (rg1 (tV 3)) (gN 8) tY (tCA lenD (dCons (tFz (tLcQ (iQ (tV 4)) (gN 9) (tB (t2 eqD (tV 9) (tV 8))) (tV 9) [9])) dNil)) [8])) dNil)))
  (sSeq (sIf (tB (t2 neD (tCA reprD (dCons (tTupQ (dCons (tCallQ sp_counts_of (aD (tV 3) (aD (tV 4) aNil))) (dCons (tCallKQ sp_counts_of [1, 0] aNil (aD (tV 4) (aD (tV 3) aNil))) dNil))) dNil)) (tCA reprD (dCons (tTupQ (dCons (tV 6) (dCons (tV 6) dNil))) dNil)))) (sRet (tK (.bool false))) sNil)
  (sIf (qNot (tB (tCallQ sp__law_are_throws_right (aD (tV 3) (aD (tV 4) (aD (tCallQ sp__law_throw (aK 1 (aD (tV 3) aNil))) (aD (tCallQ sp__law_throw (aK 1 (aD (tV 3) aNil))) aNil))))))) (sRet (tK (.bool false))) sNil)))))
def bl3 : TQS := (sSeq (sIf (qNot (tB (tCallQ sp__law_are_orders_right (aD (tV 4) (aD (tIxN 5 (tK (.int 0))) (aD (tIxN 5 (tK (.int 1))) (aD (tIxN 5 (tK (.int 2))) aNil))))))) (sRet (tK (.bool false))) sNil)
  (sSeq (sSet 6 (tCA tupD (dCons (tFz (tLcQ (rg1 (tV 3)) (gN 8) tY (tCA lenD (dCons (tFz (tLcQ (iQ (tV 4)) (gN 9) (tB (t2 eqD (tV 9) (tV 8))) (tV 9) [9])) dNil)) [8])) dNil)))
  (sSeq (sIf (tB (t2 neD (tCA reprD (dCons (tTupQ (dCons (tCallQ sp_counts_of (aD (tV 3) (aD (tV 4) aNil))) (dCons (tCallKQ sp_counts_of [1, 0] aNil (aD (tV 4) (aD (tV 3) aNil))) dNil))) dNil)) (tCA reprD (dCons (tTupQ (dCons (tV 6) (dCons (tV 6) dNil))) dNil)))) (sRet (tK (.bool false))) sNil)
  (sIf (qNot (tB (tCallQ sp__law_are_throws_right (aD (tV 3) (aD (tV 4) (aD (tCallQ sp__law_throw (aK 1 (aD (tV 3) aNil))) (aD (tCallQ sp__law_throw (aK 1 (aD (tV 3) aNil))) aNil))))))) (sRet (tK (.bool false))) sNil))))
def bl4 : TQS := (sSeq (sSet 6 (tCA tupD (dCons (tFz (tLcQ (rg1 (tV 3)) (gN 8) tY (tCA lenD (dCons (tFz (tLcQ (iQ (tV 4)) (gN 9) (tB (t2 eqD (tV 9) (tV 8))) (tV 9) [9])) dNil)) [8])) dNil)))
  (sSeq (sIf (tB (t2 neD (tCA reprD (dCons (tTupQ (dCons (tCallQ sp_counts_of (aD (tV 3) (aD (tV 4) aNil))) (dCons (tCallKQ sp_counts_of [1, 0] aNil (aD (tV 4) (aD (tV 3) aNil))) dNil))) dNil)) (tCA reprD (dCons (tTupQ (dCons (tV 6) (dCons (tV 6) dNil))) dNil)))) (sRet (tK (.bool false))) sNil)
  (sIf (qNot (tB (tCallQ sp__law_are_throws_right (aD (tV 3) (aD (tV 4) (aD (tCallQ sp__law_throw (aK 1 (aD (tV 3) aNil))) (aD (tCallQ sp__law_throw (aK 1 (aD (tV 3) aNil))) aNil))))))) (sRet (tK (.bool false))) sNil)))
def bl5 : TQS := (sSeq (sIf (tB (t2 neD (tCA reprD (dCons (tTupQ (dCons (tCallQ sp_counts_of (aD (tV 3) (aD (tV 4) aNil))) (dCons (tCallKQ sp_counts_of [1, 0] aNil (aD (tV 4) (aD (tV 3) aNil))) dNil))) dNil)) (tCA reprD (dCons (tTupQ (dCons (tV 6) (dCons (tV 6) dNil))) dNil)))) (sRet (tK (.bool false))) sNil)
  (sIf (qNot (tB (tCallQ sp__law_are_throws_right (aD (tV 3) (aD (tV 4) (aD (tCallQ sp__law_throw (aK 1 (aD (tV 3) aNil))) (aD (tCallQ sp__law_throw (aK 1 (aD (tV 3) aNil))) aNil))))))) (sRet (tK (.bool false))) sNil))
def bl6 : TQS := (sIf (qNot (tB (tCallQ sp__law_are_throws_right (aD (tV 3) (aD (tV 4) (aD (tCallQ sp__law_throw (aK 1 (aD (tV 3) aNil))) (aD (tCallQ sp__law_throw (aK 1 (aD (tV 3) aNil))) aNil))))))) (sRet (tK (.bool false))) sNil)
theorem loop_law (R : EndsQ) : ∀ (ds : List PyData) (s2 s3 s4 s5 s6 : Sl), (∀ s2 s3 s4 s5 s6, R.nx [.un, .dk, s2, s3, s4, s5, s6, .un, .un, .un]) →
    forQ (gN 2) body_law R ds [.un, .dk, s2, s3, s4, s5, s6, .un, .un, .un]
  | [], s2, s3, s4, s5, s6, h => by simpa only [forQ] using h s2 s3 s4 s5 s6
  | x :: ds, s2, s3, s4, s5, s6, h => by
    simp only [forQ, gN]
    show sSeq _ bl1 _ _
    simp only [Q.addF, Q.enOf, Q.tV, Q.tK, Q.t2, Q.t1, Q.tB, Q.cI, Q.cIp, Q.addI, Q.subI, Q.mulI, Q.fdivI, Q.modI, Q.powI, Q.ltI, Q.leI, Q.gtI, Q.geI, Q.negI, Q.vAnd, Q.vOr, Q.vNot, Q.qAnd, Q.qOr, Q.qNot, Q.qIf, Q.chI, Q.tTupQ, Q.dNil, Q.dCons, Q.tLstQ, Q.tFz, Q.tCA, Q.lenD, Q.tupD, Q.isD, Q.isInt, Q.isBool, Q.isTup, Q.isStr, Q.isLst, Q.tLenN, Q.tIxN, Q.setQ, Q.aNil, Q.aD, Q.aK, Q.tCallQ, Q.tCallKQ, Q.pick, Q.sNil, Q.sSeq, Q.sRet, Q.sRetN, Q.sExpr, Q.sIf, Q.sSet, Q.sSetL, Q.sAsg, Q.sFor, Q.sPar2, Q.sPar3, Q.pNil, Q.pD, Q.pO, Q.pDn, Q.gN, Q.gT, Q.gsNil, Q.gsCons, Q.iQ, Q.itD, Q.iEn, Q.itE, Q.rg1, Q.rg2, Q.oNone, Q.oSome, Q.tSlQ, Q.revD, Q.tOwnM, Q.appC, Q.popC, Q.extC, Q.ownL, Q.tRepL, Q.repC, Q.sSetIx, Q.ixOwn, Q.tLcQ, Q.noOwn, Q.rstQ, Q.wipeQ, Q.sDn, Q.sSetD, Q.tDgetN, Q.dOwn, Q.tTupRg, Q.sNever, Q.isB, Q.listD, Q.listC, Q.reprD, Q.Sl.isOwn, List.map_cons, List.map_nil, List.replicate_succ, List.replicate_zero, List.cons_append, List.nil_append, List.append_nil, List.getElem?_cons_zero, List.getElem?_cons_succ, List.set_cons_zero, List.set_cons_succ, List.getD_cons_zero, List.getD_cons_succ, List.filterMap_cons, List.filterMap_nil, List.all_cons, List.all_nil, Bool.and_true, Bool.true_and, Bool.not_true, Bool.not_false, Bool.not_eq_true, Bool.false_eq_true, Bool.and_self, if_true, if_false, true_and, and_true, ↓reduceIte, eqD, neD, sh_int, eqv_int, eqv_strs, sDraw, List.length_cons, List.length_nil, Nat.zero_add, Nat.reduceAdd, decide_true, eq_self]
    refine ⟨by omega, by omega, fun r hr1 hr2 => ?_⟩
    obtain ⟨n, en⟩ := Int.eq_ofNat_of_zero_le (a := 1 + r) (by omega)
    rw [en]
    have hn1 : 1 ≤ n := by omega
    have hn8 : n ≤ 8 := by omega
    have hn8' : (n : Int) ≤ 8 := by omega
    show sSeq _ bl2 _ _
    simp only [Q.addF, Q.enOf, Q.tV, Q.tK, Q.t2, Q.t1, Q.tB, Q.cI, Q.cIp, Q.addI, Q.subI, Q.mulI, Q.fdivI, Q.modI, Q.powI, Q.ltI, Q.leI, Q.gtI, Q.geI, Q.negI, Q.vAnd, Q.vOr, Q.vNot, Q.qAnd, Q.qOr, Q.qNot, Q.qIf, Q.chI, Q.tTupQ, Q.dNil, Q.dCons, Q.tLstQ, Q.tFz, Q.tCA, Q.lenD, Q.tupD, Q.isD, Q.isInt, Q.isBool, Q.isTup, Q.isStr, Q.isLst, Q.tLenN, Q.tIxN, Q.setQ, Q.aNil, Q.aD, Q.aK, Q.tCallQ, Q.tCallKQ, Q.pick, Q.sNil, Q.sSeq, Q.sRet, Q.sRetN, Q.sExpr, Q.sIf, Q.sSet, Q.sSetL, Q.sAsg, Q.sFor, Q.sPar2, Q.sPar3, Q.pNil, Q.pD, Q.pO, Q.pDn, Q.gN, Q.gT, Q.gsNil, Q.gsCons, Q.iQ, Q.itD, Q.iEn, Q.itE, Q.rg1, Q.rg2, Q.oNone, Q.oSome, Q.tSlQ, Q.revD, Q.tOwnM, Q.appC, Q.popC, Q.extC, Q.ownL, Q.tRepL, Q.repC, Q.sSetIx, Q.ixOwn, Q.tLcQ, Q.noOwn, Q.rstQ, Q.wipeQ, Q.sDn, Q.sSetD, Q.tDgetN, Q.dOwn, Q.tTupRg, Q.sNever, Q.isB, Q.listD, Q.listC, Q.reprD, Q.Sl.isOwn, List.map_cons, List.map_nil, List.replicate_succ, List.replicate_zero, List.cons_append, List.nil_append, List.append_nil, List.getElem?_cons_zero, List.getElem?_cons_succ, List.set_cons_zero, List.set_cons_succ, List.getD_cons_zero, List.getD_cons_succ, List.filterMap_cons, List.filterMap_nil, List.all_cons, List.all_nil, Bool.and_true, Bool.true_and, Bool.not_true, Bool.not_false, Bool.not_eq_true, Bool.false_eq_true, Bool.and_self, if_true, if_false, true_and, and_true, ↓reduceIte, eqD, neD, sh_int, eqv_int, eqv_strs, sDraw, List.length_cons, List.length_nil, Nat.zero_add, Nat.reduceAdd, decide_true, eq_self]
    refine ⟨by decide, [4, 8, 12, 24, 60], rfl, by simp, by simp, fun m hm => ?_⟩
    have hm2 : 0 ≤ m ∧ m ≤ 60 := by
      simp only [List.mem_cons, List.not_mem_nil, or_false] at hm
      omega
    try simp only [Q.addF, Q.enOf, Q.tV, Q.tK, Q.t2, Q.t1, Q.tB, Q.cI, Q.cIp, Q.addI, Q.subI, Q.mulI, Q.fdivI, Q.modI, Q.powI, Q.ltI, Q.leI, Q.gtI, Q.geI, Q.negI, Q.vAnd, Q.vOr, Q.vNot, Q.qAnd, Q.qOr, Q.qNot, Q.qIf, Q.chI, Q.tTupQ, Q.dNil, Q.dCons, Q.tLstQ, Q.tFz, Q.tCA, Q.lenD, Q.tupD, Q.isD, Q.isInt, Q.isBool, Q.isTup, Q.isStr, Q.isLst, Q.tLenN, Q.tIxN, Q.setQ, Q.aNil, Q.aD, Q.aK, Q.tCallQ, Q.tCallKQ, Q.pick, Q.sNil, Q.sSeq, Q.sRet, Q.sRetN, Q.sExpr, Q.sIf, Q.sSet, Q.sSetL, Q.sAsg, Q.sFor, Q.sPar2, Q.sPar3, Q.pNil, Q.pD, Q.pO, Q.pDn, Q.gN, Q.gT, Q.gsNil, Q.gsCons, Q.iQ, Q.itD, Q.iEn, Q.itE, Q.rg1, Q.rg2, Q.oNone, Q.oSome, Q.tSlQ, Q.revD, Q.tOwnM, Q.appC, Q.popC, Q.extC, Q.ownL, Q.tRepL, Q.repC, Q.sSetIx, Q.ixOwn, Q.tLcQ, Q.noOwn, Q.rstQ, Q.wipeQ, Q.sDn, Q.sSetD, Q.tDgetN, Q.dOwn, Q.tTupRg, Q.sNever, Q.isB, Q.listD, Q.listC, Q.reprD, Q.Sl.isOwn, List.map_cons, List.map_nil, List.replicate_succ, List.replicate_zero, List.cons_append, List.nil_append, List.append_nil, List.getElem?_cons_zero, List.getElem?_cons_succ, List.set_cons_zero, List.set_cons_succ, List.getD_cons_zero, List.getD_cons_succ, List.filterMap_cons, List.filterMap_nil, List.all_cons, List.all_nil, Bool.and_true, Bool.true_and, Bool.not_true, Bool.not_false, Bool.not_eq_true, Bool.false_eq_true, Bool.and_self, if_true, if_false, true_and, and_true, ↓reduceIte, eqD, neD, sh_int, eqv_int, eqv_strs, sDraw, List.length_cons, List.length_nil, Nat.zero_add, Nat.reduceAdd, decide_true, eq_self]
    refine ⟨n, m, rfl, by omega, hn8', hm2.1, hm2.2, fun d hd => ?_⟩
    have few := hd.few
    show sSeq _ bl3 _ _
    simp only [tupI, Q.addF, Q.enOf, Q.tV, Q.tK, Q.t2, Q.t1, Q.tB, Q.cI, Q.cIp, Q.addI, Q.subI, Q.mulI, Q.fdivI, Q.modI, Q.powI, Q.ltI, Q.leI, Q.gtI, Q.geI, Q.negI, Q.vAnd, Q.vOr, Q.vNot, Q.qAnd, Q.qOr, Q.qNot, Q.qIf, Q.chI, Q.tTupQ, Q.dNil, Q.dCons, Q.tLstQ, Q.tFz, Q.tCA, Q.lenD, Q.tupD, Q.isD, Q.isInt, Q.isBool, Q.isTup, Q.isStr, Q.isLst, Q.tLenN, Q.tIxN, Q.setQ, Q.aNil, Q.aD, Q.aK, Q.tCallQ, Q.tCallKQ, Q.pick, Q.sNil, Q.sSeq, Q.sRet, Q.sRetN, Q.sExpr, Q.sIf, Q.sSet, Q.sSetL, Q.sAsg, Q.sFor, Q.sPar2, Q.sPar3, Q.pNil, Q.pD, Q.pO, Q.pDn, Q.gN, Q.gT, Q.gsNil, Q.gsCons, Q.iQ, Q.itD, Q.iEn, Q.itE, Q.rg1, Q.rg2, Q.oNone, Q.oSome, Q.tSlQ, Q.revD, Q.tOwnM, Q.appC, Q.popC, Q.extC, Q.ownL, Q.tRepL, Q.repC, Q.sSetIx, Q.ixOwn, Q.tLcQ, Q.noOwn, Q.rstQ, Q.wipeQ, Q.sDn, Q.sSetD, Q.tDgetN, Q.dOwn, Q.tTupRg, Q.sNever, Q.isB, Q.listD, Q.listC, Q.reprD, Q.Sl.isOwn, List.map_cons, List.map_nil, List.replicate_succ, List.replicate_zero, List.cons_append, List.nil_append, List.append_nil, List.getElem?_cons_zero, List.getElem?_cons_succ, List.set_cons_zero, List.set_cons_succ, List.getD_cons_zero, List.getD_cons_succ, List.filterMap_cons, List.filterMap_nil, List.all_cons, List.all_nil, Bool.and_true, Bool.true_and, Bool.not_true, Bool.not_false, Bool.not_eq_true, Bool.false_eq_true, Bool.and_self, if_true, if_false, true_and, and_true, ↓reduceIte, eqD, neD, sh_int, eqv_int, eqv_strs, sDraw, List.length_cons, List.length_nil, Nat.zero_add, Nat.reduceAdd, decide_true, eq_self, List.length_map]
    refine ⟨by omega, by omega, ?_⟩
    refine comp_any (fun _ y => ∃ o : List Int, y = tupI o ∧ Ord d.length o) (fun x hx Rk hk => ?_) fun outs ho => ?_
    · try simp only [Q.addF, Q.enOf, Q.tV, Q.tK, Q.t2, Q.t1, Q.tB, Q.cI, Q.cIp, Q.addI, Q.subI, Q.mulI, Q.fdivI, Q.modI, Q.powI, Q.ltI, Q.leI, Q.gtI, Q.geI, Q.negI, Q.vAnd, Q.vOr, Q.vNot, Q.qAnd, Q.qOr, Q.qNot, Q.qIf, Q.chI, Q.tTupQ, Q.dNil, Q.dCons, Q.tLstQ, Q.tFz, Q.tCA, Q.lenD, Q.tupD, Q.isD, Q.isInt, Q.isBool, Q.isTup, Q.isStr, Q.isLst, Q.tLenN, Q.tIxN, Q.setQ, Q.aNil, Q.aD, Q.aK, Q.tCallQ, Q.tCallKQ, Q.pick, Q.sNil, Q.sSeq, Q.sRet, Q.sRetN, Q.sExpr, Q.sIf, Q.sSet, Q.sSetL, Q.sAsg, Q.sFor, Q.sPar2, Q.sPar3, Q.pNil, Q.pD, Q.pO, Q.pDn, Q.gN, Q.gT, Q.gsNil, Q.gsCons, Q.iQ, Q.itD, Q.iEn, Q.itE, Q.rg1, Q.rg2, Q.oNone, Q.oSome, Q.tSlQ, Q.revD, Q.tOwnM, Q.appC, Q.popC, Q.extC, Q.ownL, Q.tRepL, Q.repC, Q.sSetIx, Q.ixOwn, Q.tLcQ, Q.noOwn, Q.rstQ, Q.wipeQ, Q.sDn, Q.sSetD, Q.tDgetN, Q.dOwn, Q.tTupRg, Q.sNever, Q.isB, Q.listD, Q.listC, Q.reprD, Q.Sl.isOwn, List.map_cons, List.map_nil, List.replicate_succ, List.replicate_zero, List.cons_append, List.nil_append, List.append_nil, List.getElem?_cons_zero, List.getElem?_cons_succ, List.set_cons_zero, List.set_cons_succ, List.getD_cons_zero, List.getD_cons_succ, List.filterMap_cons, List.filterMap_nil, List.all_cons, List.all_nil, Bool.and_true, Bool.true_and, Bool.not_true, Bool.not_false, Bool.not_eq_true, Bool.false_eq_true, Bool.and_self, if_true, if_false, true_and, and_true, ↓reduceIte, eqD, neD, sh_int, eqv_int, eqv_strs, sDraw, List.length_cons, List.length_nil, Nat.zero_add, Nat.reduceAdd, decide_true, eq_self, List.length_map]
      exact ⟨d.length, rfl, few, fun o ho => hk _ _ ⟨o, rfl, ho⟩ (by simp only [Q.addF, Q.enOf, Q.tV, Q.tK, Q.t2, Q.t1, Q.tB, Q.cI, Q.cIp, Q.addI, Q.subI, Q.mulI, Q.fdivI, Q.modI, Q.powI, Q.ltI, Q.leI, Q.gtI, Q.geI, Q.negI, Q.vAnd, Q.vOr, Q.vNot, Q.qAnd, Q.qOr, Q.qNot, Q.qIf, Q.chI, Q.tTupQ, Q.dNil, Q.dCons, Q.tLstQ, Q.tFz, Q.tCA, Q.lenD, Q.tupD, Q.isD, Q.isInt, Q.isBool, Q.isTup, Q.isStr, Q.isLst, Q.tLenN, Q.tIxN, Q.setQ, Q.aNil, Q.aD, Q.aK, Q.tCallQ, Q.tCallKQ, Q.pick, Q.sNil, Q.sSeq, Q.sRet, Q.sRetN, Q.sExpr, Q.sIf, Q.sSet, Q.sSetL, Q.sAsg, Q.sFor, Q.sPar2, Q.sPar3, Q.pNil, Q.pD, Q.pO, Q.pDn, Q.gN, Q.gT, Q.gsNil, Q.gsCons, Q.iQ, Q.itD, Q.iEn, Q.itE, Q.rg1, Q.rg2, Q.oNone, Q.oSome, Q.tSlQ, Q.revD, Q.tOwnM, Q.appC, Q.popC, Q.extC, Q.ownL, Q.tRepL, Q.repC, Q.sSetIx, Q.ixOwn, Q.tLcQ, Q.noOwn, Q.rstQ, Q.wipeQ, Q.sDn, Q.sSetD, Q.tDgetN, Q.dOwn, Q.tTupRg, Q.sNever, Q.isB, Q.listD, Q.listC, Q.reprD, Q.Sl.isOwn, List.map_cons, List.map_nil, List.replicate_succ, List.replicate_zero, List.cons_append, List.nil_append, List.append_nil, List.getElem?_cons_zero, List.getElem?_cons_succ, List.set_cons_zero, List.set_cons_succ, List.getD_cons_zero, List.getD_cons_succ, List.filterMap_cons, List.filterMap_nil, List.all_cons, List.all_nil, Bool.and_true, Bool.true_and, Bool.not_true, Bool.not_false, Bool.not_eq_true, Bool.false_eq_true, Bool.and_self, if_true, if_false, true_and, and_true, ↓reduceIte, eqD, neD, sh_int, eqv_int, eqv_strs, sDraw, List.length_cons, List.length_nil, Nat.zero_add, Nat.reduceAdd, decide_true, eq_self])⟩
    obtain ⟨a, b, c, rfl, ha, hb, hc⟩ : ∃ a b c : List Int, outs = [tupI a, tupI b, tupI c] ∧ Ord d.length a ∧ Ord d.length b ∧ Ord d.length c := by
      have e : rg 0 (3 : Int).toNat = [.int 0, .int 1, .int 2] := rfl
      rw [e] at ho
      cases ho with
      | cons h1 t =>
        cases t with
        | cons h2 t =>
          cases t with
          | cons h3 t =>
            cases t
            obtain ⟨a, rfl, ha⟩ := h1
            obtain ⟨b, rfl, hb⟩ := h2
            obtain ⟨c, rfl, hc⟩ := h3
            exact ⟨a, b, c, rfl, ha, hb, hc⟩
    try simp only [Q.addF, Q.enOf, Q.tV, Q.tK, Q.t2, Q.t1, Q.tB, Q.cI, Q.cIp, Q.addI, Q.subI, Q.mulI, Q.fdivI, Q.modI, Q.powI, Q.ltI, Q.leI, Q.gtI, Q.geI, Q.negI, Q.vAnd, Q.vOr, Q.vNot, Q.qAnd, Q.qOr, Q.qNot, Q.qIf, Q.chI, Q.tTupQ, Q.dNil, Q.dCons, Q.tLstQ, Q.tFz, Q.tCA, Q.lenD, Q.tupD, Q.isD, Q.isInt, Q.isBool, Q.isTup, Q.isStr, Q.isLst, Q.tLenN, Q.tIxN, Q.setQ, Q.aNil, Q.aD, Q.aK, Q.tCallQ, Q.tCallKQ, Q.pick, Q.sNil, Q.sSeq, Q.sRet, Q.sRetN, Q.sExpr, Q.sIf, Q.sSet, Q.sSetL, Q.sAsg, Q.sFor, Q.sPar2, Q.sPar3, Q.pNil, Q.pD, Q.pO, Q.pDn, Q.gN, Q.gT, Q.gsNil, Q.gsCons, Q.iQ, Q.itD, Q.iEn, Q.itE, Q.rg1, Q.rg2, Q.oNone, Q.oSome, Q.tSlQ, Q.revD, Q.tOwnM, Q.appC, Q.popC, Q.extC, Q.ownL, Q.tRepL, Q.repC, Q.sSetIx, Q.ixOwn, Q.tLcQ, Q.noOwn, Q.rstQ, Q.wipeQ, Q.sDn, Q.sSetD, Q.tDgetN, Q.dOwn, Q.tTupRg, Q.sNever, Q.isB, Q.listD, Q.listC, Q.reprD, Q.Sl.isOwn, List.map_cons, List.map_nil, List.replicate_succ, List.replicate_zero, List.cons_append, List.nil_append, List.append_nil, List.getElem?_cons_zero, List.getElem?_cons_succ, List.set_cons_zero, List.set_cons_succ, List.getD_cons_zero, List.getD_cons_succ, List.filterMap_cons, List.filterMap_nil, List.all_cons, List.all_nil, Bool.and_true, Bool.true_and, Bool.not_true, Bool.not_false, Bool.not_eq_true, Bool.false_eq_true, Bool.and_self, if_true, if_false, true_and, and_true, ↓reduceIte, eqD, neD, sh_int, eqv_int, eqv_strs, sDraw, List.length_cons, List.length_nil, Nat.zero_add, Nat.reduceAdd, decide_true, eq_self]
    show sSeq _ bl4 _ _
    simp only [Q.addF, Q.enOf, Q.tV, Q.tK, Q.t2, Q.t1, Q.tB, Q.cI, Q.cIp, Q.addI, Q.subI, Q.mulI, Q.fdivI, Q.modI, Q.powI, Q.ltI, Q.leI, Q.gtI, Q.geI, Q.negI, Q.vAnd, Q.vOr, Q.vNot, Q.qAnd, Q.qOr, Q.qNot, Q.qIf, Q.chI, Q.tTupQ, Q.dNil, Q.dCons, Q.tLstQ, Q.tFz, Q.tCA, Q.lenD, Q.tupD, Q.isD, Q.isInt, Q.isBool, Q.isTup, Q.isStr, Q.isLst, Q.tLenN, Q.tIxN, Q.setQ, Q.aNil, Q.aD, Q.aK, Q.tCallQ, Q.tCallKQ, Q.pick, Q.sNil, Q.sSeq, Q.sRet, Q.sRetN, Q.sExpr, Q.sIf, Q.sSet, Q.sSetL, Q.sAsg, Q.sFor, Q.sPar2, Q.sPar3, Q.pNil, Q.pD, Q.pO, Q.pDn, Q.gN, Q.gT, Q.gsNil, Q.gsCons, Q.iQ, Q.itD, Q.iEn, Q.itE, Q.rg1, Q.rg2, Q.oNone, Q.oSome, Q.tSlQ, Q.revD, Q.tOwnM, Q.appC, Q.popC, Q.extC, Q.ownL, Q.tRepL, Q.repC, Q.sSetIx, Q.ixOwn, Q.tLcQ, Q.noOwn, Q.rstQ, Q.wipeQ, Q.sDn, Q.sSetD, Q.tDgetN, Q.dOwn, Q.tTupRg, Q.sNever, Q.isB, Q.listD, Q.listC, Q.reprD, Q.Sl.isOwn, List.map_cons, List.map_nil, List.replicate_succ, List.replicate_zero, List.cons_append, List.nil_append, List.append_nil, List.getElem?_cons_zero, List.getElem?_cons_succ, List.set_cons_zero, List.set_cons_succ, List.getD_cons_zero, List.getD_cons_succ, List.filterMap_cons, List.filterMap_nil, List.all_cons, List.all_nil, Bool.and_true, Bool.true_and, Bool.not_true, Bool.not_false, Bool.not_eq_true, Bool.false_eq_true, Bool.and_self, if_true, if_false, true_and, and_true, ↓reduceIte, eqD, neD, sh_int, eqv_int, eqv_strs, sDraw, List.length_cons, List.length_nil, Nat.zero_add, Nat.reduceAdd, decide_true, eq_self, ixD]
    refine ⟨_, atI_nat (j := 0) rfl, ?_⟩
    try simp only [Q.addF, Q.enOf, Q.tV, Q.tK, Q.t2, Q.t1, Q.tB, Q.cI, Q.cIp, Q.addI, Q.subI, Q.mulI, Q.fdivI, Q.modI, Q.powI, Q.ltI, Q.leI, Q.gtI, Q.geI, Q.negI, Q.vAnd, Q.vOr, Q.vNot, Q.qAnd, Q.qOr, Q.qNot, Q.qIf, Q.chI, Q.tTupQ, Q.dNil, Q.dCons, Q.tLstQ, Q.tFz, Q.tCA, Q.lenD, Q.tupD, Q.isD, Q.isInt, Q.isBool, Q.isTup, Q.isStr, Q.isLst, Q.tLenN, Q.tIxN, Q.setQ, Q.aNil, Q.aD, Q.aK, Q.tCallQ, Q.tCallKQ, Q.pick, Q.sNil, Q.sSeq, Q.sRet, Q.sRetN, Q.sExpr, Q.sIf, Q.sSet, Q.sSetL, Q.sAsg, Q.sFor, Q.sPar2, Q.sPar3, Q.pNil, Q.pD, Q.pO, Q.pDn, Q.gN, Q.gT, Q.gsNil, Q.gsCons, Q.iQ, Q.itD, Q.iEn, Q.itE, Q.rg1, Q.rg2, Q.oNone, Q.oSome, Q.tSlQ, Q.revD, Q.tOwnM, Q.appC, Q.popC, Q.extC, Q.ownL, Q.tRepL, Q.repC, Q.sSetIx, Q.ixOwn, Q.tLcQ, Q.noOwn, Q.rstQ, Q.wipeQ, Q.sDn, Q.sSetD, Q.tDgetN, Q.dOwn, Q.tTupRg, Q.sNever, Q.isB, Q.listD, Q.listC, Q.reprD, Q.Sl.isOwn, List.map_cons, List.map_nil, List.replicate_succ, List.replicate_zero, List.cons_append, List.nil_append, List.append_nil, List.getElem?_cons_zero, List.getElem?_cons_succ, List.set_cons_zero, List.set_cons_succ, List.getD_cons_zero, List.getD_cons_succ, List.filterMap_cons, List.filterMap_nil, List.all_cons, List.all_nil, Bool.and_true, Bool.true_and, Bool.not_true, Bool.not_false, Bool.not_eq_true, Bool.false_eq_true, Bool.and_self, if_true, if_false, true_and, and_true, ↓reduceIte, eqD, neD, sh_int, eqv_int, eqv_strs, sDraw, List.length_cons, List.length_nil, Nat.zero_add, Nat.reduceAdd, decide_true, eq_self, ixD]
    refine ⟨_, atI_nat (j := 1) rfl, ?_⟩
    try simp only [Q.addF, Q.enOf, Q.tV, Q.tK, Q.t2, Q.t1, Q.tB, Q.cI, Q.cIp, Q.addI, Q.subI, Q.mulI, Q.fdivI, Q.modI, Q.powI, Q.ltI, Q.leI, Q.gtI, Q.geI, Q.negI, Q.vAnd, Q.vOr, Q.vNot, Q.qAnd, Q.qOr, Q.qNot, Q.qIf, Q.chI, Q.tTupQ, Q.dNil, Q.dCons, Q.tLstQ, Q.tFz, Q.tCA, Q.lenD, Q.tupD, Q.isD, Q.isInt, Q.isBool, Q.isTup, Q.isStr, Q.isLst, Q.tLenN, Q.tIxN, Q.setQ, Q.aNil, Q.aD, Q.aK, Q.tCallQ, Q.tCallKQ, Q.pick, Q.sNil, Q.sSeq, Q.sRet, Q.sRetN, Q.sExpr, Q.sIf, Q.sSet, Q.sSetL, Q.sAsg, Q.sFor, Q.sPar2, Q.sPar3, Q.pNil, Q.pD, Q.pO, Q.pDn, Q.gN, Q.gT, Q.gsNil, Q.gsCons, Q.iQ, Q.itD, Q.iEn, Q.itE, Q.rg1, Q.rg2, Q.oNone, Q.oSome, Q.tSlQ, Q.revD, Q.tOwnM, Q.appC, Q.popC, Q.extC, Q.ownL, Q.tRepL, Q.repC, Q.sSetIx, Q.ixOwn, Q.tLcQ, Q.noOwn, Q.rstQ, Q.wipeQ, Q.sDn, Q.sSetD, Q.tDgetN, Q.dOwn, Q.tTupRg, Q.sNever, Q.isB, Q.listD, Q.listC, Q.reprD, Q.Sl.isOwn, List.map_cons, List.map_nil, List.replicate_succ, List.replicate_zero, List.cons_append, List.nil_append, List.append_nil, List.getElem?_cons_zero, List.getElem?_cons_succ, List.set_cons_zero, List.set_cons_succ, List.getD_cons_zero, List.getD_cons_succ, List.filterMap_cons, List.filterMap_nil, List.all_cons, List.all_nil, Bool.and_true, Bool.true_and, Bool.not_true, Bool.not_false, Bool.not_eq_true, Bool.false_eq_true, Bool.and_self, if_true, if_false, true_and, and_true, ↓reduceIte, eqD, neD, sh_int, eqv_int, eqv_strs, sDraw, List.length_cons, List.length_nil, Nat.zero_add, Nat.reduceAdd, decide_true, eq_self, ixD]
    refine ⟨_, atI_nat (j := 2) rfl, ?_⟩
    try simp only [Q.addF, Q.enOf, Q.tV, Q.tK, Q.t2, Q.t1, Q.tB, Q.cI, Q.cIp, Q.addI, Q.subI, Q.mulI, Q.fdivI, Q.modI, Q.powI, Q.ltI, Q.leI, Q.gtI, Q.geI, Q.negI, Q.vAnd, Q.vOr, Q.vNot, Q.qAnd, Q.qOr, Q.qNot, Q.qIf, Q.chI, Q.tTupQ, Q.dNil, Q.dCons, Q.tLstQ, Q.tFz, Q.tCA, Q.lenD, Q.tupD, Q.isD, Q.isInt, Q.isBool, Q.isTup, Q.isStr, Q.isLst, Q.tLenN, Q.tIxN, Q.setQ, Q.aNil, Q.aD, Q.aK, Q.tCallQ, Q.tCallKQ, Q.pick, Q.sNil, Q.sSeq, Q.sRet, Q.sRetN, Q.sExpr, Q.sIf, Q.sSet, Q.sSetL, Q.sAsg, Q.sFor, Q.sPar2, Q.sPar3, Q.pNil, Q.pD, Q.pO, Q.pDn, Q.gN, Q.gT, Q.gsNil, Q.gsCons, Q.iQ, Q.itD, Q.iEn, Q.itE, Q.rg1, Q.rg2, Q.oNone, Q.oSome, Q.tSlQ, Q.revD, Q.tOwnM, Q.appC, Q.popC, Q.extC, Q.ownL, Q.tRepL, Q.repC, Q.sSetIx, Q.ixOwn, Q.tLcQ, Q.noOwn, Q.rstQ, Q.wipeQ, Q.sDn, Q.sSetD, Q.tDgetN, Q.dOwn, Q.tTupRg, Q.sNever, Q.isB, Q.listD, Q.listC, Q.reprD, Q.Sl.isOwn, List.map_cons, List.map_nil, List.replicate_succ, List.replicate_zero, List.cons_append, List.nil_append, List.append_nil, List.getElem?_cons_zero, List.getElem?_cons_succ, List.set_cons_zero, List.set_cons_succ, List.getD_cons_zero, List.getD_cons_succ, List.filterMap_cons, List.filterMap_nil, List.all_cons, List.all_nil, Bool.and_true, Bool.true_and, Bool.not_true, Bool.not_false, Bool.not_eq_true, Bool.false_eq_true, Bool.and_self, if_true, if_false, true_and, and_true, ↓reduceIte, eqD, neD, sh_int, eqv_int, eqv_strs, sDraw, List.length_cons, List.length_nil, Nat.zero_add, Nat.reduceAdd, decide_true, eq_self, ixD]
    refine ⟨d, a, b, c, rfl, deck8 hd hn8', ha, hb, hc, ?_⟩
    try simp only [Q.addF, Q.enOf, Q.tV, Q.tK, Q.t2, Q.t1, Q.tB, Q.cI, Q.cIp, Q.addI, Q.subI, Q.mulI, Q.fdivI, Q.modI, Q.powI, Q.ltI, Q.leI, Q.gtI, Q.geI, Q.negI, Q.vAnd, Q.vOr, Q.vNot, Q.qAnd, Q.qOr, Q.qNot, Q.qIf, Q.chI, Q.tTupQ, Q.dNil, Q.dCons, Q.tLstQ, Q.tFz, Q.tCA, Q.lenD, Q.tupD, Q.isD, Q.isInt, Q.isBool, Q.isTup, Q.isStr, Q.isLst, Q.tLenN, Q.tIxN, Q.setQ, Q.aNil, Q.aD, Q.aK, Q.tCallQ, Q.tCallKQ, Q.pick, Q.sNil, Q.sSeq, Q.sRet, Q.sRetN, Q.sExpr, Q.sIf, Q.sSet, Q.sSetL, Q.sAsg, Q.sFor, Q.sPar2, Q.sPar3, Q.pNil, Q.pD, Q.pO, Q.pDn, Q.gN, Q.gT, Q.gsNil, Q.gsCons, Q.iQ, Q.itD, Q.iEn, Q.itE, Q.rg1, Q.rg2, Q.oNone, Q.oSome, Q.tSlQ, Q.revD, Q.tOwnM, Q.appC, Q.popC, Q.extC, Q.ownL, Q.tRepL, Q.repC, Q.sSetIx, Q.ixOwn, Q.tLcQ, Q.noOwn, Q.rstQ, Q.wipeQ, Q.sDn, Q.sSetD, Q.tDgetN, Q.dOwn, Q.tTupRg, Q.sNever, Q.isB, Q.listD, Q.listC, Q.reprD, Q.Sl.isOwn, List.map_cons, List.map_nil, List.replicate_succ, List.replicate_zero, List.cons_append, List.nil_append, List.append_nil, List.getElem?_cons_zero, List.getElem?_cons_succ, List.set_cons_zero, List.set_cons_succ, List.getD_cons_zero, List.getD_cons_succ, List.filterMap_cons, List.filterMap_nil, List.all_cons, List.all_nil, Bool.and_true, Bool.true_and, Bool.not_true, Bool.not_false, Bool.not_eq_true, Bool.false_eq_true, Bool.and_self, if_true, if_false, true_and, and_true, ↓reduceIte, eqD, neD, sh_int, eqv_int, eqv_strs, sDraw, List.length_cons, List.length_nil, Nat.zero_add, Nat.reduceAdd, decide_true, eq_self]
    show sSeq _ bl5 _ _
    simp only [Q.addF, Q.enOf, Q.tV, Q.tK, Q.t2, Q.t1, Q.tB, Q.cI, Q.cIp, Q.addI, Q.subI, Q.mulI, Q.fdivI, Q.modI, Q.powI, Q.ltI, Q.leI, Q.gtI, Q.geI, Q.negI, Q.vAnd, Q.vOr, Q.vNot, Q.qAnd, Q.qOr, Q.qNot, Q.qIf, Q.chI, Q.tTupQ, Q.dNil, Q.dCons, Q.tLstQ, Q.tFz, Q.tCA, Q.lenD, Q.tupD, Q.isD, Q.isInt, Q.isBool, Q.isTup, Q.isStr, Q.isLst, Q.tLenN, Q.tIxN, Q.setQ, Q.aNil, Q.aD, Q.aK, Q.tCallQ, Q.tCallKQ, Q.pick, Q.sNil, Q.sSeq, Q.sRet, Q.sRetN, Q.sExpr, Q.sIf, Q.sSet, Q.sSetL, Q.sAsg, Q.sFor, Q.sPar2, Q.sPar3, Q.pNil, Q.pD, Q.pO, Q.pDn, Q.gN, Q.gT, Q.gsNil, Q.gsCons, Q.iQ, Q.itD, Q.iEn, Q.itE, Q.rg1, Q.rg2, Q.oNone, Q.oSome, Q.tSlQ, Q.revD, Q.tOwnM, Q.appC, Q.popC, Q.extC, Q.ownL, Q.tRepL, Q.repC, Q.sSetIx, Q.ixOwn, Q.tLcQ, Q.noOwn, Q.rstQ, Q.wipeQ, Q.sDn, Q.sSetD, Q.tDgetN, Q.dOwn, Q.tTupRg, Q.sNever, Q.isB, Q.listD, Q.listC, Q.reprD, Q.Sl.isOwn, List.map_cons, List.map_nil, List.replicate_succ, List.replicate_zero, List.cons_append, List.nil_append, List.append_nil, List.getElem?_cons_zero, List.getElem?_cons_succ, List.set_cons_zero, List.set_cons_succ, List.getD_cons_zero, List.getD_cons_succ, List.filterMap_cons, List.filterMap_nil, List.all_cons, List.all_nil, Bool.and_true, Bool.true_and, Bool.not_true, Bool.not_false, Bool.not_eq_true, Bool.false_eq_true, Bool.and_self, if_true, if_false, true_and, and_true, ↓reduceIte, eqD, neD, sh_int, eqv_int, eqv_strs, sDraw, List.length_cons, List.length_nil, Nat.zero_add, Nat.reduceAdd, decide_true, eq_self, rg_row, Int.toNat_natCast]
    refine ⟨by omega, by omega, ?_⟩
    refine comp_map (cntD d) (fun x hx Rk hk => ?_) ?_
    · obtain ⟨k, hk2, rfl⟩ := List.mem_map.mp hx
      simp only [Q.addF, Q.enOf, Q.tV, Q.tK, Q.t2, Q.t1, Q.tB, Q.cI, Q.cIp, Q.addI, Q.subI, Q.mulI, Q.fdivI, Q.modI, Q.powI, Q.ltI, Q.leI, Q.gtI, Q.geI, Q.negI, Q.vAnd, Q.vOr, Q.vNot, Q.qAnd, Q.qOr, Q.qNot, Q.qIf, Q.chI, Q.tTupQ, Q.dNil, Q.dCons, Q.tLstQ, Q.tFz, Q.tCA, Q.lenD, Q.tupD, Q.isD, Q.isInt, Q.isBool, Q.isTup, Q.isStr, Q.isLst, Q.tLenN, Q.tIxN, Q.setQ, Q.aNil, Q.aD, Q.aK, Q.tCallQ, Q.tCallKQ, Q.pick, Q.sNil, Q.sSeq, Q.sRet, Q.sRetN, Q.sExpr, Q.sIf, Q.sSet, Q.sSetL, Q.sAsg, Q.sFor, Q.sPar2, Q.sPar3, Q.pNil, Q.pD, Q.pO, Q.pDn, Q.gN, Q.gT, Q.gsNil, Q.gsCons, Q.iQ, Q.itD, Q.iEn, Q.itE, Q.rg1, Q.rg2, Q.oNone, Q.oSome, Q.tSlQ, Q.revD, Q.tOwnM, Q.appC, Q.popC, Q.extC, Q.ownL, Q.tRepL, Q.repC, Q.sSetIx, Q.ixOwn, Q.tLcQ, Q.noOwn, Q.rstQ, Q.wipeQ, Q.sDn, Q.sSetD, Q.tDgetN, Q.dOwn, Q.tTupRg, Q.sNever, Q.isB, Q.listD, Q.listC, Q.reprD, Q.Sl.isOwn, List.map_cons, List.map_nil, List.replicate_succ, List.replicate_zero, List.cons_append, List.nil_append, List.append_nil, List.getElem?_cons_zero, List.getElem?_cons_succ, List.set_cons_zero, List.set_cons_succ, List.getD_cons_zero, List.getD_cons_succ, List.filterMap_cons, List.filterMap_nil, List.all_cons, List.all_nil, Bool.and_true, Bool.true_and, Bool.not_true, Bool.not_false, Bool.not_eq_true, Bool.false_eq_true, Bool.and_self, if_true, if_false, true_and, and_true, ↓reduceIte, eqD, neD, sh_int, eqv_int, eqv_strs, sDraw, List.length_cons, List.length_nil, Nat.zero_add, Nat.reduceAdd, decide_true, eq_self]
      refine comp_if (isK k) (fun y => y) (fun y hy Rk Rf hk hf => ?_) ?_
      · obtain ⟨c, hc, rfl⟩ := List.mem_map.mp hy
        simp only [Q.addF, Q.enOf, Q.tV, Q.tK, Q.t2, Q.t1, Q.tB, Q.cI, Q.cIp, Q.addI, Q.subI, Q.mulI, Q.fdivI, Q.modI, Q.powI, Q.ltI, Q.leI, Q.gtI, Q.geI, Q.negI, Q.vAnd, Q.vOr, Q.vNot, Q.qAnd, Q.qOr, Q.qNot, Q.qIf, Q.chI, Q.tTupQ, Q.dNil, Q.dCons, Q.tLstQ, Q.tFz, Q.tCA, Q.lenD, Q.tupD, Q.isD, Q.isInt, Q.isBool, Q.isTup, Q.isStr, Q.isLst, Q.tLenN, Q.tIxN, Q.setQ, Q.aNil, Q.aD, Q.aK, Q.tCallQ, Q.tCallKQ, Q.pick, Q.sNil, Q.sSeq, Q.sRet, Q.sRetN, Q.sExpr, Q.sIf, Q.sSet, Q.sSetL, Q.sAsg, Q.sFor, Q.sPar2, Q.sPar3, Q.pNil, Q.pD, Q.pO, Q.pDn, Q.gN, Q.gT, Q.gsNil, Q.gsCons, Q.iQ, Q.itD, Q.iEn, Q.itE, Q.rg1, Q.rg2, Q.oNone, Q.oSome, Q.tSlQ, Q.revD, Q.tOwnM, Q.appC, Q.popC, Q.extC, Q.ownL, Q.tRepL, Q.repC, Q.sSetIx, Q.ixOwn, Q.tLcQ, Q.noOwn, Q.rstQ, Q.wipeQ, Q.sDn, Q.sSetD, Q.tDgetN, Q.dOwn, Q.tTupRg, Q.sNever, Q.isB, Q.listD, Q.listC, Q.reprD, Q.Sl.isOwn, List.map_cons, List.map_nil, List.replicate_succ, List.replicate_zero, List.cons_append, List.nil_append, List.append_nil, List.getElem?_cons_zero, List.getElem?_cons_succ, List.set_cons_zero, List.set_cons_succ, List.getD_cons_zero, List.getD_cons_succ, List.filterMap_cons, List.filterMap_nil, List.all_cons, List.all_nil, Bool.and_true, Bool.true_and, Bool.not_true, Bool.not_false, Bool.not_eq_true, Bool.false_eq_true, Bool.and_self, if_true, if_false, true_and, and_true, ↓reduceIte, eqD, neD, sh_int, eqv_int, eqv_strs, sDraw, List.length_cons, List.length_nil, Nat.zero_add, Nat.reduceAdd, decide_true, eq_self]
        cases e : decide (c = k) with
        | true => exact hk _ e (by simp only [Q.addF, Q.enOf, Q.tV, Q.tK, Q.t2, Q.t1, Q.tB, Q.cI, Q.cIp, Q.addI, Q.subI, Q.mulI, Q.fdivI, Q.modI, Q.powI, Q.ltI, Q.leI, Q.gtI, Q.geI, Q.negI, Q.vAnd, Q.vOr, Q.vNot, Q.qAnd, Q.qOr, Q.qNot, Q.qIf, Q.chI, Q.tTupQ, Q.dNil, Q.dCons, Q.tLstQ, Q.tFz, Q.tCA, Q.lenD, Q.tupD, Q.isD, Q.isInt, Q.isBool, Q.isTup, Q.isStr, Q.isLst, Q.tLenN, Q.tIxN, Q.setQ, Q.aNil, Q.aD, Q.aK, Q.tCallQ, Q.tCallKQ, Q.pick, Q.sNil, Q.sSeq, Q.sRet, Q.sRetN, Q.sExpr, Q.sIf, Q.sSet, Q.sSetL, Q.sAsg, Q.sFor, Q.sPar2, Q.sPar3, Q.pNil, Q.pD, Q.pO, Q.pDn, Q.gN, Q.gT, Q.gsNil, Q.gsCons, Q.iQ, Q.itD, Q.iEn, Q.itE, Q.rg1, Q.rg2, Q.oNone, Q.oSome, Q.tSlQ, Q.revD, Q.tOwnM, Q.appC, Q.popC, Q.extC, Q.ownL, Q.tRepL, Q.repC, Q.sSetIx, Q.ixOwn, Q.tLcQ, Q.noOwn, Q.rstQ, Q.wipeQ, Q.sDn, Q.sSetD, Q.tDgetN, Q.dOwn, Q.tTupRg, Q.sNever, Q.isB, Q.listD, Q.listC, Q.reprD, Q.Sl.isOwn, List.map_cons, List.map_nil, List.replicate_succ, List.replicate_zero, List.cons_append, List.nil_append, List.append_nil, List.getElem?_cons_zero, List.getElem?_cons_succ, List.set_cons_zero, List.set_cons_succ, List.getD_cons_zero, List.getD_cons_succ, List.filterMap_cons, List.filterMap_nil, List.all_cons, List.all_nil, Bool.and_true, Bool.true_and, Bool.not_true, Bool.not_false, Bool.not_eq_true, Bool.false_eq_true, Bool.and_self, if_true, if_false, true_and, and_true, ↓reduceIte, eqD, neD, sh_int, eqv_int, eqv_strs, sDraw, List.length_cons, List.length_nil, Nat.zero_add, Nat.reduceAdd, decide_true, eq_self])
        | false => exact hf _ e (by simp only [Q.addF, Q.enOf, Q.tV, Q.tK, Q.t2, Q.t1, Q.tB, Q.cI, Q.cIp, Q.addI, Q.subI, Q.mulI, Q.fdivI, Q.modI, Q.powI, Q.ltI, Q.leI, Q.gtI, Q.geI, Q.negI, Q.vAnd, Q.vOr, Q.vNot, Q.qAnd, Q.qOr, Q.qNot, Q.qIf, Q.chI, Q.tTupQ, Q.dNil, Q.dCons, Q.tLstQ, Q.tFz, Q.tCA, Q.lenD, Q.tupD, Q.isD, Q.isInt, Q.isBool, Q.isTup, Q.isStr, Q.isLst, Q.tLenN, Q.tIxN, Q.setQ, Q.aNil, Q.aD, Q.aK, Q.tCallQ, Q.tCallKQ, Q.pick, Q.sNil, Q.sSeq, Q.sRet, Q.sRetN, Q.sExpr, Q.sIf, Q.sSet, Q.sSetL, Q.sAsg, Q.sFor, Q.sPar2, Q.sPar3, Q.pNil, Q.pD, Q.pO, Q.pDn, Q.gN, Q.gT, Q.gsNil, Q.gsCons, Q.iQ, Q.itD, Q.iEn, Q.itE, Q.rg1, Q.rg2, Q.oNone, Q.oSome, Q.tSlQ, Q.revD, Q.tOwnM, Q.appC, Q.popC, Q.extC, Q.ownL, Q.tRepL, Q.repC, Q.sSetIx, Q.ixOwn, Q.tLcQ, Q.noOwn, Q.rstQ, Q.wipeQ, Q.sDn, Q.sSetD, Q.tDgetN, Q.dOwn, Q.tTupRg, Q.sNever, Q.isB, Q.listD, Q.listC, Q.reprD, Q.Sl.isOwn, List.map_cons, List.map_nil, List.replicate_succ, List.replicate_zero, List.cons_append, List.nil_append, List.append_nil, List.getElem?_cons_zero, List.getElem?_cons_succ, List.set_cons_zero, List.set_cons_succ, List.getD_cons_zero, List.getD_cons_succ, List.filterMap_cons, List.filterMap_nil, List.all_cons, List.all_nil, Bool.and_true, Bool.true_and, Bool.not_true, Bool.not_false, Bool.not_eq_true, Bool.false_eq_true, Bool.and_self, if_true, if_false, true_and, and_true, ↓reduceIte, eqD, neD, sh_int, eqv_int, eqv_strs, sDraw, List.length_cons, List.length_nil, Nat.zero_add, Nat.reduceAdd, decide_true, eq_self])
      · simp only [Q.addF, Q.enOf, Q.tV, Q.tK, Q.t2, Q.t1, Q.tB, Q.cI, Q.cIp, Q.addI, Q.subI, Q.mulI, Q.fdivI, Q.modI, Q.powI, Q.ltI, Q.leI, Q.gtI, Q.geI, Q.negI, Q.vAnd, Q.vOr, Q.vNot, Q.qAnd, Q.qOr, Q.qNot, Q.qIf, Q.chI, Q.tTupQ, Q.dNil, Q.dCons, Q.tLstQ, Q.tFz, Q.tCA, Q.lenD, Q.tupD, Q.isD, Q.isInt, Q.isBool, Q.isTup, Q.isStr, Q.isLst, Q.tLenN, Q.tIxN, Q.setQ, Q.aNil, Q.aD, Q.aK, Q.tCallQ, Q.tCallKQ, Q.pick, Q.sNil, Q.sSeq, Q.sRet, Q.sRetN, Q.sExpr, Q.sIf, Q.sSet, Q.sSetL, Q.sAsg, Q.sFor, Q.sPar2, Q.sPar3, Q.pNil, Q.pD, Q.pO, Q.pDn, Q.gN, Q.gT, Q.gsNil, Q.gsCons, Q.iQ, Q.itD, Q.iEn, Q.itE, Q.rg1, Q.rg2, Q.oNone, Q.oSome, Q.tSlQ, Q.revD, Q.tOwnM, Q.appC, Q.popC, Q.extC, Q.ownL, Q.tRepL, Q.repC, Q.sSetIx, Q.ixOwn, Q.tLcQ, Q.noOwn, Q.rstQ, Q.wipeQ, Q.sDn, Q.sSetD, Q.tDgetN, Q.dOwn, Q.tTupRg, Q.sNever, Q.isB, Q.listD, Q.listC, Q.reprD, Q.Sl.isOwn, List.map_cons, List.map_nil, List.replicate_succ, List.replicate_zero, List.cons_append, List.nil_append, List.append_nil, List.getElem?_cons_zero, List.getElem?_cons_succ, List.set_cons_zero, List.set_cons_succ, List.getD_cons_zero, List.getD_cons_succ, List.filterMap_cons, List.filterMap_nil, List.all_cons, List.all_nil, Bool.and_true, Bool.true_and, Bool.not_true, Bool.not_false, Bool.not_eq_true, Bool.false_eq_true, Bool.and_self, if_true, if_false, true_and, and_true, ↓reduceIte, eqD, neD, sh_int, eqv_int, eqv_strs, sDraw, List.length_cons, List.length_nil, Nat.zero_add, Nat.reduceAdd, decide_true, eq_self, List.length_map, filter_isK]
        exact hk _ (by simp only [Q.addF, Q.enOf, Q.tV, Q.tK, Q.t2, Q.t1, Q.tB, Q.cI, Q.cIp, Q.addI, Q.subI, Q.mulI, Q.fdivI, Q.modI, Q.powI, Q.ltI, Q.leI, Q.gtI, Q.geI, Q.negI, Q.vAnd, Q.vOr, Q.vNot, Q.qAnd, Q.qOr, Q.qNot, Q.qIf, Q.chI, Q.tTupQ, Q.dNil, Q.dCons, Q.tLstQ, Q.tFz, Q.tCA, Q.lenD, Q.tupD, Q.isD, Q.isInt, Q.isBool, Q.isTup, Q.isStr, Q.isLst, Q.tLenN, Q.tIxN, Q.setQ, Q.aNil, Q.aD, Q.aK, Q.tCallQ, Q.tCallKQ, Q.pick, Q.sNil, Q.sSeq, Q.sRet, Q.sRetN, Q.sExpr, Q.sIf, Q.sSet, Q.sSetL, Q.sAsg, Q.sFor, Q.sPar2, Q.sPar3, Q.pNil, Q.pD, Q.pO, Q.pDn, Q.gN, Q.gT, Q.gsNil, Q.gsCons, Q.iQ, Q.itD, Q.iEn, Q.itE, Q.rg1, Q.rg2, Q.oNone, Q.oSome, Q.tSlQ, Q.revD, Q.tOwnM, Q.appC, Q.popC, Q.extC, Q.ownL, Q.tRepL, Q.repC, Q.sSetIx, Q.ixOwn, Q.tLcQ, Q.noOwn, Q.rstQ, Q.wipeQ, Q.sDn, Q.sSetD, Q.tDgetN, Q.dOwn, Q.tTupRg, Q.sNever, Q.isB, Q.listD, Q.listC, Q.reprD, Q.Sl.isOwn, List.map_cons, List.map_nil, List.replicate_succ, List.replicate_zero, List.cons_append, List.nil_append, List.append_nil, List.getElem?_cons_zero, List.getElem?_cons_succ, List.set_cons_zero, List.set_cons_succ, List.getD_cons_zero, List.getD_cons_succ, List.filterMap_cons, List.filterMap_nil, List.all_cons, List.all_nil, Bool.and_true, Bool.true_and, Bool.not_true, Bool.not_false, Bool.not_eq_true, Bool.false_eq_true, Bool.and_self, if_true, if_false, true_and, and_true, ↓reduceIte, eqD, neD, sh_int, eqv_int, eqv_strs, sDraw, List.length_cons, List.length_nil, Nat.zero_add, Nat.reduceAdd, decide_true, eq_self])
    simp only [Q.addF, Q.enOf, Q.tV, Q.tK, Q.t2, Q.t1, Q.tB, Q.cI, Q.cIp, Q.addI, Q.subI, Q.mulI, Q.fdivI, Q.modI, Q.powI, Q.ltI, Q.leI, Q.gtI, Q.geI, Q.negI, Q.vAnd, Q.vOr, Q.vNot, Q.qAnd, Q.qOr, Q.qNot, Q.qIf, Q.chI, Q.tTupQ, Q.dNil, Q.dCons, Q.tLstQ, Q.tFz, Q.tCA, Q.lenD, Q.tupD, Q.isD, Q.isInt, Q.isBool, Q.isTup, Q.isStr, Q.isLst, Q.tLenN, Q.tIxN, Q.setQ, Q.aNil, Q.aD, Q.aK, Q.tCallQ, Q.tCallKQ, Q.pick, Q.sNil, Q.sSeq, Q.sRet, Q.sRetN, Q.sExpr, Q.sIf, Q.sSet, Q.sSetL, Q.sAsg, Q.sFor, Q.sPar2, Q.sPar3, Q.pNil, Q.pD, Q.pO, Q.pDn, Q.gN, Q.gT, Q.gsNil, Q.gsCons, Q.iQ, Q.itD, Q.iEn, Q.itE, Q.rg1, Q.rg2, Q.oNone, Q.oSome, Q.tSlQ, Q.revD, Q.tOwnM, Q.appC, Q.popC, Q.extC, Q.ownL, Q.tRepL, Q.repC, Q.sSetIx, Q.ixOwn, Q.tLcQ, Q.noOwn, Q.rstQ, Q.wipeQ, Q.sDn, Q.sSetD, Q.tDgetN, Q.dOwn, Q.tTupRg, Q.sNever, Q.isB, Q.listD, Q.listC, Q.reprD, Q.Sl.isOwn, List.map_cons, List.map_nil, List.replicate_succ, List.replicate_zero, List.cons_append, List.nil_append, List.append_nil, List.getElem?_cons_zero, List.getElem?_cons_succ, List.set_cons_zero, List.set_cons_succ, List.getD_cons_zero, List.getD_cons_succ, List.filterMap_cons, List.filterMap_nil, List.all_cons, List.all_nil, Bool.and_true, Bool.true_and, Bool.not_true, Bool.not_false, Bool.not_eq_true, Bool.false_eq_true, Bool.and_self, if_true, if_false, true_and, and_true, ↓reduceIte, eqD, neD, sh_int, eqv_int, eqv_strs, sDraw, List.length_cons, List.length_nil, Nat.zero_add, Nat.reduceAdd, decide_true, eq_self, List.map_map]
    have ed : (row n).map (cntD d ∘ PyData.int) = (countsL n d).map .int := by simp [countsL, cntD, Function.comp_def]
    rw [ed]
    show sSeq _ bl6 _ _
    simp only [Q.addF, Q.enOf, Q.tV, Q.tK, Q.t2, Q.t1, Q.tB, Q.cI, Q.cIp, Q.addI, Q.subI, Q.mulI, Q.fdivI, Q.modI, Q.powI, Q.ltI, Q.leI, Q.gtI, Q.geI, Q.negI, Q.vAnd, Q.vOr, Q.vNot, Q.qAnd, Q.qOr, Q.qNot, Q.qIf, Q.chI, Q.tTupQ, Q.dNil, Q.dCons, Q.tLstQ, Q.tFz, Q.tCA, Q.lenD, Q.tupD, Q.isD, Q.isInt, Q.isBool, Q.isTup, Q.isStr, Q.isLst, Q.tLenN, Q.tIxN, Q.setQ, Q.aNil, Q.aD, Q.aK, Q.tCallQ, Q.tCallKQ, Q.pick, Q.sNil, Q.sSeq, Q.sRet, Q.sRetN, Q.sExpr, Q.sIf, Q.sSet, Q.sSetL, Q.sAsg, Q.sFor, Q.sPar2, Q.sPar3, Q.pNil, Q.pD, Q.pO, Q.pDn, Q.gN, Q.gT, Q.gsNil, Q.gsCons, Q.iQ, Q.itD, Q.iEn, Q.itE, Q.rg1, Q.rg2, Q.oNone, Q.oSome, Q.tSlQ, Q.revD, Q.tOwnM, Q.appC, Q.popC, Q.extC, Q.ownL, Q.tRepL, Q.repC, Q.sSetIx, Q.ixOwn, Q.tLcQ, Q.noOwn, Q.rstQ, Q.wipeQ, Q.sDn, Q.sSetD, Q.tDgetN, Q.dOwn, Q.tTupRg, Q.sNever, Q.isB, Q.listD, Q.listC, Q.reprD, Q.Sl.isOwn, List.map_cons, List.map_nil, List.replicate_succ, List.replicate_zero, List.cons_append, List.nil_append, List.append_nil, List.getElem?_cons_zero, List.getElem?_cons_succ, List.set_cons_zero, List.set_cons_succ, List.getD_cons_zero, List.getD_cons_succ, List.filterMap_cons, List.filterMap_nil, List.all_cons, List.all_nil, Bool.and_true, Bool.true_and, Bool.not_true, Bool.not_false, Bool.not_eq_true, Bool.false_eq_true, Bool.and_self, if_true, if_false, true_and, and_true, ↓reduceIte, eqD, neD, sh_int, eqv_int, eqv_strs, sDraw, List.length_cons, List.length_nil, Nat.zero_add, Nat.reduceAdd, decide_true, eq_self]
    refine ⟨n, d, rfl, hn1, hn8, hd, ?_⟩
    try simp only [Q.addF, Q.enOf, Q.tV, Q.tK, Q.t2, Q.t1, Q.tB, Q.cI, Q.cIp, Q.addI, Q.subI, Q.mulI, Q.fdivI, Q.modI, Q.powI, Q.ltI, Q.leI, Q.gtI, Q.geI, Q.negI, Q.vAnd, Q.vOr, Q.vNot, Q.qAnd, Q.qOr, Q.qNot, Q.qIf, Q.chI, Q.tTupQ, Q.dNil, Q.dCons, Q.tLstQ, Q.tFz, Q.tCA, Q.lenD, Q.tupD, Q.isD, Q.isInt, Q.isBool, Q.isTup, Q.isStr, Q.isLst, Q.tLenN, Q.tIxN, Q.setQ, Q.aNil, Q.aD, Q.aK, Q.tCallQ, Q.tCallKQ, Q.pick, Q.sNil, Q.sSeq, Q.sRet, Q.sRetN, Q.sExpr, Q.sIf, Q.sSet, Q.sSetL, Q.sAsg, Q.sFor, Q.sPar2, Q.sPar3, Q.pNil, Q.pD, Q.pO, Q.pDn, Q.gN, Q.gT, Q.gsNil, Q.gsCons, Q.iQ, Q.itD, Q.iEn, Q.itE, Q.rg1, Q.rg2, Q.oNone, Q.oSome, Q.tSlQ, Q.revD, Q.tOwnM, Q.appC, Q.popC, Q.extC, Q.ownL, Q.tRepL, Q.repC, Q.sSetIx, Q.ixOwn, Q.tLcQ, Q.noOwn, Q.rstQ, Q.wipeQ, Q.sDn, Q.sSetD, Q.tDgetN, Q.dOwn, Q.tTupRg, Q.sNever, Q.isB, Q.listD, Q.listC, Q.reprD, Q.Sl.isOwn, List.map_cons, List.map_nil, List.replicate_succ, List.replicate_zero, List.cons_append, List.nil_append, List.append_nil, List.getElem?_cons_zero, List.getElem?_cons_succ, List.set_cons_zero, List.set_cons_succ, List.getD_cons_zero, List.getD_cons_succ, List.filterMap_cons, List.filterMap_nil, List.all_cons, List.all_nil, Bool.and_true, Bool.true_and, Bool.not_true, Bool.not_false, Bool.not_eq_true, Bool.false_eq_true, Bool.and_self, if_true, if_false, true_and, and_true, ↓reduceIte, eqD, neD, sh_int, eqv_int, eqv_strs, sDraw, List.length_cons, List.length_nil, Nat.zero_add, Nat.reduceAdd, decide_true, eq_self]
    refine ⟨n, d, rfl, hn1, hn8, hd, ?_⟩
    have q1 := tn2 (tnC hn8 few) (tnC hn8 few)
    refine ⟨by decide, tr2 q1, by decide, tr2 q1, q1.text, q1.text, ?_⟩
    try simp only [Q.addF, Q.enOf, Q.tV, Q.tK, Q.t2, Q.t1, Q.tB, Q.cI, Q.cIp, Q.addI, Q.subI, Q.mulI, Q.fdivI, Q.modI, Q.powI, Q.ltI, Q.leI, Q.gtI, Q.geI, Q.negI, Q.vAnd, Q.vOr, Q.vNot, Q.qAnd, Q.qOr, Q.qNot, Q.qIf, Q.chI, Q.tTupQ, Q.dNil, Q.dCons, Q.tLstQ, Q.tFz, Q.tCA, Q.lenD, Q.tupD, Q.isD, Q.isInt, Q.isBool, Q.isTup, Q.isStr, Q.isLst, Q.tLenN, Q.tIxN, Q.setQ, Q.aNil, Q.aD, Q.aK, Q.tCallQ, Q.tCallKQ, Q.pick, Q.sNil, Q.sSeq, Q.sRet, Q.sRetN, Q.sExpr, Q.sIf, Q.sSet, Q.sSetL, Q.sAsg, Q.sFor, Q.sPar2, Q.sPar3, Q.pNil, Q.pD, Q.pO, Q.pDn, Q.gN, Q.gT, Q.gsNil, Q.gsCons, Q.iQ, Q.itD, Q.iEn, Q.itE, Q.rg1, Q.rg2, Q.oNone, Q.oSome, Q.tSlQ, Q.revD, Q.tOwnM, Q.appC, Q.popC, Q.extC, Q.ownL, Q.tRepL, Q.repC, Q.sSetIx, Q.ixOwn, Q.tLcQ, Q.noOwn, Q.rstQ, Q.wipeQ, Q.sDn, Q.sSetD, Q.tDgetN, Q.dOwn, Q.tTupRg, Q.sNever, Q.isB, Q.listD, Q.listC, Q.reprD, Q.Sl.isOwn, List.map_cons, List.map_nil, List.replicate_succ, List.replicate_zero, List.cons_append, List.nil_append, List.append_nil, List.getElem?_cons_zero, List.getElem?_cons_succ, List.set_cons_zero, List.set_cons_succ, List.getD_cons_zero, List.getD_cons_succ, List.filterMap_cons, List.filterMap_nil, List.all_cons, List.all_nil, Bool.and_true, Bool.true_and, Bool.not_true, Bool.not_false, Bool.not_eq_true, Bool.false_eq_true, Bool.and_self, if_true, if_false, true_and, and_true, ↓reduceIte, eqD, neD, sh_int, eqv_int, eqv_strs, sDraw, List.length_cons, List.length_nil, Nat.zero_add, Nat.reduceAdd, decide_true, eq_self]
    simp only [bl6, Q.addF, Q.enOf, Q.tV, Q.tK, Q.t2, Q.t1, Q.tB, Q.cI, Q.cIp, Q.addI, Q.subI, Q.mulI, Q.fdivI, Q.modI, Q.powI, Q.ltI, Q.leI, Q.gtI, Q.geI, Q.negI, Q.vAnd, Q.vOr, Q.vNot, Q.qAnd, Q.qOr, Q.qNot, Q.qIf, Q.chI, Q.tTupQ, Q.dNil, Q.dCons, Q.tLstQ, Q.tFz, Q.tCA, Q.lenD, Q.tupD, Q.isD, Q.isInt, Q.isBool, Q.isTup, Q.isStr, Q.isLst, Q.tLenN, Q.tIxN, Q.setQ, Q.aNil, Q.aD, Q.aK, Q.tCallQ, Q.tCallKQ, Q.pick, Q.sNil, Q.sSeq, Q.sRet, Q.sRetN, Q.sExpr, Q.sIf, Q.sSet, Q.sSetL, Q.sAsg, Q.sFor, Q.sPar2, Q.sPar3, Q.pNil, Q.pD, Q.pO, Q.pDn, Q.gN, Q.gT, Q.gsNil, Q.gsCons, Q.iQ, Q.itD, Q.iEn, Q.itE, Q.rg1, Q.rg2, Q.oNone, Q.oSome, Q.tSlQ, Q.revD, Q.tOwnM, Q.appC, Q.popC, Q.extC, Q.ownL, Q.tRepL, Q.repC, Q.sSetIx, Q.ixOwn, Q.tLcQ, Q.noOwn, Q.rstQ, Q.wipeQ, Q.sDn, Q.sSetD, Q.tDgetN, Q.dOwn, Q.tTupRg, Q.sNever, Q.isB, Q.listD, Q.listC, Q.reprD, Q.Sl.isOwn, List.map_cons, List.map_nil, List.replicate_succ, List.replicate_zero, List.cons_append, List.nil_append, List.append_nil, List.getElem?_cons_zero, List.getElem?_cons_succ, List.set_cons_zero, List.set_cons_succ, List.getD_cons_zero, List.getD_cons_succ, List.filterMap_cons, List.filterMap_nil, List.all_cons, List.all_nil, Bool.and_true, Bool.true_and, Bool.not_true, Bool.not_false, Bool.not_eq_true, Bool.false_eq_true, Bool.and_self, if_true, if_false, true_and, and_true, ↓reduceIte, eqD, neD, sh_int, eqv_int, eqv_strs, sDraw, List.length_cons, List.length_nil, Nat.zero_add, Nat.reduceAdd, decide_true, eq_self]
    refine ⟨n, rfl, hn1, hn8, fun t1 ht1 hl1 => ?_⟩
    try simp only [Q.addF, Q.enOf, Q.tV, Q.tK, Q.t2, Q.t1, Q.tB, Q.cI, Q.cIp, Q.addI, Q.subI, Q.mulI, Q.fdivI, Q.modI, Q.powI, Q.ltI, Q.leI, Q.gtI, Q.geI, Q.negI, Q.vAnd, Q.vOr, Q.vNot, Q.qAnd, Q.qOr, Q.qNot, Q.qIf, Q.chI, Q.tTupQ, Q.dNil, Q.dCons, Q.tLstQ, Q.tFz, Q.tCA, Q.lenD, Q.tupD, Q.isD, Q.isInt, Q.isBool, Q.isTup, Q.isStr, Q.isLst, Q.tLenN, Q.tIxN, Q.setQ, Q.aNil, Q.aD, Q.aK, Q.tCallQ, Q.tCallKQ, Q.pick, Q.sNil, Q.sSeq, Q.sRet, Q.sRetN, Q.sExpr, Q.sIf, Q.sSet, Q.sSetL, Q.sAsg, Q.sFor, Q.sPar2, Q.sPar3, Q.pNil, Q.pD, Q.pO, Q.pDn, Q.gN, Q.gT, Q.gsNil, Q.gsCons, Q.iQ, Q.itD, Q.iEn, Q.itE, Q.rg1, Q.rg2, Q.oNone, Q.oSome, Q.tSlQ, Q.revD, Q.tOwnM, Q.appC, Q.popC, Q.extC, Q.ownL, Q.tRepL, Q.repC, Q.sSetIx, Q.ixOwn, Q.tLcQ, Q.noOwn, Q.rstQ, Q.wipeQ, Q.sDn, Q.sSetD, Q.tDgetN, Q.dOwn, Q.tTupRg, Q.sNever, Q.isB, Q.listD, Q.listC, Q.reprD, Q.Sl.isOwn, List.map_cons, List.map_nil, List.replicate_succ, List.replicate_zero, List.cons_append, List.nil_append, List.append_nil, List.getElem?_cons_zero, List.getElem?_cons_succ, List.set_cons_zero, List.set_cons_succ, List.getD_cons_zero, List.getD_cons_succ, List.filterMap_cons, List.filterMap_nil, List.all_cons, List.all_nil, Bool.and_true, Bool.true_and, Bool.not_true, Bool.not_false, Bool.not_eq_true, Bool.false_eq_true, Bool.and_self, if_true, if_false, true_and, and_true, ↓reduceIte, eqD, neD, sh_int, eqv_int, eqv_strs, sDraw, List.length_cons, List.length_nil, Nat.zero_add, Nat.reduceAdd, decide_true, eq_self]
    refine ⟨n, rfl, hn1, hn8, fun t2 ht2 hl2 => ?_⟩
    try simp only [Q.addF, Q.enOf, Q.tV, Q.tK, Q.t2, Q.t1, Q.tB, Q.cI, Q.cIp, Q.addI, Q.subI, Q.mulI, Q.fdivI, Q.modI, Q.powI, Q.ltI, Q.leI, Q.gtI, Q.geI, Q.negI, Q.vAnd, Q.vOr, Q.vNot, Q.qAnd, Q.qOr, Q.qNot, Q.qIf, Q.chI, Q.tTupQ, Q.dNil, Q.dCons, Q.tLstQ, Q.tFz, Q.tCA, Q.lenD, Q.tupD, Q.isD, Q.isInt, Q.isBool, Q.isTup, Q.isStr, Q.isLst, Q.tLenN, Q.tIxN, Q.setQ, Q.aNil, Q.aD, Q.aK, Q.tCallQ, Q.tCallKQ, Q.pick, Q.sNil, Q.sSeq, Q.sRet, Q.sRetN, Q.sExpr, Q.sIf, Q.sSet, Q.sSetL, Q.sAsg, Q.sFor, Q.sPar2, Q.sPar3, Q.pNil, Q.pD, Q.pO, Q.pDn, Q.gN, Q.gT, Q.gsNil, Q.gsCons, Q.iQ, Q.itD, Q.iEn, Q.itE, Q.rg1, Q.rg2, Q.oNone, Q.oSome, Q.tSlQ, Q.revD, Q.tOwnM, Q.appC, Q.popC, Q.extC, Q.ownL, Q.tRepL, Q.repC, Q.sSetIx, Q.ixOwn, Q.tLcQ, Q.noOwn, Q.rstQ, Q.wipeQ, Q.sDn, Q.sSetD, Q.tDgetN, Q.dOwn, Q.tTupRg, Q.sNever, Q.isB, Q.listD, Q.listC, Q.reprD, Q.Sl.isOwn, List.map_cons, List.map_nil, List.replicate_succ, List.replicate_zero, List.cons_append, List.nil_append, List.append_nil, List.getElem?_cons_zero, List.getElem?_cons_succ, List.set_cons_zero, List.set_cons_succ, List.getD_cons_zero, List.getD_cons_succ, List.filterMap_cons, List.filterMap_nil, List.all_cons, List.all_nil, Bool.and_true, Bool.true_and, Bool.not_true, Bool.not_false, Bool.not_eq_true, Bool.false_eq_true, Bool.and_self, if_true, if_false, true_and, and_true, ↓reduceIte, eqD, neD, sh_int, eqv_int, eqv_strs, sDraw, List.length_cons, List.length_nil, Nat.zero_add, Nat.reduceAdd, decide_true, eq_self]
    refine ⟨n, d, t1, t2, rfl, hn1, hn8, hd, ht1, hl1, ht2, hl2, ?_⟩
    try simp only [Q.addF, Q.enOf, Q.tV, Q.tK, Q.t2, Q.t1, Q.tB, Q.cI, Q.cIp, Q.addI, Q.subI, Q.mulI, Q.fdivI, Q.modI, Q.powI, Q.ltI, Q.leI, Q.gtI, Q.geI, Q.negI, Q.vAnd, Q.vOr, Q.vNot, Q.qAnd, Q.qOr, Q.qNot, Q.qIf, Q.chI, Q.tTupQ, Q.dNil, Q.dCons, Q.tLstQ, Q.tFz, Q.tCA, Q.lenD, Q.tupD, Q.isD, Q.isInt, Q.isBool, Q.isTup, Q.isStr, Q.isLst, Q.tLenN, Q.tIxN, Q.setQ, Q.aNil, Q.aD, Q.aK, Q.tCallQ, Q.tCallKQ, Q.pick, Q.sNil, Q.sSeq, Q.sRet, Q.sRetN, Q.sExpr, Q.sIf, Q.sSet, Q.sSetL, Q.sAsg, Q.sFor, Q.sPar2, Q.sPar3, Q.pNil, Q.pD, Q.pO, Q.pDn, Q.gN, Q.gT, Q.gsNil, Q.gsCons, Q.iQ, Q.itD, Q.iEn, Q.itE, Q.rg1, Q.rg2, Q.oNone, Q.oSome, Q.tSlQ, Q.revD, Q.tOwnM, Q.appC, Q.popC, Q.extC, Q.ownL, Q.tRepL, Q.repC, Q.sSetIx, Q.ixOwn, Q.tLcQ, Q.noOwn, Q.rstQ, Q.wipeQ, Q.sDn, Q.sSetD, Q.tDgetN, Q.dOwn, Q.tTupRg, Q.sNever, Q.isB, Q.listD, Q.listC, Q.reprD, Q.Sl.isOwn, List.map_cons, List.map_nil, List.replicate_succ, List.replicate_zero, List.cons_append, List.nil_append, List.append_nil, List.getElem?_cons_zero, List.getElem?_cons_succ, List.set_cons_zero, List.set_cons_succ, List.getD_cons_zero, List.getD_cons_succ, List.filterMap_cons, List.filterMap_nil, List.all_cons, List.all_nil, Bool.and_true, Bool.true_and, Bool.not_true, Bool.not_false, Bool.not_eq_true, Bool.false_eq_true, Bool.and_self, if_true, if_false, true_and, and_true, ↓reduceIte, eqD, neD, sh_int, eqv_int, eqv_strs, sDraw, List.length_cons, List.length_nil, Nat.zero_add, Nat.reduceAdd, decide_true, eq_self]
    exact loop_law R ds _ _ _ _ _ h
theorem rd_law : t_law sDraw sp__law_cards sp__law_pick sp__law_order sp__law_are_orders_right sp_counts_of sp__law_are_throws_right sp__law_throw { nx := fun _ => False, rt := fun y => y = .bool true } (.un :: .dk :: List.replicate 8 .un) := by
  show (sSeq (sFor (rg1 (tK (.int 3))) (gN 2) body_law) _) _ _
  simp only [Q.addF, Q.enOf, Q.tV, Q.tK, Q.t2, Q.t1, Q.tB, Q.cI, Q.cIp, Q.addI, Q.subI, Q.mulI, Q.fdivI, Q.modI, Q.powI, Q.ltI, Q.leI, Q.gtI, Q.geI, Q.negI, Q.vAnd, Q.vOr, Q.vNot, Q.qAnd, Q.qOr, Q.qNot, Q.qIf, Q.chI, Q.tTupQ, Q.dNil, Q.dCons, Q.tLstQ, Q.tFz, Q.tCA, Q.lenD, Q.tupD, Q.isD, Q.isInt, Q.isBool, Q.isTup, Q.isStr, Q.isLst, Q.tLenN, Q.tIxN, Q.setQ, Q.aNil, Q.aD, Q.aK, Q.tCallQ, Q.tCallKQ, Q.pick, Q.sNil, Q.sSeq, Q.sRet, Q.sRetN, Q.sExpr, Q.sIf, Q.sSet, Q.sSetL, Q.sAsg, Q.sFor, Q.sPar2, Q.sPar3, Q.pNil, Q.pD, Q.pO, Q.pDn, Q.gN, Q.gT, Q.gsNil, Q.gsCons, Q.iQ, Q.itD, Q.iEn, Q.itE, Q.rg1, Q.rg2, Q.oNone, Q.oSome, Q.tSlQ, Q.revD, Q.tOwnM, Q.appC, Q.popC, Q.extC, Q.ownL, Q.tRepL, Q.repC, Q.sSetIx, Q.ixOwn, Q.tLcQ, Q.noOwn, Q.rstQ, Q.wipeQ, Q.sDn, Q.sSetD, Q.tDgetN, Q.dOwn, Q.tTupRg, Q.sNever, Q.isB, Q.listD, Q.listC, Q.reprD, Q.Sl.isOwn, List.map_cons, List.map_nil, List.replicate_succ, List.replicate_zero, List.cons_append, List.nil_append, List.append_nil, List.getElem?_cons_zero, List.getElem?_cons_succ, List.set_cons_zero, List.set_cons_succ, List.getD_cons_zero, List.getD_cons_succ, List.filterMap_cons, List.filterMap_nil, List.all_cons, List.all_nil, Bool.and_true, Bool.true_and, Bool.not_true, Bool.not_false, Bool.not_eq_true, Bool.false_eq_true, Bool.and_self, if_true, if_false, true_and, and_true, ↓reduceIte, eqD, neD, sh_int, eqv_int, eqv_strs, sDraw, List.length_cons, List.length_nil, Nat.zero_add, Nat.reduceAdd, decide_true, eq_self]
  refine ⟨by decide, by decide, ?_⟩
  exact loop_law _ _ .un .un .un .un .un fun s2 s3 s4 s5 s6 => by show PyData.bool true = PyData.bool true; rfl
end T01
end P26
section P27
open PySem PySem.Spec PyProof.Rows L2 HT Q
namespace T01
section
variable {P : Program} {w : World} {K : PySem.W.Frag} {mg : Str → Option Value} {base : Heap}
theorem dv_law (T : Txt K mg) {f__law_deck : Addr} {fd__law_deck : FuncData} (A__law_deck : At K mg "_law_deck" ["_law_script"] (top 40) f__law_deck fd__law_deck) (G__law_deck : FnOk P w K mg base CX0 1 f__law_deck fd__law_deck ["_law_script"] (spDeck K))
    {f__law_draw : Addr} {fd__law_draw : FuncData} {S__law_draw : PSpec} (A__law_draw : At K mg "_law_draw" ["_law_deck_here", "_law_many"] (top 41) f__law_draw fd__law_draw) (G__law_draw : FnG P w K mg base 1 f__law_draw fd__law_draw ["_law_deck_here", "_law_many"] S__law_draw)
    {f__law_cards : Addr} {fd__law_cards : FuncData} {S__law_cards : PSpec} (A__law_cards : At K mg "_law_cards" ["_law_deck_here", "_law_size", "_law_most"] (top 43) f__law_cards fd__law_cards) (G__law_cards : FnG P w K mg base 2 f__law_cards fd__law_cards ["_law_deck_here", "_law_size", "_law_most"] S__law_cards)
    {f__law_pick : Addr} {fd__law_pick : FuncData} {S__law_pick : PSpec} (A__law_pick : At K mg "_law_pick" ["_law_deck_here", "_law_some"] (top 42) f__law_pick fd__law_pick) (G__law_pick : FnG P w K mg base 2 f__law_pick fd__law_pick ["_law_deck_here", "_law_some"] S__law_pick)
    {f__law_order : Addr} {fd__law_order : FuncData} {S__law_order : PSpec} (A__law_order : At K mg "_law_order" ["_law_deck_here", "_law_n"] (top 44) f__law_order fd__law_order) (G__law_order : FnG P w K mg base 2 f__law_order fd__law_order ["_law_deck_here", "_law_n"] S__law_order)
    {f__law_are_orders_right : Addr} {fd__law_are_orders_right : FuncData} {S__law_are_orders_right : PSpec} (A__law_are_orders_right : At K mg "_law_are_orders_right" ["_law_cards_here", "_law_one", "_law_other", "_law_third"] (top 50) f__law_are_orders_right fd__law_are_orders_right) (G__law_are_orders_right : FnG P w K mg base 7 f__law_are_orders_right fd__law_are_orders_right ["_law_cards_here", "_law_one", "_law_other", "_law_third"] S__law_are_orders_right)
    {f_counts_of : Addr} {fd_counts_of : FuncData} {S_counts_of : PSpec} (A_counts_of : At K mg "counts_of" ["size", "deck"] (top 33) f_counts_of fd_counts_of) (G_counts_of : FnG P w K mg base 6 f_counts_of fd_counts_of ["size", "deck"] S_counts_of)
    {f__law_are_throws_right : Addr} {fd__law_are_throws_right : FuncData} {S__law_are_throws_right : PSpec} (A__law_are_throws_right : At K mg "_law_are_throws_right" ["_law_size", "_law_cards_here", "_law_throw_here", "_law_other"] (top 51) f__law_are_throws_right fd__law_are_throws_right) (G__law_are_throws_right : FnG P w K mg base 8 f__law_are_throws_right fd__law_are_throws_right ["_law_size", "_law_cards_here", "_law_throw_here", "_law_other"] S__law_are_throws_right)
    {f__law_throw : Addr} {fd__law_throw : FuncData} {S__law_throw : PSpec} (A__law_throw : At K mg "_law_throw" ["_law_deck_here", "_law_size"] (top 45) f__law_throw fd__law_throw) (G__law_throw : FnG P w K mg base 3 f__law_throw fd__law_throw ["_law_deck_here", "_law_size"] S__law_throw)
    {f : Addr} {fd : FuncData} (F : Fun K "law" "law" (top 52) f fd)
    (hread : (t_law S__law_draw S__law_cards S__law_pick S__law_order S__law_are_orders_right S_counts_of S__law_are_throws_right S__law_throw) { nx := fun _ => False, rt := fun y => y = .bool true } (.un :: .dk :: List.replicate 8 .un)) : LawOk P w K mg base 9 f fd "_law_script" :=
  LawOk.of F sc_law (t := t_law S__law_draw S__law_cards S__law_pick S__law_order S__law_are_orders_right S_counts_of S__law_are_throws_right S__law_throw) rfl rfl (fun cdv A outer s H hG hr => ps_set (i := 1) sc_law.nd rfl (Or.inr rfl) (pe_call G__law_deck (hr.mono (by decide)) (by rfl) A__law_deck.m A__law_deck.F.kp A__law_deck.b .nil pass0 (pa_cons (pv 0) pa_nil))) (fun cdv A outer s H hG hr => by
    have hu := hr.units
    exact (qss_cons (qs_for PassesOwn.never rfl (qi_range1 (by rfl) T.b_range q_int) (qg_name 2 sc_law.nd) (qss_cons (qs_set 3 sc_law.nd (q_addF q_int (q_call G__law_draw hG (hr.mono (by decide)) (by rfl) A__law_draw.m A__law_draw.F.kp A__law_draw.b (qa_k 1 (qa_d q_int qa_nil)))))
      (qss_cons (qs_set 4 sc_law.nd (q_call G__law_cards hG (hr.mono (by decide)) (by rfl) A__law_cards.m A__law_cards.F.kp A__law_cards.b (qa_k 1 (qa_d (qv 3) (qa_d (q_call G__law_pick hG (hr.mono (by decide)) (by rfl) A__law_pick.m A__law_pick.F.kp A__law_pick.b (qa_k 1 (qa_d (q_tup (qd_cons q_int (qd_cons q_int (qd_cons q_int (qd_cons q_int (qd_cons q_int qd_nil)))))) qa_nil))) qa_nil)))))
      (qss_cons (qs_setLc 5 (own := [("_law_more", 7)]) rfl sc_law.nd rfl (sw_true rfl rfl rfl (by decide +kernel)) (qi_range1 (by rfl) T.b_range q_int) (blkOk_by (own := [("_law_more", 7)]) (N := N_law) (sc := defScope (top 52)) (by decide +kernel)) (fun _ _ _ _ _ => (qg_name 7 sc_law.nd)) (by decide) (fun _ _ _ _ _ => qts_nil) (fun _ _ _ _ _ => (q_call G__law_order hG (hr.mono (by decide)) (by rfl) A__law_order.m A__law_order.F.kp A__law_order.b (qa_k 1 (qa_d (q_lenN 4 (by rfl) T.b_len) qa_nil)))))
      (qss_cons (qs_if (qt_not (q_tst (q_call G__law_are_orders_right hG (hr.mono (by decide)) (by rfl) A__law_are_orders_right.m A__law_are_orders_right.F.kp A__law_are_orders_right.b (qa_d (qv 4) (qa_d (q_ixN 5 q_int) (qa_d (q_ixN 5 q_int) (qa_d (q_ixN 5 q_int) qa_nil))))))) (qss_one (qs_ret q_bl)) qss_nil)
      (qss_cons (qs_set 6 sc_law.nd (q_tuple (by rfl) T.b_tuple (q_frz (ql_lc (own := [("_law_kind", 8)]) rfl sc_law.nd (qi_range1 (by rfl) T.b_range (qv 3)) (blkOk_by (own := [("_law_kind", 8)]) (N := N_law) (sc := defScope (top 52)) (by decide +kernel)) (fun _ _ _ _ _ => (qg_name 8 sc_law.nd)) (by decide) (fun _ _ _ _ _ => qts_nil) (fun _ _ _ _ _ => (q_len (by rfl) T.b_len (q_frz (ql_lc (own := [("_law_it", 9)]) rfl sc_law.nd (qi_e (qv 4)) (blkIn (own := [("_law_it", 9)]) (N := N_law) (by decide +kernel)) (fun _ _ _ _ _ => (qg_name 9 sc_law.nd)) (by decide) (fun _ _ _ _ _ => (qts_one (q_teq hu (qv 9) (qv 8)))) (fun _ _ _ _ _ => (qv 9))))))))))
      (qss_cons (qs_if (q_tne hu (q_repr hG hu (by rfl) T.b_repr (q_tup (qd_cons (q_call G_counts_of hG (hr.mono (by decide)) (by rfl) A_counts_of.m A_counts_of.F.kp A_counts_of.b (qa_d (qv 3) (qa_d (qv 4) qa_nil))) (qd_cons (q_callK0 G_counts_of hG (hr.mono (by decide)) (by rfl) A_counts_of.m A_counts_of.F.kp (kw_counts_of_0_deck_size A_counts_of.F) (qk_d (qv 4) (qk_d (qv 3) qk_nil))) qd_nil)))) (q_repr hG hu (by rfl) T.b_repr (q_tup (qd_cons (qv 6) (qd_cons (qv 6) qd_nil))))) (qss_one (qs_ret q_bl)) qss_nil)
      (qss_one (qs_if (qt_not (q_tst (q_call G__law_are_throws_right hG (hr.mono (by decide)) (by rfl) A__law_are_throws_right.m A__law_are_throws_right.F.kp A__law_are_throws_right.b (qa_d (qv 3) (qa_d (qv 4) (qa_d (q_call G__law_throw hG (hr.mono (by decide)) (by rfl) A__law_throw.m A__law_throw.F.kp A__law_throw.b (qa_k 1 (qa_d (qv 3) qa_nil))) (qa_d (q_call G__law_throw hG (hr.mono (by decide)) (by rfl) A__law_throw.m A__law_throw.F.kp A__law_throw.b (qa_k 1 (qa_d (qv 3) qa_nil))) qa_nil))))))) (qss_one (qs_ret q_bl)) qss_nil)))))))))
      (qss_one (qs_ret q_bl)))) hread
end
end T01
end P27
section P28
open PySem PySem.Spec PyProof.Rows L2 HT Q
namespace T01
theorem all_mk {l : PySem.W.OpenLaw} {w : World} {K : PySem.W.Frag} {h : Heap} {mg : Str → Option Value} {fa : Addr} (X : K.In h) (G : h.Ns mainGlobals mg) (hfa : mg "law" = some (.ref fa))
    {f0 : Addr} {od0 an0 : Option Addr} {sl0 : Array (Option Value)} {oc0 kV0 dc0 pm0 cd0 ct0 : Value}
    (a0 : PySem.W.nsIn K mainGlobals "is_integer" = some (some (.ref f0))) (l0 : K.lookup f0 = some ⟨oc0, od0, .func (PySem.W.fnOf "is_integer" "is_integer" (defArgs (top 10)) (defBody (top 10)) (defScope (top 10)) .none kV0 dc0 pm0 an0 cd0 ct0), sl0⟩) (c0 : PySem.W.codeIn K cd0 "is_integer" = true) (k0 : PySem.W.keepIn K (.ref f0) = true)
    {f1 : Addr} {od1 an1 : Option Addr} {sl1 : Array (Option Value)} {oc1 kV1 dc1 pm1 cd1 ct1 : Value}
    (a1 : PySem.W.nsIn K mainGlobals "is_between" = some (some (.ref f1))) (l1 : K.lookup f1 = some ⟨oc1, od1, .func (PySem.W.fnOf "is_between" "is_between" (defArgs (top 11)) (defBody (top 11)) (defScope (top 11)) .none kV1 dc1 pm1 an1 cd1 ct1), sl1⟩) (c1 : PySem.W.codeIn K cd1 "is_between" = true) (k1 : PySem.W.keepIn K (.ref f1) = true)
    {f2 : Addr} {od2 an2 : Option Addr} {sl2 : Array (Option Value)} {oc2 kV2 dc2 pm2 cd2 ct2 : Value}
    (a2 : PySem.W.nsIn K mainGlobals "are_between" = some (some (.ref f2))) (l2 : K.lookup f2 = some ⟨oc2, od2, .func (PySem.W.fnOf "are_between" "are_between" (defArgs (top 12)) (defBody (top 12)) (defScope (top 12)) .none kV2 dc2 pm2 an2 cd2 ct2), sl2⟩) (c2 : PySem.W.codeIn K cd2 "are_between" = true) (k2 : PySem.W.keepIn K (.ref f2) = true)
    {f3 : Addr} {od3 an3 : Option Addr} {sl3 : Array (Option Value)} {oc3 kV3 dc3 pm3 cd3 ct3 : Value}
    (a3 : PySem.W.nsIn K mainGlobals "is_size" = some (some (.ref f3))) (l3 : K.lookup f3 = some ⟨oc3, od3, .func (PySem.W.fnOf "is_size" "is_size" (defArgs (top 13)) (defBody (top 13)) (defScope (top 13)) .none kV3 dc3 pm3 an3 cd3 ct3), sl3⟩) (c3 : PySem.W.codeIn K cd3 "is_size" = true) (k3 : PySem.W.keepIn K (.ref f3) = true)
    {f4 : Addr} {od4 an4 : Option Addr} {sl4 : Array (Option Value)} {oc4 kV4 dc4 pm4 cd4 ct4 : Value}
    (a4 : PySem.W.nsIn K mainGlobals "is_deck_value" = some (some (.ref f4))) (l4 : K.lookup f4 = some ⟨oc4, od4, .func (PySem.W.fnOf "is_deck_value" "is_deck_value" (defArgs (top 14)) (defBody (top 14)) (defScope (top 14)) .none kV4 dc4 pm4 an4 cd4 ct4), sl4⟩) (c4 : PySem.W.codeIn K cd4 "is_deck_value" = true) (k4 : PySem.W.keepIn K (.ref f4) = true)
    {f5 : Addr} {od5 an5 : Option Addr} {sl5 : Array (Option Value)} {oc5 kV5 dc5 pm5 cd5 ct5 : Value}
    (a5 : PySem.W.nsIn K mainGlobals "is_order_value" = some (some (.ref f5))) (l5 : K.lookup f5 = some ⟨oc5, od5, .func (PySem.W.fnOf "is_order_value" "is_order_value" (defArgs (top 15)) (defBody (top 15)) (defScope (top 15)) .none kV5 dc5 pm5 an5 cd5 ct5), sl5⟩) (c5 : PySem.W.codeIn K cd5 "is_order_value" = true) (k5 : PySem.W.keepIn K (.ref f5) = true)
    {f6 : Addr} {od6 an6 : Option Addr} {sl6 : Array (Option Value)} {oc6 kV6 dc6 pm6 cd6 ct6 : Value}
    (a6 : PySem.W.nsIn K mainGlobals "is_lot_value" = some (some (.ref f6))) (l6 : K.lookup f6 = some ⟨oc6, od6, .func (PySem.W.fnOf "is_lot_value" "is_lot_value" (defArgs (top 16)) (defBody (top 16)) (defScope (top 16)) .none kV6 dc6 pm6 an6 cd6 ct6), sl6⟩) (c6 : PySem.W.codeIn K cd6 "is_lot_value" = true) (k6 : PySem.W.keepIn K (.ref f6) = true)
    {f7 : Addr} {od7 an7 : Option Addr} {sl7 : Array (Option Value)} {oc7 kV7 dc7 pm7 cd7 ct7 : Value}
    (a7 : PySem.W.nsIn K mainGlobals "is_throw_value" = some (some (.ref f7))) (l7 : K.lookup f7 = some ⟨oc7, od7, .func (PySem.W.fnOf "is_throw_value" "is_throw_value" (defArgs (top 17)) (defBody (top 17)) (defScope (top 17)) .none kV7 dc7 pm7 an7 cd7 ct7), sl7⟩) (c7 : PySem.W.codeIn K cd7 "is_throw_value" = true) (k7 : PySem.W.keepIn K (.ref f7) = true)
    {f8 : Addr} {od8 an8 : Option Addr} {sl8 : Array (Option Value)} {oc8 kV8 dc8 pm8 cd8 ct8 : Value}
    (a8 : PySem.W.nsIn K mainGlobals "need_size" = some (some (.ref f8))) (l8 : K.lookup f8 = some ⟨oc8, od8, .func (PySem.W.fnOf "need_size" "need_size" (defArgs (top 19)) (defBody (top 19)) (defScope (top 19)) .none kV8 dc8 pm8 an8 cd8 ct8), sl8⟩) (c8 : PySem.W.codeIn K cd8 "need_size" = true) (k8 : PySem.W.keepIn K (.ref f8) = true)
    {f9 : Addr} {od9 an9 : Option Addr} {sl9 : Array (Option Value)} {oc9 kV9 dc9 pm9 cd9 ct9 : Value}
    (a9 : PySem.W.nsIn K mainGlobals "need_deck" = some (some (.ref f9))) (l9 : K.lookup f9 = some ⟨oc9, od9, .func (PySem.W.fnOf "need_deck" "need_deck" (defArgs (top 20)) (defBody (top 20)) (defScope (top 20)) .none kV9 dc9 pm9 an9 cd9 ct9), sl9⟩) (c9 : PySem.W.codeIn K cd9 "need_deck" = true) (k9 : PySem.W.keepIn K (.ref f9) = true)
    {f10 : Addr} {od10 an10 : Option Addr} {sl10 : Array (Option Value)} {oc10 kV10 dc10 pm10 cd10 ct10 : Value}
    (a10 : PySem.W.nsIn K mainGlobals "need_throw" = some (some (.ref f10))) (l10 : K.lookup f10 = some ⟨oc10, od10, .func (PySem.W.fnOf "need_throw" "need_throw" (defArgs (top 21)) (defBody (top 21)) (defScope (top 21)) .none kV10 dc10 pm10 an10 cd10 ct10), sl10⟩) (c10 : PySem.W.codeIn K cd10 "need_throw" = true) (k10 : PySem.W.keepIn K (.ref f10) = true)
    {f11 : Addr} {od11 an11 : Option Addr} {sl11 : Array (Option Value)} {oc11 kV11 dc11 pm11 cd11 ct11 : Value}
    (a11 : PySem.W.nsIn K mainGlobals "need_order" = some (some (.ref f11))) (l11 : K.lookup f11 = some ⟨oc11, od11, .func (PySem.W.fnOf "need_order" "need_order" (defArgs (top 22)) (defBody (top 22)) (defScope (top 22)) .none kV11 dc11 pm11 an11 cd11 ct11), sl11⟩) (c11 : PySem.W.codeIn K cd11 "need_order" = true) (k11 : PySem.W.keepIn K (.ref f11) = true)
    {f12 : Addr} {od12 an12 : Option Addr} {sl12 : Array (Option Value)} {oc12 kV12 dc12 pm12 cd12 ct12 : Value}
    (a12 : PySem.W.nsIn K mainGlobals "need_number" = some (some (.ref f12))) (l12 : K.lookup f12 = some ⟨oc12, od12, .func (PySem.W.fnOf "need_number" "need_number" (defArgs (top 23)) (defBody (top 23)) (defScope (top 23)) .none kV12 dc12 pm12 an12 cd12 ct12), sl12⟩) (c12 : PySem.W.codeIn K cd12 "need_number" = true) (k12 : PySem.W.keepIn K (.ref f12) = true)
    {f13 : Addr} {od13 an13 : Option Addr} {sl13 : Array (Option Value)} {oc13 kV13 dc13 pm13 cd13 ct13 : Value}
    (a13 : PySem.W.nsIn K mainGlobals "is_deck" = some (some (.ref f13))) (l13 : K.lookup f13 = some ⟨oc13, od13, .func (PySem.W.fnOf "is_deck" "is_deck" (defArgs (top 25)) (defBody (top 25)) (defScope (top 25)) .none kV13 dc13 pm13 an13 cd13 ct13), sl13⟩) (c13 : PySem.W.codeIn K cd13 "is_deck" = true) (k13 : PySem.W.keepIn K (.ref f13) = true)
    {f14 : Addr} {od14 an14 : Option Addr} {sl14 : Array (Option Value)} {oc14 kV14 dc14 pm14 cd14 ct14 : Value}
    (a14 : PySem.W.nsIn K mainGlobals "is_order" = some (some (.ref f14))) (l14 : K.lookup f14 = some ⟨oc14, od14, .func (PySem.W.fnOf "is_order" "is_order" (defArgs (top 26)) (defBody (top 26)) (defScope (top 26)) .none kV14 dc14 pm14 an14 cd14 ct14), sl14⟩) (c14 : PySem.W.codeIn K cd14 "is_order" = true) (k14 : PySem.W.keepIn K (.ref f14) = true)
    {f15 : Addr} {od15 an15 : Option Addr} {sl15 : Array (Option Value)} {oc15 kV15 dc15 pm15 cd15 ct15 : Value}
    (a15 : PySem.W.nsIn K mainGlobals "need_some_order" = some (some (.ref f15))) (l15 : K.lookup f15 = some ⟨oc15, od15, .func (PySem.W.fnOf "need_some_order" "need_some_order" (defArgs (top 27)) (defBody (top 27)) (defScope (top 27)) .none kV15 dc15 pm15 an15 cd15 ct15), sl15⟩) (c15 : PySem.W.codeIn K cd15 "need_some_order" = true) (k15 : PySem.W.keepIn K (.ref f15) = true)
    {f16 : Addr} {od16 an16 : Option Addr} {sl16 : Array (Option Value)} {oc16 kV16 dc16 pm16 cd16 ct16 : Value}
    (a16 : PySem.W.nsIn K mainGlobals "raw_laid" = some (some (.ref f16))) (l16 : K.lookup f16 = some ⟨oc16, od16, .func (PySem.W.fnOf "raw_laid" "raw_laid" (defArgs (top 28)) (defBody (top 28)) (defScope (top 28)) .none kV16 dc16 pm16 an16 cd16 ct16), sl16⟩) (c16 : PySem.W.codeIn K cd16 "raw_laid" = true) (k16 : PySem.W.keepIn K (.ref f16) = true)
    {f17 : Addr} {od17 an17 : Option Addr} {sl17 : Array (Option Value)} {oc17 kV17 dc17 pm17 cd17 ct17 : Value}
    (a17 : PySem.W.nsIn K mainGlobals "laid" = some (some (.ref f17))) (l17 : K.lookup f17 = some ⟨oc17, od17, .func (PySem.W.fnOf "laid" "laid" (defArgs (top 29)) (defBody (top 29)) (defScope (top 29)) .none kV17 dc17 pm17 an17 cd17 ct17), sl17⟩) (c17 : PySem.W.codeIn K cd17 "laid" = true) (k17 : PySem.W.keepIn K (.ref f17) = true)
    {f18 : Addr} {od18 an18 : Option Addr} {sl18 : Array (Option Value)} {oc18 kV18 dc18 pm18 cd18 ct18 : Value}
    (a18 : PySem.W.nsIn K mainGlobals "together" = some (some (.ref f18))) (l18 : K.lookup f18 = some ⟨oc18, od18, .func (PySem.W.fnOf "together" "together" (defArgs (top 30)) (defBody (top 30)) (defScope (top 30)) .none kV18 dc18 pm18 an18 cd18 ct18), sl18⟩) (c18 : PySem.W.codeIn K cd18 "together" = true) (k18 : PySem.W.keepIn K (.ref f18) = true)
    {f19 : Addr} {od19 an19 : Option Addr} {sl19 : Array (Option Value)} {oc19 kV19 dc19 pm19 cd19 ct19 : Value}
    (a19 : PySem.W.nsIn K mainGlobals "undone_order" = some (some (.ref f19))) (l19 : K.lookup f19 = some ⟨oc19, od19, .func (PySem.W.fnOf "undone_order" "undone_order" (defArgs (top 31)) (defBody (top 31)) (defScope (top 31)) .none kV19 dc19 pm19 an19 cd19 ct19), sl19⟩) (c19 : PySem.W.codeIn K cd19 "undone_order" = true) (k19 : PySem.W.keepIn K (.ref f19) = true)
    {f20 : Addr} {od20 an20 : Option Addr} {sl20 : Array (Option Value)} {oc20 kV20 dc20 pm20 cd20 ct20 : Value}
    (a20 : PySem.W.nsIn K mainGlobals "opposite" = some (some (.ref f20))) (l20 : K.lookup f20 = some ⟨oc20, od20, .func (PySem.W.fnOf "opposite" "opposite" (defArgs (top 32)) (defBody (top 32)) (defScope (top 32)) .none kV20 dc20 pm20 an20 cd20 ct20), sl20⟩) (c20 : PySem.W.codeIn K cd20 "opposite" = true) (k20 : PySem.W.keepIn K (.ref f20) = true)
    {f21 : Addr} {od21 an21 : Option Addr} {sl21 : Array (Option Value)} {oc21 kV21 dc21 pm21 cd21 ct21 : Value}
    (a21 : PySem.W.nsIn K mainGlobals "counts_of" = some (some (.ref f21))) (l21 : K.lookup f21 = some ⟨oc21, od21, .func (PySem.W.fnOf "counts_of" "counts_of" (defArgs (top 33)) (defBody (top 33)) (defScope (top 33)) .none kV21 dc21 pm21 an21 cd21 ct21), sl21⟩) (c21 : PySem.W.codeIn K cd21 "counts_of" = true) (k21 : PySem.W.keepIn K (.ref f21) = true)
    {f22 : Addr} {od22 an22 : Option Addr} {sl22 : Array (Option Value)} {oc22 kV22 dc22 pm22 cd22 ct22 : Value}
    (a22 : PySem.W.nsIn K mainGlobals "raw_size" = some (some (.ref f22))) (l22 : K.lookup f22 = some ⟨oc22, od22, .func (PySem.W.fnOf "raw_size" "raw_size" (defArgs (top 35)) (defBody (top 35)) (defScope (top 35)) .none kV22 dc22 pm22 an22 cd22 ct22), sl22⟩) (c22 : PySem.W.codeIn K cd22 "raw_size" = true) (k22 : PySem.W.keepIn K (.ref f22) = true)
    {f23 : Addr} {od23 an23 : Option Addr} {sl23 : Array (Option Value)} {oc23 kV23 dc23 pm23 cd23 ct23 : Value}
    (a23 : PySem.W.nsIn K mainGlobals "raw_order" = some (some (.ref f23))) (l23 : K.lookup f23 = some ⟨oc23, od23, .func (PySem.W.fnOf "raw_order" "raw_order" (defArgs (top 36)) (defBody (top 36)) (defScope (top 36)) .none kV23 dc23 pm23 an23 cd23 ct23), sl23⟩) (c23 : PySem.W.codeIn K cd23 "raw_order" = true) (k23 : PySem.W.keepIn K (.ref f23) = true)
    {f24 : Addr} {od24 an24 : Option Addr} {sl24 : Array (Option Value)} {oc24 kV24 dc24 pm24 cd24 ct24 : Value}
    (a24 : PySem.W.nsIn K mainGlobals "order_after" = some (some (.ref f24))) (l24 : K.lookup f24 = some ⟨oc24, od24, .func (PySem.W.fnOf "order_after" "order_after" (defArgs (top 37)) (defBody (top 37)) (defScope (top 37)) .none kV24 dc24 pm24 an24 cd24 ct24), sl24⟩) (c24 : PySem.W.codeIn K cd24 "order_after" = true) (k24 : PySem.W.keepIn K (.ref f24) = true)
    {f25 : Addr} {od25 an25 : Option Addr} {sl25 : Array (Option Value)} {oc25 kV25 dc25 pm25 cd25 ct25 : Value}
    (a25 : PySem.W.nsIn K mainGlobals "deck_after" = some (some (.ref f25))) (l25 : K.lookup f25 = some ⟨oc25, od25, .func (PySem.W.fnOf "deck_after" "deck_after" (defArgs (top 38)) (defBody (top 38)) (defScope (top 38)) .none kV25 dc25 pm25 an25 cd25 ct25), sl25⟩) (c25 : PySem.W.codeIn K cd25 "deck_after" = true) (k25 : PySem.W.keepIn K (.ref f25) = true)
    {f26 : Addr} {od26 an26 : Option Addr} {sl26 : Array (Option Value)} {oc26 kV26 dc26 pm26 cd26 ct26 : Value}
    (a26 : PySem.W.nsIn K mainGlobals "_law_deck" = some (some (.ref f26))) (l26 : K.lookup f26 = some ⟨oc26, od26, .func (PySem.W.fnOf "_law_deck" "_law_deck" (defArgs (top 40)) (defBody (top 40)) (defScope (top 40)) .none kV26 dc26 pm26 an26 cd26 ct26), sl26⟩) (c26 : PySem.W.codeIn K cd26 "_law_deck" = true) (k26 : PySem.W.keepIn K (.ref f26) = true)
    {f27 : Addr} {od27 an27 : Option Addr} {sl27 : Array (Option Value)} {oc27 kV27 dc27 pm27 cd27 ct27 : Value}
    (a27 : PySem.W.nsIn K mainGlobals "_law_draw" = some (some (.ref f27))) (l27 : K.lookup f27 = some ⟨oc27, od27, .func (PySem.W.fnOf "_law_draw" "_law_draw" (defArgs (top 41)) (defBody (top 41)) (defScope (top 41)) .none kV27 dc27 pm27 an27 cd27 ct27), sl27⟩) (c27 : PySem.W.codeIn K cd27 "_law_draw" = true) (k27 : PySem.W.keepIn K (.ref f27) = true)
    {f28 : Addr} {od28 an28 : Option Addr} {sl28 : Array (Option Value)} {oc28 kV28 dc28 pm28 cd28 ct28 : Value}
    (a28 : PySem.W.nsIn K mainGlobals "_law_pick" = some (some (.ref f28))) (l28 : K.lookup f28 = some ⟨oc28, od28, .func (PySem.W.fnOf "_law_pick" "_law_pick" (defArgs (top 42)) (defBody (top 42)) (defScope (top 42)) .none kV28 dc28 pm28 an28 cd28 ct28), sl28⟩) (c28 : PySem.W.codeIn K cd28 "_law_pick" = true) (k28 : PySem.W.keepIn K (.ref f28) = true)
    {f29 : Addr} {od29 an29 : Option Addr} {sl29 : Array (Option Value)} {oc29 kV29 dc29 pm29 cd29 ct29 : Value}
    (a29 : PySem.W.nsIn K mainGlobals "_law_cards" = some (some (.ref f29))) (l29 : K.lookup f29 = some ⟨oc29, od29, .func (PySem.W.fnOf "_law_cards" "_law_cards" (defArgs (top 43)) (defBody (top 43)) (defScope (top 43)) .none kV29 dc29 pm29 an29 cd29 ct29), sl29⟩) (c29 : PySem.W.codeIn K cd29 "_law_cards" = true) (k29 : PySem.W.keepIn K (.ref f29) = true)
    {f30 : Addr} {od30 an30 : Option Addr} {sl30 : Array (Option Value)} {oc30 kV30 dc30 pm30 cd30 ct30 : Value}
    (a30 : PySem.W.nsIn K mainGlobals "_law_order" = some (some (.ref f30))) (l30 : K.lookup f30 = some ⟨oc30, od30, .func (PySem.W.fnOf "_law_order" "_law_order" (defArgs (top 44)) (defBody (top 44)) (defScope (top 44)) .none kV30 dc30 pm30 an30 cd30 ct30), sl30⟩) (c30 : PySem.W.codeIn K cd30 "_law_order" = true) (k30 : PySem.W.keepIn K (.ref f30) = true)
    {f31 : Addr} {od31 an31 : Option Addr} {sl31 : Array (Option Value)} {oc31 kV31 dc31 pm31 cd31 ct31 : Value}
    (a31 : PySem.W.nsIn K mainGlobals "_law_throw" = some (some (.ref f31))) (l31 : K.lookup f31 = some ⟨oc31, od31, .func (PySem.W.fnOf "_law_throw" "_law_throw" (defArgs (top 45)) (defBody (top 45)) (defScope (top 45)) .none kV31 dc31 pm31 an31 cd31 ct31), sl31⟩) (c31 : PySem.W.codeIn K cd31 "_law_throw" = true) (k31 : PySem.W.keepIn K (.ref f31) = true)
    {f32 : Addr} {od32 an32 : Option Addr} {sl32 : Array (Option Value)} {oc32 kV32 dc32 pm32 cd32 ct32 : Value}
    (a32 : PySem.W.nsIn K mainGlobals "_law_after" = some (some (.ref f32))) (l32 : K.lookup f32 = some ⟨oc32, od32, .func (PySem.W.fnOf "_law_after" "_law_after" (defArgs (top 46)) (defBody (top 46)) (defScope (top 46)) .none kV32 dc32 pm32 an32 cd32 ct32), sl32⟩) (c32 : PySem.W.codeIn K cd32 "_law_after" = true) (k32 : PySem.W.keepIn K (.ref f32) = true)
    {f33 : Addr} {od33 an33 : Option Addr} {sl33 : Array (Option Value)} {oc33 kV33 dc33 pm33 cd33 ct33 : Value}
    (a33 : PySem.W.nsIn K mainGlobals "_law_laid" = some (some (.ref f33))) (l33 : K.lookup f33 = some ⟨oc33, od33, .func (PySem.W.fnOf "_law_laid" "_law_laid" (defArgs (top 47)) (defBody (top 47)) (defScope (top 47)) .none kV33 dc33 pm33 an33 cd33 ct33), sl33⟩) (c33 : PySem.W.codeIn K cd33 "_law_laid" = true) (k33 : PySem.W.keepIn K (.ref f33) = true)
    {f34 : Addr} {od34 an34 : Option Addr} {sl34 : Array (Option Value)} {oc34 kV34 dc34 pm34 cd34 ct34 : Value}
    (a34 : PySem.W.nsIn K mainGlobals "_law_together" = some (some (.ref f34))) (l34 : K.lookup f34 = some ⟨oc34, od34, .func (PySem.W.fnOf "_law_together" "_law_together" (defArgs (top 48)) (defBody (top 48)) (defScope (top 48)) .none kV34 dc34 pm34 an34 cd34 ct34), sl34⟩) (c34 : PySem.W.codeIn K cd34 "_law_together" = true) (k34 : PySem.W.keepIn K (.ref f34) = true)
    {f35 : Addr} {od35 an35 : Option Addr} {sl35 : Array (Option Value)} {oc35 kV35 dc35 pm35 cd35 ct35 : Value}
    (a35 : PySem.W.nsIn K mainGlobals "_law_undone" = some (some (.ref f35))) (l35 : K.lookup f35 = some ⟨oc35, od35, .func (PySem.W.fnOf "_law_undone" "_law_undone" (defArgs (top 49)) (defBody (top 49)) (defScope (top 49)) .none kV35 dc35 pm35 an35 cd35 ct35), sl35⟩) (c35 : PySem.W.codeIn K cd35 "_law_undone" = true) (k35 : PySem.W.keepIn K (.ref f35) = true)
    {f36 : Addr} {od36 an36 : Option Addr} {sl36 : Array (Option Value)} {oc36 kV36 dc36 pm36 cd36 ct36 : Value}
    (a36 : PySem.W.nsIn K mainGlobals "_law_are_orders_right" = some (some (.ref f36))) (l36 : K.lookup f36 = some ⟨oc36, od36, .func (PySem.W.fnOf "_law_are_orders_right" "_law_are_orders_right" (defArgs (top 50)) (defBody (top 50)) (defScope (top 50)) .none kV36 dc36 pm36 an36 cd36 ct36), sl36⟩) (c36 : PySem.W.codeIn K cd36 "_law_are_orders_right" = true) (k36 : PySem.W.keepIn K (.ref f36) = true)
    {f37 : Addr} {od37 an37 : Option Addr} {sl37 : Array (Option Value)} {oc37 kV37 dc37 pm37 cd37 ct37 : Value}
    (a37 : PySem.W.nsIn K mainGlobals "_law_are_throws_right" = some (some (.ref f37))) (l37 : K.lookup f37 = some ⟨oc37, od37, .func (PySem.W.fnOf "_law_are_throws_right" "_law_are_throws_right" (defArgs (top 51)) (defBody (top 51)) (defScope (top 51)) .none kV37 dc37 pm37 an37 cd37 ct37), sl37⟩) (c37 : PySem.W.codeIn K cd37 "_law_are_throws_right" = true) (k37 : PySem.W.keepIn K (.ref f37) = true)
    {f38 : Addr} {od38 an38 : Option Addr} {sl38 : Array (Option Value)} {oc38 kV38 dc38 pm38 cd38 ct38 : Value}
    (a38 : PySem.W.nsIn K mainGlobals "law" = some (some (.ref f38))) (l38 : K.lookup f38 = some ⟨oc38, od38, .func (PySem.W.fnOf "law" "law" (defArgs (top 52)) (defBody (top 52)) (defScope (top 52)) .none kV38 dc38 pm38 an38 cd38 ct38), sl38⟩) (c38 : PySem.W.codeIn K cd38 "law" = true) (k38 : PySem.W.keepIn K (.ref f38) = true)
    (z_len : PySem.W.nsIn K mainGlobals "len" = some none)
    (z_tuple : PySem.W.nsIn K mainGlobals "tuple" = some none)
    (z_list : PySem.W.nsIn K mainGlobals "list" = some none)
    (z_range : PySem.W.nsIn K mainGlobals "range" = some none)
    (z_all : PySem.W.nsIn K mainGlobals "all" = some none)
    (z_sum : PySem.W.nsIn K mainGlobals "sum" = some none)
    (z_max : PySem.W.nsIn K mainGlobals "max" = some none)
    (z_int : PySem.W.nsIn K mainGlobals "int" = some none)
    (z_sorted : PySem.W.nsIn K mainGlobals "sorted" = some none)
    (z_isinstance : PySem.W.nsIn K mainGlobals "isinstance" = some none)
    (z_repr : PySem.W.nsIn K mainGlobals "repr" = some none)
    (z_enumerate : PySem.W.nsIn K mainGlobals "enumerate" = some none)
    (z_set : PySem.W.nsIn K mainGlobals "set" = some none)
    (z_bool : PySem.W.nsIn K mainGlobals "bool" = some none)
    {t_MOST_SIZE : _} (z_MOST_SIZE : PySem.W.nsIn K mainGlobals "MOST_SIZE" = some (some (.int 8 t_MOST_SIZE)))
    {t_MOST_CARDS : _} (z_MOST_CARDS : PySem.W.nsIn K mainGlobals "MOST_CARDS" = some (some (.int 60 t_MOST_CARDS)))
    : ∃ fd : FuncData, (∀ (s : Shared) (v : Value), BindsTo s fd ⟨[v], []⟩ [("_law_script", v)]) ∧ ∀ base : Heap, K.In base → base.Ns mainGlobals mg → LawOk l.prog w K mg base 9 fa fd "_law_script" := by
  have e := hfa.symm.trans (PySem.W.mg_of X G a38)
  cases e
  have T : Txt K mg := ⟨PySem.W.mg_none_of X G z_len, PySem.W.mg_none_of X G z_tuple, PySem.W.mg_none_of X G z_list, PySem.W.mg_none_of X G z_range, PySem.W.mg_none_of X G z_all, PySem.W.mg_none_of X G z_sum, PySem.W.mg_none_of X G z_max, PySem.W.mg_none_of X G z_int, PySem.W.mg_none_of X G z_sorted, PySem.W.mg_none_of X G z_isinstance, PySem.W.mg_none_of X G z_repr, PySem.W.mg_none_of X G z_enumerate, PySem.W.mg_none_of X G z_set, PySem.W.mg_none_of X G z_bool, ⟨_, PySem.W.mg_of X G z_MOST_SIZE⟩, ⟨_, PySem.W.mg_of X G z_MOST_CARDS⟩⟩
  have F_is_integer := fun_mk (st := top 10) l0 c0 k0
  have A_is_integer : At K mg "is_integer" ["thing"] (top 10) f0 _ := ⟨F_is_integer, PySem.W.mg_of X G a0, F_is_integer.binds (ps := ["thing"]) fun _ _ _ _ _ _ us hl => match us, hl with | [_], _ => rfl⟩
  have F_is_between := fun_mk (st := top 11) l1 c1 k1
  have A_is_between : At K mg "is_between" ["thing", "least", "most"] (top 11) f1 _ := ⟨F_is_between, PySem.W.mg_of X G a1, F_is_between.binds (ps := ["thing", "least", "most"]) fun _ _ _ _ _ _ us hl => match us, hl with | [_, _, _], _ => rfl⟩
  have F_are_between := fun_mk (st := top 12) l2 c2 k2
  have A_are_between : At K mg "are_between" ["thing", "least", "most"] (top 12) f2 _ := ⟨F_are_between, PySem.W.mg_of X G a2, F_are_between.binds (ps := ["thing", "least", "most"]) fun _ _ _ _ _ _ us hl => match us, hl with | [_, _, _], _ => rfl⟩
  have F_is_size := fun_mk (st := top 13) l3 c3 k3
  have A_is_size : At K mg "is_size" ["thing"] (top 13) f3 _ := ⟨F_is_size, PySem.W.mg_of X G a3, F_is_size.binds (ps := ["thing"]) fun _ _ _ _ _ _ us hl => match us, hl with | [_], _ => rfl⟩
  have F_is_deck_value := fun_mk (st := top 14) l4 c4 k4
  have A_is_deck_value : At K mg "is_deck_value" ["size", "thing"] (top 14) f4 _ := ⟨F_is_deck_value, PySem.W.mg_of X G a4, F_is_deck_value.binds (ps := ["size", "thing"]) fun _ _ _ _ _ _ us hl => match us, hl with | [_, _], _ => rfl⟩
  have F_is_order_value := fun_mk (st := top 15) l5 c5 k5
  have A_is_order_value : At K mg "is_order_value" ["many", "thing"] (top 15) f5 _ := ⟨F_is_order_value, PySem.W.mg_of X G a5, F_is_order_value.binds (ps := ["many", "thing"]) fun _ _ _ _ _ _ us hl => match us, hl with | [_, _], _ => rfl⟩
  have F_is_lot_value := fun_mk (st := top 16) l6 c6 k6
  have A_is_lot_value : At K mg "is_lot_value" ["thing"] (top 16) f6 _ := ⟨F_is_lot_value, PySem.W.mg_of X G a6, F_is_lot_value.binds (ps := ["thing"]) fun _ _ _ _ _ _ us hl => match us, hl with | [_], _ => rfl⟩
  have F_is_throw_value := fun_mk (st := top 17) l7 c7 k7
  have A_is_throw_value : At K mg "is_throw_value" ["thing"] (top 17) f7 _ := ⟨F_is_throw_value, PySem.W.mg_of X G a7, F_is_throw_value.binds (ps := ["thing"]) fun _ _ _ _ _ _ us hl => match us, hl with | [_], _ => rfl⟩
  have F_need_size := fun_mk (st := top 19) l8 c8 k8
  have A_need_size : At K mg "need_size" ["size"] (top 19) f8 _ := ⟨F_need_size, PySem.W.mg_of X G a8, F_need_size.binds (ps := ["size"]) fun _ _ _ _ _ _ us hl => match us, hl with | [_], _ => rfl⟩
  have F_need_deck := fun_mk (st := top 20) l9 c9 k9
  have A_need_deck : At K mg "need_deck" ["size", "deck"] (top 20) f9 _ := ⟨F_need_deck, PySem.W.mg_of X G a9, F_need_deck.binds (ps := ["size", "deck"]) fun _ _ _ _ _ _ us hl => match us, hl with | [_, _], _ => rfl⟩
  have F_need_throw := fun_mk (st := top 21) l10 c10 k10
  have A_need_throw : At K mg "need_throw" ["throw"] (top 21) f10 _ := ⟨F_need_throw, PySem.W.mg_of X G a10, F_need_throw.binds (ps := ["throw"]) fun _ _ _ _ _ _ us hl => match us, hl with | [_], _ => rfl⟩
  have F_need_order := fun_mk (st := top 22) l11 c11 k11
  have A_need_order : At K mg "need_order" ["many", "order"] (top 22) f11 _ := ⟨F_need_order, PySem.W.mg_of X G a11, F_need_order.binds (ps := ["many", "order"]) fun _ _ _ _ _ _ us hl => match us, hl with | [_, _], _ => rfl⟩
  have F_need_number := fun_mk (st := top 23) l12 c12 k12
  have A_need_number : At K mg "need_number" ["number"] (top 23) f12 _ := ⟨F_need_number, PySem.W.mg_of X G a12, F_need_number.binds (ps := ["number"]) fun _ _ _ _ _ _ us hl => match us, hl with | [_], _ => rfl⟩
  have F_is_deck := fun_mk (st := top 25) l13 c13 k13
  have A_is_deck : At K mg "is_deck" ["size", "thing"] (top 25) f13 _ := ⟨F_is_deck, PySem.W.mg_of X G a13, F_is_deck.binds (ps := ["size", "thing"]) fun _ _ _ _ _ _ us hl => match us, hl with | [_, _], _ => rfl⟩
  have F_is_order := fun_mk (st := top 26) l14 c14 k14
  have A_is_order : At K mg "is_order" ["n", "thing"] (top 26) f14 _ := ⟨F_is_order, PySem.W.mg_of X G a14, F_is_order.binds (ps := ["n", "thing"]) fun _ _ _ _ _ _ us hl => match us, hl with | [_, _], _ => rfl⟩
  have F_need_some_order := fun_mk (st := top 27) l15 c15 k15
  have A_need_some_order : At K mg "need_some_order" ["order"] (top 27) f15 _ := ⟨F_need_some_order, PySem.W.mg_of X G a15, F_need_some_order.binds (ps := ["order"]) fun _ _ _ _ _ _ us hl => match us, hl with | [_], _ => rfl⟩
  have F_raw_laid := fun_mk (st := top 28) l16 c16 k16
  have A_raw_laid : At K mg "raw_laid" ["deck", "order"] (top 28) f16 _ := ⟨F_raw_laid, PySem.W.mg_of X G a16, F_raw_laid.binds (ps := ["deck", "order"]) fun _ _ _ _ _ _ us hl => match us, hl with | [_, _], _ => rfl⟩
  have F_laid := fun_mk (st := top 29) l17 c17 k17
  have A_laid : At K mg "laid" ["deck", "order"] (top 29) f17 _ := ⟨F_laid, PySem.W.mg_of X G a17, F_laid.binds (ps := ["deck", "order"]) fun _ _ _ _ _ _ us hl => match us, hl with | [_, _], _ => rfl⟩
  have F_together := fun_mk (st := top 30) l18 c18 k18
  have A_together : At K mg "together" ["one", "other"] (top 30) f18 _ := ⟨F_together, PySem.W.mg_of X G a18, F_together.binds (ps := ["one", "other"]) fun _ _ _ _ _ _ us hl => match us, hl with | [_, _], _ => rfl⟩
  have F_undone_order := fun_mk (st := top 31) l19 c19 k19
  have A_undone_order : At K mg "undone_order" ["order"] (top 31) f19 _ := ⟨F_undone_order, PySem.W.mg_of X G a19, F_undone_order.binds (ps := ["order"]) fun _ _ _ _ _ _ us hl => match us, hl with | [_], _ => rfl⟩
  have F_opposite := fun_mk (st := top 32) l20 c20 k20
  have A_opposite : At K mg "opposite" ["order"] (top 32) f20 _ := ⟨F_opposite, PySem.W.mg_of X G a20, F_opposite.binds (ps := ["order"]) fun _ _ _ _ _ _ us hl => match us, hl with | [_], _ => rfl⟩
  have F_counts_of := fun_mk (st := top 33) l21 c21 k21
  have A_counts_of : At K mg "counts_of" ["size", "deck"] (top 33) f21 _ := ⟨F_counts_of, PySem.W.mg_of X G a21, F_counts_of.binds (ps := ["size", "deck"]) fun _ _ _ _ _ _ us hl => match us, hl with | [_, _], _ => rfl⟩
  have F_raw_size := fun_mk (st := top 35) l22 c22 k22
  have A_raw_size : At K mg "raw_size" ["throw"] (top 35) f22 _ := ⟨F_raw_size, PySem.W.mg_of X G a22, F_raw_size.binds (ps := ["throw"]) fun _ _ _ _ _ _ us hl => match us, hl with | [_], _ => rfl⟩
  have F_raw_order := fun_mk (st := top 36) l23 c23 k23
  have A_raw_order : At K mg "raw_order" ["throw", "deck"] (top 36) f23 _ := ⟨F_raw_order, PySem.W.mg_of X G a23, F_raw_order.binds (ps := ["throw", "deck"]) fun _ _ _ _ _ _ us hl => match us, hl with | [_, _], _ => rfl⟩
  have F_order_after := fun_mk (st := top 37) l24 c24 k24
  have A_order_after : At K mg "order_after" ["throw", "deck"] (top 37) f24 _ := ⟨F_order_after, PySem.W.mg_of X G a24, F_order_after.binds (ps := ["throw", "deck"]) fun _ _ _ _ _ _ us hl => match us, hl with | [_, _], _ => rfl⟩
  have F_deck_after := fun_mk (st := top 38) l25 c25 k25
  have A_deck_after : At K mg "deck_after" ["throw", "deck"] (top 38) f25 _ := ⟨F_deck_after, PySem.W.mg_of X G a25, F_deck_after.binds (ps := ["throw", "deck"]) fun _ _ _ _ _ _ us hl => match us, hl with | [_, _], _ => rfl⟩
  have F__law_deck := fun_mk (st := top 40) l26 c26 k26
  have A__law_deck : At K mg "_law_deck" ["_law_script"] (top 40) f26 _ := ⟨F__law_deck, PySem.W.mg_of X G a26, F__law_deck.binds (ps := ["_law_script"]) fun _ _ _ _ _ _ us hl => match us, hl with | [_], _ => rfl⟩
  have F__law_draw := fun_mk (st := top 41) l27 c27 k27
  have A__law_draw : At K mg "_law_draw" ["_law_deck_here", "_law_many"] (top 41) f27 _ := ⟨F__law_draw, PySem.W.mg_of X G a27, F__law_draw.binds (ps := ["_law_deck_here", "_law_many"]) fun _ _ _ _ _ _ us hl => match us, hl with | [_, _], _ => rfl⟩
  have F__law_pick := fun_mk (st := top 42) l28 c28 k28
  have A__law_pick : At K mg "_law_pick" ["_law_deck_here", "_law_some"] (top 42) f28 _ := ⟨F__law_pick, PySem.W.mg_of X G a28, F__law_pick.binds (ps := ["_law_deck_here", "_law_some"]) fun _ _ _ _ _ _ us hl => match us, hl with | [_, _], _ => rfl⟩
  have F__law_cards := fun_mk (st := top 43) l29 c29 k29
  have A__law_cards : At K mg "_law_cards" ["_law_deck_here", "_law_size", "_law_most"] (top 43) f29 _ := ⟨F__law_cards, PySem.W.mg_of X G a29, F__law_cards.binds (ps := ["_law_deck_here", "_law_size", "_law_most"]) fun _ _ _ _ _ _ us hl => match us, hl with | [_, _, _], _ => rfl⟩
  have F__law_order := fun_mk (st := top 44) l30 c30 k30
  have A__law_order : At K mg "_law_order" ["_law_deck_here", "_law_n"] (top 44) f30 _ := ⟨F__law_order, PySem.W.mg_of X G a30, F__law_order.binds (ps := ["_law_deck_here", "_law_n"]) fun _ _ _ _ _ _ us hl => match us, hl with | [_, _], _ => rfl⟩
  have F__law_throw := fun_mk (st := top 45) l31 c31 k31
  have A__law_throw : At K mg "_law_throw" ["_law_deck_here", "_law_size"] (top 45) f31 _ := ⟨F__law_throw, PySem.W.mg_of X G a31, F__law_throw.binds (ps := ["_law_deck_here", "_law_size"]) fun _ _ _ _ _ _ us hl => match us, hl with | [_, _], _ => rfl⟩
  have F__law_after := fun_mk (st := top 46) l32 c32 k32
  have A__law_after : At K mg "_law_after" ["_law_throw_here", "_law_cards_here"] (top 46) f32 _ := ⟨F__law_after, PySem.W.mg_of X G a32, F__law_after.binds (ps := ["_law_throw_here", "_law_cards_here"]) fun _ _ _ _ _ _ us hl => match us, hl with | [_, _], _ => rfl⟩
  have F__law_laid := fun_mk (st := top 47) l33 c33 k33
  have A__law_laid : At K mg "_law_laid" ["_law_cards_here", "_law_order_here"] (top 47) f33 _ := ⟨F__law_laid, PySem.W.mg_of X G a33, F__law_laid.binds (ps := ["_law_cards_here", "_law_order_here"]) fun _ _ _ _ _ _ us hl => match us, hl with | [_, _], _ => rfl⟩
  have F__law_together := fun_mk (st := top 48) l34 c34 k34
  have A__law_together : At K mg "_law_together" ["_law_one", "_law_other"] (top 48) f34 _ := ⟨F__law_together, PySem.W.mg_of X G a34, F__law_together.binds (ps := ["_law_one", "_law_other"]) fun _ _ _ _ _ _ us hl => match us, hl with | [_, _], _ => rfl⟩
  have F__law_undone := fun_mk (st := top 49) l35 c35 k35
  have A__law_undone : At K mg "_law_undone" ["_law_order_here"] (top 49) f35 _ := ⟨F__law_undone, PySem.W.mg_of X G a35, F__law_undone.binds (ps := ["_law_order_here"]) fun _ _ _ _ _ _ us hl => match us, hl with | [_], _ => rfl⟩
  have F__law_are_orders_right := fun_mk (st := top 50) l36 c36 k36
  have A__law_are_orders_right : At K mg "_law_are_orders_right" ["_law_cards_here", "_law_one", "_law_other", "_law_third"] (top 50) f36 _ := ⟨F__law_are_orders_right, PySem.W.mg_of X G a36, F__law_are_orders_right.binds (ps := ["_law_cards_here", "_law_one", "_law_other", "_law_third"]) fun _ _ _ _ _ _ us hl => match us, hl with | [_, _, _, _], _ => rfl⟩
  have F__law_are_throws_right := fun_mk (st := top 51) l37 c37 k37
  have A__law_are_throws_right : At K mg "_law_are_throws_right" ["_law_size", "_law_cards_here", "_law_throw_here", "_law_other"] (top 51) f37 _ := ⟨F__law_are_throws_right, PySem.W.mg_of X G a37, F__law_are_throws_right.binds (ps := ["_law_size", "_law_cards_here", "_law_throw_here", "_law_other"]) fun _ _ _ _ _ _ us hl => match us, hl with | [_, _, _, _], _ => rfl⟩
  have F_law := fun_mk (st := top 52) l38 c38 k38
  refine ⟨PySem.W.fnOf "law" "law" (defArgs (top 52)) (defBody (top 52)) (defScope (top 52)) .none kV38 dc38 pm38 an38 cd38 ct38, fun s v => .of_eq rfl, fun base hK hN => ?_⟩
  have G__law_deck := ok_deck (P := l.prog) (w := w) (base := base) F__law_deck T.b_int T.b_list
  have G__law_draw := FnG.draw (ok_draw (P := l.prog) (w := w) (base := base) F__law_draw T.b_int T.b_max) rfl
  have G_is_integer := dv_is_integer (P := l.prog) (w := w) (base := base) T F_is_integer len_is_integer rd_is_integer
  have G_is_between := dv_is_between (P := l.prog) (w := w) (base := base) T A_is_integer G_is_integer F_is_between len_is_between rd_is_between
  have G_are_between := dv_are_between (P := l.prog) (w := w) (base := base) T A_is_between G_is_between F_are_between len_are_between rd_are_between
  have G_is_size := dv_is_size (P := l.prog) (w := w) (base := base) T A_is_between G_is_between F_is_size len_is_size rd_is_size
  have G_is_deck_value := dv_is_deck_value (P := l.prog) (w := w) (base := base) T A_are_between G_are_between F_is_deck_value len_is_deck_value rd_is_deck_value
  have G_is_order_value := dv_is_order_value (P := l.prog) (w := w) (base := base) T A_are_between G_are_between F_is_order_value len_is_order_value rd_is_order_value
  have G_is_lot_value := dv_is_lot_value (P := l.prog) (w := w) (base := base) T A_is_integer G_is_integer A_are_between G_are_between F_is_lot_value len_is_lot_value rd_is_lot_value
  have G_is_throw_value := dv_is_throw_value (P := l.prog) (w := w) (base := base) T A_is_lot_value G_is_lot_value F_is_throw_value len_is_throw_value rd_is_throw_value
  have G_need_size := dv_need_size (P := l.prog) (w := w) (base := base) T A_is_size G_is_size F_need_size len_need_size rd_need_size
  have G_need_deck := dv_need_deck (P := l.prog) (w := w) (base := base) T A_is_deck_value G_is_deck_value F_need_deck len_need_deck rd_need_deck
  have G_need_throw := dv_need_throw (P := l.prog) (w := w) (base := base) T A_is_throw_value G_is_throw_value F_need_throw len_need_throw rd_need_throw
  have G_need_order := dv_need_order (P := l.prog) (w := w) (base := base) T A_is_order_value G_is_order_value F_need_order len_need_order rd_need_order
  have G_need_number := dv_need_number (P := l.prog) (w := w) (base := base) T A_is_integer G_is_integer F_need_number len_need_number rd_need_number
  have G_is_deck := dv_is_deck (P := l.prog) (w := w) (base := base) T A_need_size G_need_size A_is_deck_value G_is_deck_value F_is_deck len_is_deck rd_is_deck
  have G_is_order := dv_is_order (P := l.prog) (w := w) (base := base) T A_need_number G_need_number A_is_order_value G_is_order_value F_is_order len_is_order rd_is_order
  have G_need_some_order := dv_need_some_order (P := l.prog) (w := w) (base := base) T A_is_order_value G_is_order_value F_need_some_order len_need_some_order rd_need_some_order
  have G_raw_laid := dv_raw_laid (P := l.prog) (w := w) (base := base) T F_raw_laid len_raw_laid rd_raw_laid
  have G_laid := dv_laid (P := l.prog) (w := w) (base := base) T A_need_deck G_need_deck A_need_order G_need_order A_raw_laid G_raw_laid F_laid len_laid rd_laid
  have G_together := dv_together (P := l.prog) (w := w) (base := base) T A_need_some_order G_need_some_order A_need_order G_need_order A_raw_laid G_raw_laid F_together len_together rd_together
  have G_undone_order := dv_undone_order (P := l.prog) (w := w) (base := base) T A_need_some_order G_need_some_order F_undone_order len_undone_order rd_undone_order
  have G_opposite := dv_opposite (P := l.prog) (w := w) (base := base) T A_need_some_order G_need_some_order F_opposite len_opposite rd_opposite
  have G_counts_of := dv_counts_of (P := l.prog) (w := w) (base := base) T A_need_size G_need_size A_need_deck G_need_deck F_counts_of len_counts_of rd_counts_of
  have G_raw_size := dv_raw_size (P := l.prog) (w := w) (base := base) T F_raw_size len_raw_size rd_raw_size
  have G_raw_order := dv_raw_order (P := l.prog) (w := w) (base := base) T F_raw_order len_raw_order rd_raw_order
  have G_order_after := dv_order_after (P := l.prog) (w := w) (base := base) T A_need_throw G_need_throw A_need_deck G_need_deck A_raw_size G_raw_size A_raw_order G_raw_order F_order_after len_order_after rd_order_after
  have G_deck_after := dv_deck_after (P := l.prog) (w := w) (base := base) T A_need_throw G_need_throw A_need_deck G_need_deck A_raw_size G_raw_size A_raw_laid G_raw_laid A_raw_order G_raw_order F_deck_after len_deck_after rd_deck_after
  have G__law_pick := dv__law_pick (P := l.prog) (w := w) (base := base) T A__law_draw G__law_draw F__law_pick len__law_pick rd__law_pick
  have G__law_cards := dv__law_cards (P := l.prog) (w := w) (base := base) T A__law_draw G__law_draw F__law_cards len__law_cards rd__law_cards
  have G__law_order := dv__law_order (P := l.prog) (w := w) (base := base) T A__law_draw G__law_draw F__law_order len__law_order rd__law_order
  have G__law_throw := dv__law_throw (P := l.prog) (w := w) (base := base) T A__law_draw G__law_draw A__law_order G__law_order A__law_pick G__law_pick F__law_throw len__law_throw rd__law_throw
  have G__law_after := dv__law_after (P := l.prog) (w := w) (base := base) T F__law_after len__law_after rd__law_after
  have G__law_laid := dv__law_laid (P := l.prog) (w := w) (base := base) T F__law_laid len__law_laid rd__law_laid
  have G__law_together := dv__law_together (P := l.prog) (w := w) (base := base) T F__law_together len__law_together rd__law_together
  have G__law_undone := dv__law_undone (P := l.prog) (w := w) (base := base) T F__law_undone len__law_undone rd__law_undone
  have G__law_are_orders_right := dv__law_are_orders_right (P := l.prog) (w := w) (base := base) T A__law_together G__law_together A__law_laid G__law_laid A_laid G_laid A_together G_together A__law_undone G__law_undone A_undone_order G_undone_order A_opposite G_opposite A_is_order G_is_order F__law_are_orders_right len__law_are_orders_right rd__law_are_orders_right
  have G__law_are_throws_right := dv__law_are_throws_right (P := l.prog) (w := w) (base := base) T A_order_after G_order_after A_deck_after G_deck_after A__law_after G__law_after A__law_laid G__law_laid A_laid G_laid A_together G_together A_counts_of G_counts_of A_is_deck G_is_deck A_undone_order G_undone_order F__law_are_throws_right len__law_are_throws_right rd__law_are_throws_right
  exact dv_law T A__law_deck G__law_deck A__law_draw G__law_draw A__law_cards G__law_cards A__law_pick G__law_pick A__law_order G__law_order A__law_are_orders_right G__law_are_orders_right A_counts_of G_counts_of A__law_are_throws_right G__law_are_throws_right A__law_throw G__law_throw F_law rd_law
end T01
end P28
open PySem PySem.W PyProof.Rows
set_option maxRecDepth 100000 in
set_option maxHeartbeats 0 in
theorem PySem.Challenge.cw_lotthrows_k01_whole_decks_laid_and_order_holds : PySem.Challenge.rw_lotthrows_k01_whole_decks_laid_and_order.Holds := by
  w_on; o_law; k_head; (case hw => w_witness2)
  k_fill
  refine Q.walk_ofG (l := PySem.Challenge.rw_lotthrows_k01_whole_decks_laid_and_order) (k := 9) (x := "_law_script") rfl rfl ⟨rfl, by decide, by decide⟩ (fun w h Y => PySem.W.kIn_of Y) ?F
  case F =>
    intro w mg fa h KX G hmg
    refine' T01.all_mk KX G hmg ?a0 ?l0 ?c0 ?k0 ?a1 ?l1 ?c1 ?k1 ?a2 ?l2 ?c2 ?k2 ?a3 ?l3 ?c3 ?k3 ?a4 ?l4 ?c4 ?k4 ?a5 ?l5 ?c5 ?k5 ?a6 ?l6 ?c6 ?k6 ?a7 ?l7 ?c7 ?k7 ?a8 ?l8 ?c8 ?k8 ?a9 ?l9 ?c9 ?k9 ?a10 ?l10 ?c10 ?k10 ?a11 ?l11 ?c11 ?k11 ?a12 ?l12 ?c12 ?k12 ?a13 ?l13 ?c13 ?k13 ?a14 ?l14 ?c14 ?k14 ?a15 ?l15 ?c15 ?k15 ?a16 ?l16 ?c16 ?k16 ?a17 ?l17 ?c17 ?k17 ?a18 ?l18 ?c18 ?k18 ?a19 ?l19 ?c19 ?k19 ?a20 ?l20 ?c20 ?k20 ?a21 ?l21 ?c21 ?k21 ?a22 ?l22 ?c22 ?k22 ?a23 ?l23 ?c23 ?k23 ?a24 ?l24 ?c24 ?k24 ?a25 ?l25 ?c25 ?k25 ?a26 ?l26 ?c26 ?k26 ?a27 ?l27 ?c27 ?k27 ?a28 ?l28 ?c28 ?k28 ?a29 ?l29 ?c29 ?k29 ?a30 ?l30 ?c30 ?k30 ?a31 ?l31 ?c31 ?k31 ?a32 ?l32 ?c32 ?k32 ?a33 ?l33 ?c33 ?k33 ?a34 ?l34 ?c34 ?k34 ?a35 ?l35 ?c35 ?k35 ?a36 ?l36 ?c36 ?k36 ?a37 ?l37 ?c37 ?k37 ?a38 ?l38 ?c38 ?k38 ?z_len ?z_tuple ?z_list ?z_range ?z_all ?z_sum ?z_max ?z_int ?z_sorted ?z_isinstance ?z_repr ?z_enumerate ?z_set ?z_bool ?z_MOST_SIZE ?z_MOST_CARDS
    (case a0 => k_is)
    (case l0 => k_is)
    (case c0 => k_is)
    (case k0 => k_is)
    (case a1 => k_is)
    (case l1 => k_is)
    (case c1 => k_is)
    (case k1 => k_is)
    (case a2 => k_is)
    (case l2 => k_is)
    (case c2 => k_is)
    (case k2 => k_is)
    (case a3 => k_is)
    (case l3 => k_is)
    (case c3 => k_is)
    (case k3 => k_is)
    (case a4 => k_is)
    (case l4 => k_is)
    (case c4 => k_is)
    (case k4 => k_is)
    (case a5 => k_is)
    (case l5 => k_is)
    (case c5 => k_is)
    (case k5 => k_is)
    (case a6 => k_is)
    (case l6 => k_is)
    (case c6 => k_is)
    (case k6 => k_is)
    (case a7 => k_is)
    (case l7 => k_is)
    (case c7 => k_is)
    (case k7 => k_is)
    (case a8 => k_is)
    (case l8 => k_is)
    (case c8 => k_is)
    (case k8 => k_is)
    (case a9 => k_is)
    (case l9 => k_is)
    (case c9 => k_is)
    (case k9 => k_is)
    (case a10 => k_is)
    (case l10 => k_is)
    (case c10 => k_is)
    (case k10 => k_is)
    (case a11 => k_is)
    (case l11 => k_is)
    (case c11 => k_is)
    (case k11 => k_is)
    (case a12 => k_is)
    (case l12 => k_is)
    (case c12 => k_is)
    (case k12 => k_is)
    (case a13 => k_is)
    (case l13 => k_is)
    (case c13 => k_is)
    (case k13 => k_is)
    (case a14 => k_is)
    (case l14 => k_is)
    (case c14 => k_is)
    (case k14 => k_is)
    (case a15 => k_is)
    (case l15 => k_is)
    (case c15 => k_is)
    (case k15 => k_is)
    (case a16 => k_is)
    (case l16 => k_is)
    (case c16 => k_is)
    (case k16 => k_is)
    (case a17 => k_is)
    (case l17 => k_is)
    (case c17 => k_is)
    (case k17 => k_is)
    (case a18 => k_is)
    (case l18 => k_is)
    (case c18 => k_is)
    (case k18 => k_is)
    (case a19 => k_is)
    (case l19 => k_is)
    (case c19 => k_is)
    (case k19 => k_is)
    (case a20 => k_is)
    (case l20 => k_is)
    (case c20 => k_is)
    (case k20 => k_is)
    (case a21 => k_is)
    (case l21 => k_is)
    (case c21 => k_is)
    (case k21 => k_is)
    (case a22 => k_is)
    (case l22 => k_is)
    (case c22 => k_is)
    (case k22 => k_is)
    (case a23 => k_is)
    (case l23 => k_is)
    (case c23 => k_is)
    (case k23 => k_is)
    (case a24 => k_is)
    (case l24 => k_is)
    (case c24 => k_is)
    (case k24 => k_is)
    (case a25 => k_is)
    (case l25 => k_is)
    (case c25 => k_is)
    (case k25 => k_is)
    (case a26 => k_is)
    (case l26 => k_is)
    (case c26 => k_is)
    (case k26 => k_is)
    (case a27 => k_is)
    (case l27 => k_is)
    (case c27 => k_is)
    (case k27 => k_is)
    (case a28 => k_is)
    (case l28 => k_is)
    (case c28 => k_is)
    (case k28 => k_is)
    (case a29 => k_is)
    (case l29 => k_is)
    (case c29 => k_is)
    (case k29 => k_is)
    (case a30 => k_is)
    (case l30 => k_is)
    (case c30 => k_is)
    (case k30 => k_is)
    (case a31 => k_is)
    (case l31 => k_is)
    (case c31 => k_is)
    (case k31 => k_is)
    (case a32 => k_is)
    (case l32 => k_is)
    (case c32 => k_is)
    (case k32 => k_is)
    (case a33 => k_is)
    (case l33 => k_is)
    (case c33 => k_is)
    (case k33 => k_is)
    (case a34 => k_is)
    (case l34 => k_is)
    (case c34 => k_is)
    (case k34 => k_is)
    (case a35 => k_is)
    (case l35 => k_is)
    (case c35 => k_is)
    (case k35 => k_is)
    (case a36 => k_is)
    (case l36 => k_is)
    (case c36 => k_is)
    (case k36 => k_is)
    (case a37 => k_is)
    (case l37 => k_is)
    (case c37 => k_is)
    (case k37 => k_is)
    (case a38 => k_is)
    (case l38 => k_is)
    (case c38 => k_is)
    (case k38 => k_is)
    (case z_len => k_is)
    (case z_tuple => k_is)
    (case z_list => k_is)
    (case z_range => k_is)
    (case z_all => k_is)
    (case z_sum => k_is)
    (case z_max => k_is)
    (case z_int => k_is)
    (case z_sorted => k_is)
    (case z_isinstance => k_is)
    (case z_repr => k_is)
    (case z_enumerate => k_is)
    (case z_set => k_is)
    (case z_bool => k_is)
    (case z_MOST_SIZE => k_is)
    (case z_MOST_CARDS => k_is)

