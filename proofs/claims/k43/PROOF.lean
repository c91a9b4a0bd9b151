import PyProof.Rows.All
import Wide.All
import OpenK.AllK
import Wide.FinOn
import HandS.ForMost
import HandS.Flow
import HandS.Walk
import HandS.Style
import HandS.TupAny
import HandS.TupMul
import HandS.Conv
import HandS.IsInst
import HandS.Zip
import HandS.SetFor
import KE.GoesMore
import KE.BitLaws
import KE.KStrBytes
import PySem.Challenge.RW_lotthrows_k43_whole_codes_in_their_row
set_option Elab.async false
set_option linter.all false
set_option maxRecDepth 100000
set_option maxHeartbeats 4000000
section P1
namespace Q
open PySem PySem.Spec PyProof.Rows L2

/-! ### data in the heap, frozen -/
mutual
inductive Fz (K : PySem.W.Frag) (H : Hp) : V → PyData → Prop
  | non : Fz K H .non .none
  | bl (b : Bool) : Fz K H (.bl b) (.bool b)
  | int (i : Int) : Fz K H (.int i) (.int i)
  | str (x : Str) : Fz K H (.str x) (.str x)
  | lst {a : Addr} {o : Obj} {xs : List V} {ds : List PyData} : H a = some (.frz o (.lst xs)) → FzAll K H xs ds → Fz K H (.ref a) (.list ds)
  | tup {a : Addr} {xs : List V} {ds : List PyData} : SqT K H a xs → FzAll K H xs ds → Fz K H (.ref a) (.tuple ds)
inductive FzAll (K : PySem.W.Frag) (H : Hp) : List V → List PyData → Prop
  | nil : FzAll K H [] []
  | cons {v : V} {d : PyData} {vs : List V} {ds : List PyData} : Fz K H v d → FzAll K H vs ds → FzAll K H (v :: vs) (d :: ds)
end

/-- what is frozen stays -/
structure Ex (H H' : Hp) : Prop where
  tup : ∀ a xs, H a = some (.tup xs) → H' a = some (.tup xs)
  frz : ∀ a o u, H a = some (.frz o u) → H' a = some (.frz o u)
theorem Ex.refl (H : Hp) : Ex H H := ⟨fun _ _ h => h, fun _ _ _ h => h⟩
theorem Ex.trans {H H1 H2 : Hp} (a : Ex H H1) (b : Ex H1 H2) : Ex H H2 := ⟨fun c xs h => b.tup c xs (a.tup c xs h), fun c o u h => b.frz c o u (a.frz c o u h)⟩
theorem Ex.sqT {K : PySem.W.Frag} {H H' : Hp} {a : Addr} {xs : List V} (e : Ex H H') (h : SqT K H a xs) : SqT K H' a xs := by
  rcases h with (h | ⟨o, h⟩) | h
  · exact .inl (.inl (e.tup _ _ h))
  · exact .inl (.inr ⟨o, e.frz _ _ _ h⟩)
  · exact .inr h
mutual
theorem Fz.mono {K : PySem.W.Frag} {H H' : Hp} (e : Ex H H') : ∀ {v : V} {d : PyData}, Fz K H v d → Fz K H' v d
  | _, _, .non => .non
  | _, _, .bl b => .bl b
  | _, _, .int b => .int b
  | _, _, .str b => .str b
  | _, _, .lst h t => .lst (e.frz _ _ _ h) (FzAll.mono e t)
  | _, _, .tup h t => .tup (e.sqT h) (FzAll.mono e t)
theorem FzAll.mono {K : PySem.W.Frag} {H H' : Hp} (e : Ex H H') : ∀ {v : List V} {d : List PyData}, FzAll K H v d → FzAll K H' v d
  | _, _, .nil => .nil
  | _, _, .cons a b => .cons (Fz.mono e a) (FzAll.mono e b)
end
mutual
theorem Fz.dp {K : PySem.W.Frag} {H : Hp} : ∀ {v : V} {d : PyData}, Fz K H v d → Dp K H v d
  | _, _, .non => .non
  | _, _, .bl b => .bl b
  | _, _, .int b => .int b
  | _, _, .str b => .str b
  | _, _, .lst h t => .lst (.inl (.inr ⟨_, h⟩)) (FzAll.dp t)
  | _, _, .tup h t => .tup h (FzAll.dp t)
theorem FzAll.dp {K : PySem.W.Frag} {H : Hp} : ∀ {v : List V} {d : List PyData}, FzAll K H v d → DpAll K H v d
  | _, _, .nil => .nil
  | _, _, .cons a b => .cons (Fz.dp a) (FzAll.dp b)
end
section
variable {K : PySem.W.Frag} {H : Hp}
theorem FzAll.length : ∀ {vs : List V} {ds : List PyData}, FzAll K H vs ds → vs.length = ds.length
  | _, _, .nil => rfl
  | _, _, .cons _ t => by rw [List.length_cons, List.length_cons, FzAll.length t]
theorem FzAll.at : ∀ {vs : List V} {ds : List PyData} {i : Nat} {d : PyData}, FzAll K H vs ds → ds[i]? = some d → ∃ v, vs[i]? = some v ∧ Fz K H v d
  | _, _, _, _, .nil, e => by simp at e
  | _, _, 0, _, .cons r _, e => by simp at e; subst e; exact ⟨_, rfl, r⟩
  | _, _, i + 1, _, .cons _ t, e => by
    obtain ⟨u, h1, h2⟩ := FzAll.at (i := i) t (by simpa using e)
    exact ⟨u, by simpa using h1, h2⟩
theorem FzAll.get : ∀ {vs : List V} {ds : List PyData} {i : Nat} {v : V}, FzAll K H vs ds → vs[i]? = some v → ∃ d, ds[i]? = some d ∧ Fz K H v d
  | _, _, _, _, .nil, e => by simp at e
  | _, _, 0, _, .cons r _, e => by simp at e; subst e; exact ⟨_, rfl, r⟩
  | _, _, i + 1, _, .cons _ t, e => by
    obtain ⟨u, h1, h2⟩ := FzAll.get (i := i) t (by simpa using e)
    exact ⟨u, by simpa using h1, h2⟩
theorem FzAll.append : ∀ {vs ws : List V} {ds es : List PyData}, FzAll K H vs ds → FzAll K H ws es → FzAll K H (vs ++ ws) (ds ++ es)
  | _, _, _, _, .nil, s => s
  | _, _, _, _, .cons r t, s => .cons r (FzAll.append t s)
theorem FzAll.one {v : V} {d : PyData} (h : Fz K H v d) : FzAll K H [v] [d] := .cons h .nil
theorem FzAll.take : ∀ {vs : List V} {ds : List PyData} (n : Nat), FzAll K H vs ds → FzAll K H (vs.take n) (ds.take n)
  | _, _, 0, _ => .nil
  | _, _, _ + 1, .nil => .nil
  | _, _, n + 1, .cons r t => .cons r (FzAll.take n t)
theorem FzAll.drop : ∀ {vs : List V} {ds : List PyData} (n : Nat), FzAll K H vs ds → FzAll K H (vs.drop n) (ds.drop n)
  | _, _, 0, t => t
  | _, _, _ + 1, .nil => .nil
  | _, _, n + 1, .cons _ t => FzAll.drop n t
theorem FzAll.set {v : V} {d : PyData} (h : Fz K H v d) : ∀ {vs : List V} {ds : List PyData} (n : Nat), FzAll K H vs ds → FzAll K H (vs.set n v) (ds.set n d)
  | _, _, _, .nil => .nil
  | _, _, 0, .cons _ t => .cons h t
  | _, _, n + 1, .cons r t => .cons r (FzAll.set h n t)
theorem FzAll.erase : ∀ {vs : List V} {ds : List PyData} (n : Nat), FzAll K H vs ds → FzAll K H (vs.eraseIdx n) (ds.eraseIdx n)
  | _, _, _, .nil => .nil
  | _, _, 0, .cons _ t => t
  | _, _, n + 1, .cons r t => .cons r (FzAll.erase n t)
theorem FzAll.reverse {vs : List V} {ds : List PyData} (h : FzAll K H vs ds) : FzAll K H vs.reverse ds.reverse := by
  induction vs generalizing ds with
  | nil => cases h; exact .nil
  | cons v vs ih =>
    cases h with
    | cons a b => rw [List.reverse_cons, List.reverse_cons]; exact (ih b).append (.one a)
theorem FzAll.rep {vs : List V} {ds : List PyData} (h : FzAll K H vs ds) : ∀ k : Nat, FzAll K H (List.replicate k vs).flatten (List.replicate k ds).flatten
  | 0 => .nil
  | k + 1 => by rw [List.replicate_succ, List.replicate_succ, List.flatten_cons, List.flatten_cons]; exact h.append (FzAll.rep h k)
/-- a list of ints -/
theorem FzAll.ints : ∀ {vs : List V} {ns : List Int}, FzAll K H vs (ns.map .int) → vs = ns.map .int
  | vs, [], h => by cases h; rfl
  | vs, n :: ns, h => by
    cases h with
    | cons a b => cases a; rw [FzAll.ints b]; rfl
theorem FzAll.of_ints : ∀ (ns : List Int), FzAll K H (ns.map .int) (ns.map .int)
  | [] => .nil
  | n :: ns => .cons (.int n) (FzAll.of_ints ns)
theorem FzAll.bls : ∀ {vs : List V} {ns : List Bool}, FzAll K H vs (ns.map .bool) → vs = ns.map .bl
  | vs, [], h => by cases h; rfl
  | vs, n :: ns, h => by
    cases h with
    | cons a b => cases a; rw [FzAll.bls b]; rfl
theorem FzAll.strs : ∀ {vs : List V} {ns : List Str}, FzAll K H vs (ns.map .str) → vs = ns.map .str
  | vs, [], h => by cases h; rfl
  | vs, n :: ns, h => by
    cases h with
    | cons a b => cases a; rw [FzAll.strs b]; rfl
end

/-! ### slots -/
inductive Sl where
  | un
  | d (x : PyData)
  | own (xs : List PyData)
  | owd (kvs : List (Key × PyData))
  | dk
def Sl.isOwn : Sl → Bool
  | .own _ => true
  | .owd _ => true
  | _ => false
inductive FzKV (K : PySem.W.Frag) (H : Hp) : List (Key × V) → List (Key × PyData) → Prop
  | nil : FzKV K H [] []
  | cons {k : Key} {v : V} {d : PyData} {vs : List (Key × V)} {ds : List (Key × PyData)} : Fz K H v d → FzKV K H vs ds → FzKV K H ((k, v) :: vs) ((k, d) :: ds)
theorem FzKV.mono {K : PySem.W.Frag} {H H' : Hp} (e : Ex H H') : ∀ {v : List (Key × V)} {d : List (Key × PyData)}, FzKV K H v d → FzKV K H' v d
  | _, _, .nil => .nil
  | _, _, .cons a b => .cons (Fz.mono e a) (FzKV.mono e b)

/-- the deck of draws at d, its cells at c -/
def DkOk (H : Hp) (d c : Addr) : Prop := d ≠ c ∧ ∃ (cells : List Int) (m n : Int),
  H d = some (.dK [(.inr "cells", .ref c), (.inr "mixed", .int m), (.inr "turn", .int n)]) ∧ H c = some (.lst (cells.map .int)) ∧ cells.length ≤ 63

abbrev Dk := Addr × Addr
def SlOk (K : PySem.W.Frag) (dk : Dk) (H0 H : Hp) (sv : Option (Option V)) : Sl → Prop
  | .un => True
  | .d x => ∃ v, sv = some (some v) ∧ Fz K H v x
  | .own xs => ∃ a vs, sv = some (some (.ref a)) ∧ H a = some (.lst vs) ∧ FzAll K H vs xs ∧ H0 a = none
  | .owd kvs => ∃ a ws, sv = some (some (.ref a)) ∧ H a = some (.dK ws) ∧ FzKV K H ws kvs ∧ H0 a = none
  | .dk => sv = some (some (.ref dk.1))
abbrev En := List Sl
def OwnAt (ρ : En) (σ : L2.St) (i : Nat) (a : Addr) : Prop := ∃ s, ρ[i]? = some s ∧ s.isOwn = true ∧ σ[i]? = some (some (.ref a))
structure Rel (K : PySem.W.Frag) (dk : Dk) (H0 : Hp) (ρ : En) (σ : L2.St) (H : Hp) : Prop where
  len : ρ.length = σ.length
  sl : ∀ (i : Nat) (s : Sl), ρ[i]? = some s → SlOk K dk H0 H σ[i]? s
  ap : ∀ (i j : Nat) (a : Addr), OwnAt ρ σ i a → OwnAt ρ σ j a → i = j
  dok : DkOk H dk.1 dk.2
  dk1 : H0 dk.1 ≠ none
  dk2 : H0 dk.2 ≠ none
  keep : ∀ a o, H0 a = some o → a ≠ dk.1 → a ≠ dk.2 → H a = some o
/-- what a call may do: all but the deck stays -/
structure Step (dk : Dk) (H H' : Hp) : Prop where
  keep : ∀ a o, H a = some o → a ≠ dk.1 → a ≠ dk.2 → H' a = some o
  dok : DkOk H' dk.1 dk.2
section
variable {K : PySem.W.Frag} {dk : Dk} {H0 H H' : Hp} {ρ : En} {σ : L2.St}
theorem DkOk.same (h : DkOk H dk.1 dk.2) (s : Same H H') : DkOk H' dk.1 dk.2 := by
  obtain ⟨n, cs, m, k, h1, h2, h3⟩ := h
  exact ⟨n, cs, m, k, s _ _ h1, s _ _ h2, h3⟩
theorem Step.ex (h : DkOk H dk.1 dk.2) (s : Step dk H H') : Ex H H' := by
  obtain ⟨n, cs, m, k, h1, h2, h3⟩ := h
  refine ⟨fun a xs e => s.keep a _ e ?_ ?_, fun a o u e => s.keep a _ e ?_ ?_⟩
  · rintro rfl; rw [h1] at e; cases e
  · rintro rfl; rw [h2] at e; cases e
  · rintro rfl; rw [h1] at e; cases e
  · rintro rfl; rw [h2] at e; cases e
theorem Step.of_same (h : DkOk H dk.1 dk.2) (s : Same H H') : Step dk H H' := ⟨fun a o e _ _ => s a o e, h.same s⟩
theorem same_upd {p : Addr} {o : HO} (n : H p = none) : Same H (upd H p o) := fun b u e => by rw [upd_ne (ne_of_none e n)]; exact e
theorem ex_same (s : Same H H') : Ex H H' := ⟨fun a xs e => s _ _ e, fun a o u e => s _ _ e⟩
theorem Rel.step (r : Rel K dk H0 ρ σ H) (s : Step dk H H') : Rel K dk H0 ρ σ H' := by
  have ex := s.ex r.dok
  refine ⟨r.len, fun i t e => ?_, r.ap, s.dok, r.dk1, r.dk2, fun a o e h1 h2 => s.keep a o (r.keep a o e h1 h2) h1 h2⟩
  have q := r.sl i t e
  cases t with
  | un => exact True.intro
  | d x => obtain ⟨v, h1, h2⟩ := q; exact ⟨v, h1, h2.mono ex⟩
  | own xs =>
    obtain ⟨a, vs, h1, h2, h3, h4⟩ := q
    exact ⟨a, vs, h1, s.keep _ _ h2 (fun z => r.dk1 (by rw [← z]; exact h4)) (fun z => r.dk2 (by rw [← z]; exact h4)), h3.mono ex, h4⟩
  | owd kvs =>
    obtain ⟨a, vs, h1, h2, h3, h4⟩ := q
    exact ⟨a, vs, h1, s.keep _ _ h2 (fun z => r.dk1 (by rw [← z]; exact h4)) (fun z => r.dk2 (by rw [← z]; exact h4)), h3.mono ex, h4⟩
  | dk => exact q
theorem Rel.same (r : Rel K dk H0 ρ σ H) (s : Same H H') : Rel K dk H0 ρ σ H' := r.step (.of_same r.dok s)
/-- a new object is no one's -/
theorem Rel.fresh0 (r : Rel K dk H0 ρ σ H) {p : Addr} (n : H p = none) : H0 p = none := by
  cases q : H0 p with
  | none => rfl
  | some o =>
    exfalso
    obtain ⟨ne, cs, m, k, h1, h2, h3⟩ := r.dok
    by_cases e1 : p = dk.1
    · rw [e1, h1] at n; cases n
    · by_cases e2 : p = dk.2
      · rw [e2, h2] at n; cases n
      · rw [r.keep p o q e1 e2] at n; cases n
theorem Rel.freshOwn (r : Rel K dk H0 ρ σ H) {p : Addr} (n : H p = none) : ∀ j, ¬ OwnAt ρ σ j p := by
  rintro j ⟨s, h1, h2, h3⟩
  have q := r.sl j s h1
  cases s with
  | own xs => obtain ⟨a, vs, e1, e2, _⟩ := q; rw [h3] at e1; cases e1; rw [n] at e2; cases e2
  | owd xs => obtain ⟨a, vs, e1, e2, _⟩ := q; rw [h3] at e1; cases e1; rw [n] at e2; cases e2
  | _ => cases h2
theorem SlOk.ex {s : Sl} {sv : Option (Option V)} (ex : Ex H H') (h : SlOk K dk H0 H sv s) (k : ∀ a o, s.isOwn = true → sv = some (some (.ref a)) → H a = some o → H' a = some o) : SlOk K dk H0 H' sv s := by
  cases s with
  | un => exact True.intro
  | d x => obtain ⟨v, h1, h2⟩ := h; exact ⟨v, h1, h2.mono ex⟩
  | own xs => obtain ⟨a, vs, h1, h2, h3, h4⟩ := h; exact ⟨a, vs, h1, k a _ rfl h1 h2, h3.mono ex, h4⟩
  | owd xs => obtain ⟨a, vs, h1, h2, h3, h4⟩ := h; exact ⟨a, vs, h1, k a _ rfl h1 h2, h3.mono ex, h4⟩
  | dk => exact h
theorem ex_own {a : Addr} {o u : HO} (h : H a = some u) (hu : (∃ vs, u = .lst vs) ∨ ∃ vs, u = .dK vs) : Ex H (upd H a o) := by
  refine ⟨fun b xs e => ?_, fun b ob x e => ?_⟩
  · rw [upd_ne]; exact e
    rintro rfl; rw [h] at e
    rcases hu with ⟨vs, rfl⟩ | ⟨vs, rfl⟩ <;> cases e
  · rw [upd_ne]; exact e
    rintro rfl; rw [h] at e
    rcases hu with ⟨vs, rfl⟩ | ⟨vs, rfl⟩ <;> cases e
/-- the owned thing of slot i is changed in place -/
theorem Rel.put (r : Rel K dk H0 ρ σ H) {i : Nat} {a : Addr} (ow : OwnAt ρ σ i a) (o : HO) (s' : Sl) (ok : Ex H (upd H a o) → SlOk K dk H0 (upd H a o) σ[i]? s') :
    Rel K dk H0 (ρ.set i s') σ (upd H a o) ∧ Ex H (upd H a o) := by
  obtain ⟨s, h1, h2, h3⟩ := id ow
  have q := r.sl i s h1
  have hh : (∃ u, H a = some u ∧ ((∃ vs, u = .lst vs) ∨ ∃ vs, u = .dK vs)) ∧ H0 a = none := by
    cases s with
    | own xs => obtain ⟨b, vs, e1, e2, e3, e4⟩ := q; rw [h3] at e1; cases e1; exact ⟨⟨_, e2, .inl ⟨_, rfl⟩⟩, e4⟩
    | owd xs => obtain ⟨b, vs, e1, e2, e3, e4⟩ := q; rw [h3] at e1; cases e1; exact ⟨⟨_, e2, .inr ⟨_, rfl⟩⟩, e4⟩
    | _ => cases h2
  obtain ⟨⟨u, hu, hc⟩, h0⟩ := hh
  have ex : Ex H (upd H a o) := ex_own hu hc
  have il : i < ρ.length := (List.getElem?_eq_some_iff.mp h1).1
  refine ⟨⟨by rw [List.length_set]; exact r.len, fun j t e => ?_, fun j k b h4 h5 => ?_, ?_, r.dk1, r.dk2, fun b ob e n1 n2 => ?_⟩, ex⟩
  · by_cases hj : i = j
    · subst hj
      rw [List.getElem?_set_self il] at e
      cases e
      exact ok ex
    · rw [List.getElem?_set_ne hj] at e
      refine (r.sl j t e).ex ex fun b ob w1 w2 w3 => ?_
      rw [upd_ne]; exact w3
      rintro rfl
      exact hj (r.ap i j _ ow ⟨t, e, w1, w2⟩)
  · have back : ∀ {j b}, OwnAt (ρ.set i s') σ j b → OwnAt ρ σ j b := by
      rintro j b ⟨t, e, w1, w2⟩
      by_cases hj : i = j
      · subst hj
        rw [h3] at w2; cases w2
        exact ow
      · rw [List.getElem?_set_ne hj] at e
        exact ⟨t, e, w1, w2⟩
    exact r.ap j k b (back h4) (back h5)
  · obtain ⟨n, cs, m, k, g1, g2, g3⟩ := r.dok
    refine ⟨n, cs, m, k, ?_, ?_, g3⟩
    · rw [upd_ne]; exact g1
      intro z; exact r.dk1 (by rw [z]; exact h0)
    · rw [upd_ne]; exact g2
      intro z; exact r.dk2 (by rw [z]; exact h0)
  · rw [upd_ne]; exact r.keep b ob e n1 n2
    rintro rfl; rw [h0] at e; cases e
/-- a value is stored -/
theorem Rel.set (r : Rel K dk H0 ρ σ H) {i : Nat} {v : V} {s : Sl} (ok : SlOk K dk H0 H (some (some v)) s) (ap : ∀ a, s.isOwn = true → v = .ref a → ∀ j, ¬ OwnAt ρ σ j a) :
    Rel K dk H0 (ρ.set i s) (σ.set i (some v)) H := by
  refine ⟨by rw [List.length_set, List.length_set]; exact r.len, fun j t e => ?_, fun j k b h4 h5 => ?_, r.dok, r.dk1, r.dk2, r.keep⟩
  · by_cases hj : i = j
    · subst hj
      have il : i < (ρ.set i s).length := (List.getElem?_eq_some_iff.mp e).1
      rw [List.length_set] at il
      rw [List.getElem?_set_self il] at e
      cases e
      rw [List.getElem?_set_self (by rw [← r.len]; exact il)]
      exact ok
    · rw [List.getElem?_set_ne hj] at e
      rw [List.getElem?_set_ne hj]
      exact r.sl j t e
  · have cas : ∀ {j b}, OwnAt (ρ.set i s) (σ.set i (some v)) j b → (j = i ∧ s.isOwn = true ∧ v = .ref b) ∨ (j ≠ i ∧ OwnAt ρ σ j b) := by
      rintro j b ⟨t, e, w1, w2⟩
      by_cases hj : i = j
      · subst hj
        have il : i < (ρ.set i s).length := (List.getElem?_eq_some_iff.mp e).1
        rw [List.length_set] at il
        rw [List.getElem?_set_self il] at e
        rw [List.getElem?_set_self (by rw [← r.len]; exact il)] at w2
        cases e
        exact .inl ⟨rfl, w1, Option.some.inj (Option.some.inj w2)⟩
      · rw [List.getElem?_set_ne hj] at e w2
        exact .inr ⟨fun z => hj z.symm, t, e, w1, w2⟩
    rcases cas h4 with ⟨e1, e2, e3⟩ | ⟨e1, e2⟩
    · rcases cas h5 with ⟨f1, f2, f3⟩ | ⟨f1, f2⟩
      · rw [e1, f1]
      · exact absurd f2 (ap b e2 e3 k)
    · rcases cas h5 with ⟨f1, f2, f3⟩ | ⟨f1, f2⟩
      · exact absurd e2 (ap b f2 f3 j)
      · exact r.ap j k b e2 f2
end

/-! ### judgements -/
abbrev TQ := En → (PyData → En → Prop) → Prop
abbrev TQB := En → (Bool → En → Prop) → Prop
abbrev TQL := En → (List PyData → En → Prop) → Prop
def up (K : PySem.W.Frag) (dk : Dk) (H0 : Hp) (t : TQ) : TE := fun σ H Q => ∃ ρ R, Rel K dk H0 ρ σ H ∧ t ρ R ∧ ∀ x ρ' v H', R x ρ' → Fz K H' v x → Rel K dk H0 ρ' σ H' → Ex H H' → Q v H'
def upB (K : PySem.W.Frag) (dk : Dk) (H0 : Hp) (t : TQB) : TT := fun σ H Q => ∃ ρ R, Rel K dk H0 ρ σ H ∧ t ρ R ∧ ∀ b ρ' H', R b ρ' → Rel K dk H0 ρ' σ H' → Ex H H' → Q b H'
def upL (K : PySem.W.Frag) (dk : Dk) (H0 : Hp) (t : TQL) : TE := fun σ H Q => ∃ ρ R, Rel K dk H0 ρ σ H ∧ t ρ R ∧ ∀ xs ρ' p vs H', R xs ρ' → H' p = some (.lst vs) → FzAll K H' vs xs → H0 p = none → (∀ j, ¬ OwnAt ρ' σ j p) → Rel K dk H0 ρ' σ H' → Ex H H' → Q (.ref p) H'
/-- an argument list: data, or the deck -/
inductive Ar where
  | d (x : PyData)
  | dk
def ArOk (K : PySem.W.Frag) (dk : Dk) (H : Hp) (v : V) : Ar → Prop
  | .d x => Fz K H v x
  | .dk => v = .ref dk.1
inductive ArsOk (K : PySem.W.Frag) (dk : Dk) (H : Hp) : List V → List Ar → Prop
  | nil : ArsOk K dk H [] []
  | cons {v : V} {a : Ar} {vs : List V} {as : List Ar} : ArOk K dk H v a → ArsOk K dk H vs as → ArsOk K dk H (v :: vs) (a :: as)
abbrev TQA := En → (List Ar → En → Prop) → Prop
def upA (K : PySem.W.Frag) (dk : Dk) (H0 : Hp) (t : TQA) : TA := fun σ H Q => ∃ ρ R, Rel K dk H0 ρ σ H ∧ t ρ R ∧ ∀ xs ρ' vs H', R xs ρ' → ArsOk K dk H' vs xs → Rel K dk H0 ρ' σ H' → Ex H H' → Q vs H'
theorem ArsOk.mono {K : PySem.W.Frag} {dk : Dk} {H H' : Hp} (e : Ex H H') : ∀ {vs : List V} {as : List Ar}, ArsOk K dk H vs as → ArsOk K dk H' vs as
  | _, _, .nil => .nil
  | _, a :: as, .cons h t => .cons (by cases a with | d x => exact Fz.mono e h | dk => exact h) (ArsOk.mono e t)
theorem ArsOk.length {K : PySem.W.Frag} {dk : Dk} {H : Hp} : ∀ {vs : List V} {as : List Ar}, ArsOk K dk H vs as → vs.length = as.length
  | _, _, .nil => rfl
  | _, _, .cons _ t => by rw [List.length_cons, List.length_cons, ArsOk.length t]
structure EndsQ where
  nx : En → Prop
  rt : PyData → Prop
  bk : En → Prop := fun _ => False
  ct : En → Prop := fun _ => False
abbrev TQS := EndsQ → En → Prop
structure EndsOk (K : PySem.W.Frag) (dk : Dk) (H0 H : Hp) (R : EndsQ) (D : Ends) : Prop where
  nx : ∀ ρ' σ' H', R.nx ρ' → Rel K dk H0 ρ' σ' H' → Ex H H' → D.nx σ' H'
  rt : ∀ x v H', R.rt x → Fz K H' v x → Step dk H0 H' → D.rt v H'
  bk : ∀ ρ' σ' H', R.bk ρ' → Rel K dk H0 ρ' σ' H' → Ex H H' → D.bk σ' H'
  ct : ∀ ρ' σ' H', R.ct ρ' → Rel K dk H0 ρ' σ' H' → Ex H H' → D.ct σ' H'
def upS (K : PySem.W.Frag) (dk : Dk) (H0 : Hp) (t : TQS) : TS := fun D σ H => ∃ ρ R, Rel K dk H0 ρ σ H ∧ t R ρ ∧ EndsOk K dk H0 H R D
structure QE (X : Cx) (e : Expr) (t : TQ) : Prop where
  run : ∀ dk H0, PE X e (up X.K dk H0 t)
structure QL (X : Cx) (e : Expr) (t : TQL) : Prop where
  run : ∀ dk H0, PE X e (upL X.K dk H0 t)
structure QT (X : Cx) (e : Expr) (t : TQB) : Prop where
  run : ∀ dk H0, PT X e (upB X.K dk H0 t)
structure QW (X : Cx) (e : Expr) (t : TQB) : Prop where
  run : ∀ dk H0, PW X e (upB X.K dk H0 t)
structure QA (X : Cx) (es : List Expr) (t : TQA) : Prop where
  run : ∀ dk H0, PA X es (upA X.K dk H0 t)
structure QS (X : Cx) (st : Stmt) (t : TQS) : Prop where
  run : ∀ dk H0, PS X st (upS X.K dk H0 t)
structure QSs (X : Cx) (st : List Stmt) (t : TQS) : Prop where
  run : ∀ dk H0, PSs X st (upS X.K dk H0 t)
/-- weaker readings -/
theorem PE.imp {X : Cx} {e : Expr} {t t' : TE} (h : PE X e t) (w : ∀ σ H Q, t' σ H Q → t σ H Q) : PE X e t' := ⟨fun pins s σ H Q I q => h.run pins s σ H Q I (w _ _ _ q)⟩
theorem PT.imp {X : Cx} {e : Expr} {t t' : TT} (h : PT X e t) (w : ∀ σ H Q, t' σ H Q → t σ H Q) : PT X e t' := ⟨fun pins s σ H Q I q => h.run pins s σ H Q I (w _ _ _ q)⟩
theorem PW.imp {X : Cx} {e : Expr} {t t' : TT} (h : PW X e t) (w : ∀ σ H Q, t' σ H Q → t σ H Q) : PW X e t' := ⟨fun wh pins s σ H Q I q => h.run wh pins s σ H Q I (w _ _ _ q)⟩
theorem PA.imp {X : Cx} {e : List Expr} {t t' : TA} (h : PA X e t) (w : ∀ σ H Q, t' σ H Q → t σ H Q) : PA X e t' := ⟨fun pos pins s σ H Q I q => h.run pos pins s σ H Q I (w _ _ _ q)⟩
theorem PS.imp {X : Cx} {e : Stmt} {t t' : TS} (h : PS X e t) (w : ∀ D σ H, t' D σ H → t D σ H) : PS X e t' := ⟨fun pins s σ H Q I q => h.run pins s σ H Q I (w _ _ _ q)⟩
theorem PSs.imp {X : Cx} {e : List Stmt} {t t' : TS} (h : PSs X e t) (w : ∀ D σ H, t' D σ H → t D σ H) : PSs X e t' := ⟨fun pins s σ H Q I q => h.run pins s σ H Q I (w _ _ _ q)⟩
end Q
end P1
section P2
namespace Q
open PySem PySem.Spec PyProof.Rows L2
section
variable {X : Cx} {pos : Pos}

/-! ### names, constants -/
def tV (i : Nat) : TQ := fun ρ R => match ρ[i]? with
  | some (.d x) => R x ρ
  | some (.own xs) => R (.list xs) (ρ.set i (.d (.list xs)))
  | _ => False
theorem q_var {i : Nat} {x : Str} (hN : X.N[i]? = some x) (hv : Vis X.env.scope x) (hd : (x == ("__debug__" : Str)) = false := by decide) (hcd : (x == ("__classdict__" : Str)) = false := by decide) : QE X (.Name x pos) (tV i) := by
  refine ⟨fun dk H0 => ⟨fun pins s σ H Q I h => ?_⟩⟩
  obtain ⟨ρ, R, r, h, k⟩ := h
  unfold tV at h
  split at h
  · rename_i y e
    obtain ⟨v, h1, h2⟩ := r.sl i _ e
    exact (pe_var (X := X) (pos := pos) hN hv hd hcd).run pins s σ H Q I ⟨v, h1, k y ρ v H h h2 r (Ex.refl H)⟩
  · rename_i xs e
    obtain ⟨a, vs, h1, h2, h3, h4⟩ := r.sl i _ e
    obtain ⟨od, I1⟩ := I.lock h2 True.intro
    have ow : OwnAt ρ σ i a := ⟨_, e, rfl, h1⟩
    obtain ⟨r1, ex⟩ := r.put ow (.frz od (.lst vs)) (.d (.list xs)) fun ex => ⟨.ref a, h1, .lst upd_same (h3.mono ex)⟩
    exact (pe_var (X := X) (pos := pos) hN hv hd hcd).run pins s σ _ Q I1 ⟨.ref a, h1, k _ _ _ _ h (.lst upd_same (h3.mono ex)) r1 ex⟩
  · exact h.elim
theorem qv (i : Nat) {x : Str} (hN : X.N[i]? = some x := by rfl) (hv : Vis X.env.scope x := by first | exact Or.inl rfl | exact Or.inr (Or.inl rfl) | exact Or.inr (Or.inr rfl)) (hd : (x == ("__debug__" : Str)) = false := by decide)
    (hcd : (x == ("__classdict__" : Str)) = false := by decide) : QE X (.Name x pos) (tV i) := q_var hN hv hd hcd
def tK (x : PyData) : TQ := fun ρ R => R x ρ
theorem q_const {e : Expr} {v : V} {x : PyData} (h : PE X e (tC v)) (f : ∀ H, Fz X.K H v x) : QE X e (tK x) := ⟨fun dk H0 => PE.imp h fun σ H Q ⟨ρ, R, r, h, k⟩ => k x ρ v H h (f H) r (Ex.refl H)⟩
theorem q_int {i : Int} {j} : QE X (.Constant (.int i) j pos) (tK (.int i)) := q_const pe_int fun _ => .int i
theorem q_bl {b : Bool} {j} : QE X (.Constant (.bool b) j pos) (tK (.bool b)) := q_const pe_bl fun _ => .bl b
theorem q_non {j} : QE X (.Constant .none j pos) (tK .none) := q_const pe_non fun _ => .non
theorem q_str {x : Str} {j} : QE X (.Constant (.str x) j pos) (tK (.str x)) := q_const pe_str fun _ => .str x
theorem q_glob {x : Str} {v : V} {u : Value} {d : PyData} (hg : Gl X x) (hm : X.mg x = some u) (r : RelV v u) (f : ∀ H, Fz X.K H v d) (hd : (x == ("__debug__" : Str)) = false := by decide) : QE X (.Name x pos) (tK d) :=
  q_const (pe_glob hg hm r hd) f

/-! ### operators -/
abbrev C2 := PyData → PyData → (PyData → Prop) → Prop
abbrev C1 := PyData → (PyData → Prop) → Prop
abbrev Br2 (K : PySem.W.Frag) (r : R2) (C : C2) : Prop := ∀ x y v u H Q R, Fz K H v x → Fz K H u y → C x y R → (∀ z w H', R z → Fz K H' w z → Same H H' → Q w H') → r v u H Q
def t2 (C : C2) (ta tb : TQ) : TQ := fun ρ R => ta ρ fun x ρ1 => tb ρ1 fun y ρ2 => C x y fun z => R z ρ2
variable {a b c e : Expr} {ta tb tc t : TQ}
theorem up_op {K : PySem.W.Frag} {r : R2} {C : C2} {dk : Dk} {H0 : Hp} (br : Br2 K r C) (σ : L2.St) (H : Hp) (Q : VK) (h : up K dk H0 (t2 C ta tb) σ H Q) : tOp r (up K dk H0 ta) (up K dk H0 tb) σ H Q := by
  obtain ⟨ρ, R, rel, h, k⟩ := h
  exact ⟨ρ, _, rel, h, fun x ρ1 v H1 hx fz rel1 ex1 => ⟨ρ1, _, rel1, hx, fun y ρ2 u H2 hy fz2 rel2 ex2 => br x y v u H2 Q _ (fz.mono ex2) fz2 hy fun z w H' hz fz' sm => k z ρ2 w H' hz fz' (rel2.same sm) (ex1.trans (ex2.trans (ex_same sm)))⟩⟩
theorem q_op {op : Operator} {r : R2} {C : C2} (ho : OpR X (binaryOp op) r) (br : Br2 X.K r C) (ha : QE X a ta) (hb : QE X b tb) : QE X (.BinOp a op b pos) (t2 C ta tb) :=
  ⟨fun dk H0 => PE.imp (pe_op ho (ha.run dk H0) (hb.run dk H0)) (up_op br)⟩
theorem q_cmpR {op : CmpOp} {r : R2} {C : C2} (ho : OpR X (compareOp op) r) (br : Br2 X.K r C) (ha : QE X a ta) (hb : QE X b tb) (hm : behindInMarks op b = false) : QE X (.Compare a [op] [b] pos) (t2 C ta tb) :=
  ⟨fun dk H0 => PE.imp (pe_cmpR ho (ha.run dk H0) (hb.run dk H0) hm) (up_op br)⟩
def tB (t : TQ) : TQB := fun ρ R => t ρ fun x ρ' => match x with | .bool b => R b ρ' | _ => False
theorem up_tst {K : PySem.W.Frag} {dk : Dk} {H0 : Hp} {te : TE} (w : ∀ σ H Q, up K dk H0 t σ H Q → te σ H Q) (σ : L2.St) (H : Hp) (Q : Bool → Hp → Prop) (h : upB K dk H0 (tB t) σ H Q) : te σ H fun x H' => ∃ k, x = .bl k ∧ Q k H' := by
  obtain ⟨ρ, R, rel, h, k⟩ := h
  refine w σ H _ ⟨ρ, _, rel, h, fun x ρ1 v H1 hx fz rel1 ex1 => ?_⟩
  cases x with
  | bool b => cases fz; exact ⟨b, rfl, k b ρ1 H1 hx rel1 ex1⟩
  | _ => exact False.elim hx
theorem q_tcmpR {op : CmpOp} {r : R2} {C : C2} (ho : OpR X (compareOp op) r) (br : Br2 X.K r C) (ha : QE X a ta) (hb : QE X b tb) (hm : behindInMarks op b = false) : QT X (.Compare a [op] [b] pos) (tB (t2 C ta tb)) :=
  ⟨fun dk H0 => PT.imp (pt_cmpR ho (ha.run dk H0) (hb.run dk H0) hm) (up_tst (up_op br))⟩
theorem q_tst {e : Expr} (h : QE X e t) (he : ∀ whole, isTrue e X.env whole = (do let v ← whole; standAt e.pos; holding [v] (truthy v)) := by intro _; rfl) : QT X e (tB t) :=
  ⟨fun dk H0 => PT.imp (pt_val (h.run dk H0) he) (up_tst fun _ _ _ q => q)⟩

/-- whole numbers -/
def cI (g : Int → Int → PyData) : C2 := fun x y R => match x, y with
  | .int i, .int j => R (g i j)
  | _, _ => False
def cIp (C : Int → Int → Prop) (g : Int → Int → PyData) : C2 := fun x y R => match x, y with
  | .int i, .int j => C i j ∧ R (g i j)
  | _, _ => False
theorem br_I0 {K : PySem.W.Frag} {gV : Int → Int → V} {g : Int → Int → PyData} (hg : ∀ i j H, Fz K H (gV i j) (g i j)) : Br2 K (rI0 gV) (cI g) := by
  intro x y v u H Q R h1 h2 c k
  cases h1 <;> cases h2 <;> first | exact c.elim | exact ⟨_, _, rfl, rfl, k _ _ H c (hg _ _ H) (Same.refl H)⟩
theorem br_I {K : PySem.W.Frag} {C : Int → Int → Prop} {gV : Int → Int → V} {g : Int → Int → PyData} (hg : ∀ i j H, Fz K H (gV i j) (g i j)) : Br2 K (rI C gV) (cIp C g) := by
  intro x y v u H Q R h1 h2 c k
  cases h1 <;> cases h2 <;> first | exact c.elim | exact ⟨_, _, rfl, rfl, c.1, k _ _ H c.2 (hg _ _ H) (Same.refl H)⟩
def addI := cI fun i j => .int (i + j)
def subI := cI fun i j => .int (i - j)
def mulI := cIp CMul fun i j => .int (i * j)
def fdivI := cIp CDiv fun i j => .int (i / j)
def modI := cIp (fun _ j => 0 < j) fun i j => .int (i % j)
def powI := cIp CPow fun i j => .int (i ^ j.toNat)
def ltI := cI fun i j => .bool (decide (i < j))
def leI := cI fun i j => .bool (decide (i ≤ j))
def gtI := cI fun i j => .bool (decide (j < i))
def geI := cI fun i j => .bool (decide (j ≤ i))
theorem q_sub (ha : QE X a ta) (hb : QE X b tb) : QE X (.BinOp a .Sub b pos) (t2 subI ta tb) := q_op op_sub (br_I0 fun _ _ _ => .int _) ha hb
theorem q_mulI (ha : QE X a ta) (hb : QE X b tb) : QE X (.BinOp a .Mult b pos) (t2 mulI ta tb) := q_op op_mul (br_I fun _ _ _ => .int _) ha hb
theorem q_fdiv (ha : QE X a ta) (hb : QE X b tb) : QE X (.BinOp a .FloorDiv b pos) (t2 fdivI ta tb) := q_op op_fdiv (br_I fun _ _ _ => .int _) ha hb
theorem q_mod (ha : QE X a ta) (hb : QE X b tb) : QE X (.BinOp a .Mod b pos) (t2 modI ta tb) := q_op op_mod (br_I fun _ _ _ => .int _) ha hb
theorem q_pow (ha : QE X a ta) (hb : QE X b tb) : QE X (.BinOp a .Pow b pos) (t2 powI ta tb) := q_op op_pow (br_I fun _ _ _ => .int _) ha hb
/-- a + b: whole numbers, texts, tuples -/
def addD : C2 := fun x y R => match x, y with
  | .int i, .int j => R (.int (i + j))
  | .str i, .str j => i.length + j.length ≤ sizeLine ∧ R (.str (i ++ j))
  | .tuple xs, .tuple ys => xs.length + ys.length ≤ sizeLine ∧ R (.tuple (xs ++ ys))
  | _, _ => False
theorem br_add : Br2 X.K (fun x y H Q => (∃ i j, x = .int i ∧ y = .int j ∧ Q (.int (i + j)) H) ∨ (∃ i j, x = .str i ∧ y = .str j ∧ i.length + j.length ≤ sizeLine ∧ Q (.str (i ++ j)) H) ∨ rCatA X.K x y H Q) addD := by
  intro x y v u H Q R h1 h2 c k
  cases h1 with
  | int i => cases h2 <;> first | exact c.elim | exact .inl ⟨_, _, rfl, rfl, k _ _ H c (.int _) (Same.refl H)⟩
  | str i => cases h2 <;> first | exact c.elim | exact .inr (.inl ⟨_, _, rfl, rfl, c.1, k _ _ H c.2 (.str _) (Same.refl H)⟩)
  | @tup a0 xs ds q t =>
    cases h2 with
    | @tup b0 ys es q2 t2 =>
      have l1 := t.length
      have l2 := t2.length
      refine .inr (.inr ⟨a0, b0, xs, ys, rfl, rfl, q, q2, by rw [l1, l2]; exact c.1, fun e => ?_, fun _ e => ?_, fun _ _ p hp => ?_⟩)
      · subst e
        have e' : ds = [] := List.eq_nil_of_length_eq_zero (by rw [← l1]; rfl)
        subst e'
        exact k _ _ H c.2 (.tup q2 t2) (Same.refl H)
      · subst e
        have e' : es = [] := List.eq_nil_of_length_eq_zero (by rw [← l2]; rfl)
        subst e'
        refine k _ _ H c.2 ?_ (Same.refl H)
        rw [List.append_nil]
        exact .tup q t
      · have sm := same_upd (H := H) (p := p) (o := .tup (xs ++ ys)) hp
        exact k _ _ _ c.2 (.tup (.inl (.inl upd_same)) ((t.append t2).mono (ex_same sm))) sm
    | _ => exact c.elim
  | _ => cases h2 <;> exact c.elim
theorem q_add (ha : QE X a ta) (hb : QE X b tb) : QE X (.BinOp a .Add b pos) (t2 addD ta tb) :=
  q_op (((op_add.or (op_add_str.or op_catA)))) br_add ha hb
/-- comparisons -/
theorem q_lt (ha : QE X a ta) (hb : QE X b tb) : QE X (.Compare a [.Lt] [b] pos) (t2 ltI ta tb) := q_cmpR op_lt (br_I0 fun _ _ _ => .bl _) ha hb (nomark _)
theorem q_le (ha : QE X a ta) (hb : QE X b tb) : QE X (.Compare a [.LtE] [b] pos) (t2 leI ta tb) := q_cmpR op_le (br_I0 fun _ _ _ => .bl _) ha hb (nomark _)
theorem q_gt (ha : QE X a ta) (hb : QE X b tb) : QE X (.Compare a [.Gt] [b] pos) (t2 gtI ta tb) := q_cmpR op_gt (br_I0 fun _ _ _ => .bl _) ha hb (nomark _)
theorem q_ge (ha : QE X a ta) (hb : QE X b tb) : QE X (.Compare a [.GtE] [b] pos) (t2 geI ta tb) := q_cmpR op_ge (br_I0 fun _ _ _ => .bl _) ha hb (nomark _)
theorem q_tlt (ha : QE X a ta) (hb : QE X b tb) : QT X (.Compare a [.Lt] [b] pos) (tB (t2 ltI ta tb)) := q_tcmpR op_lt (br_I0 fun _ _ _ => .bl _) ha hb (nomark _)
theorem q_tle (ha : QE X a ta) (hb : QE X b tb) : QT X (.Compare a [.LtE] [b] pos) (tB (t2 leI ta tb)) := q_tcmpR op_le (br_I0 fun _ _ _ => .bl _) ha hb (nomark _)
theorem q_tgt (ha : QE X a ta) (hb : QE X b tb) : QT X (.Compare a [.Gt] [b] pos) (tB (t2 gtI ta tb)) := q_tcmpR op_gt (br_I0 fun _ _ _ => .bl _) ha hb (nomark _)
theorem q_tge (ha : QE X a ta) (hb : QE X b tb) : QT X (.Compare a [.GtE] [b] pos) (tB (t2 geI ta tb)) := q_tcmpR op_ge (br_I0 fun _ _ _ => .bl _) ha hb (nomark _)
/-- == and != of data -/
def eqD : C2 := fun x y R => SeqAt.shaped x = true ∧ SeqAt.shaped y = true ∧ R (.bool (PyData.eqv x y))
def neD : C2 := fun x y R => SeqAt.shaped x = true ∧ SeqAt.shaped y = true ∧ R (.bool (!PyData.eqv x y))
theorem br_eq {K : PySem.W.Frag} : Br2 K (rEqD K) eqD := fun x y v u H Q R h1 h2 c k => ⟨x, y, h1.dp, h2.dp, c.1, c.2.1, k _ _ H c.2.2 (.bl _) (Same.refl H)⟩
theorem br_ne {K : PySem.W.Frag} : Br2 K (rNeD K) neD := fun x y v u H Q R h1 h2 c k => ⟨x, y, h1.dp, h2.dp, c.1, c.2.1, k _ _ H c.2.2 (.bl _) (Same.refl H)⟩
theorem q_eq (hu : X.A.units + 64 < cLine) (ha : QE X a ta) (hb : QE X b tb) : QE X (.Compare a [.Eq] [b] pos) (t2 eqD ta tb) := q_cmpR (op_eqD hu) br_eq ha hb (nomark _)
theorem q_ne (hu : X.A.units + 64 < cLine) (ha : QE X a ta) (hb : QE X b tb) : QE X (.Compare a [.NotEq] [b] pos) (t2 neD ta tb) := q_cmpR (op_neD hu) br_ne ha hb (nomark _)
theorem q_teq (hu : X.A.units + 64 < cLine) (ha : QE X a ta) (hb : QE X b tb) : QT X (.Compare a [.Eq] [b] pos) (tB (t2 eqD ta tb)) := q_tcmpR (op_eqD hu) br_eq ha hb (nomark _)
theorem q_tne (hu : X.A.units + 64 < cLine) (ha : QE X a ta) (hb : QE X b tb) : QT X (.Compare a [.NotEq] [b] pos) (tB (t2 neD ta tb)) := q_tcmpR (op_neD hu) br_ne ha hb (nomark _)
/-- in, not in: flat items -/
def flatD : PyData → Bool
  | .none => true
  | .bool _ => true
  | .int _ => true
  | .str _ => true
  | _ => false
theorem flat_V {K : PySem.W.Frag} {H : Hp} {v : V} {x : PyData} (h : Fz K H v x) (f : flatD x = true) : flatV v = true := by
  cases h <;> first | rfl | cases f
theorem flat_all {K : PySem.W.Frag} {H : Hp} : ∀ {vs : List V} {xs : List PyData}, FzAll K H vs xs → xs.all flatD = true → vs.all flatV = true
  | _, _, .nil, _ => rfl
  | _, _, .cons h t, f => by
    rw [List.all_cons, Bool.and_eq_true] at f
    rw [List.all_cons, flat_V h f.1, flat_all t f.2]; rfl
theorem eqV_D {K : PySem.W.Frag} {H : Hp} {v u : V} {x y : PyData} (h : Fz K H v x) (h' : Fz K H u y) (f : flatD x = true) (f' : flatD y = true) : eqV v u = PyData.eqv x y := by
  cases h <;> cases h' <;> first | cases f | cases f' | (simp only [eqV, PyData.eqv]; done) | skip
  all_goals simp only [eqV, PyData.eqv]
  all_goals first | rfl | (rename_i p q; cases p <;> simp) | skip
theorem inV_D {K : PySem.W.Frag} {H : Hp} {v : V} {x : PyData} (h : Fz K H v x) (f : flatD x = true) : ∀ {us : List V} {ys : List PyData}, FzAll K H us ys → ys.all flatD = true → inV v us = ys.any fun z => PyData.eqv z x
  | _, _, .nil, _ => rfl
  | _, _, .cons g t, fs => by
    rw [List.all_cons, Bool.and_eq_true] at fs
    have ih := inV_D h f t fs.2
    unfold inV at ih ⊢
    rw [List.any_cons, List.any_cons, ih, eqV_D g h fs.1 f]
def inD (neg : Bool) : C2 := fun x y R => match y with
  | .list ds => flatD x = true ∧ ds.all flatD = true ∧ R (.bool (if neg then !(ds.any fun z => PyData.eqv z x) else ds.any fun z => PyData.eqv z x))
  | .tuple ds => flatD x = true ∧ ds.all flatD = true ∧ R (.bool (if neg then !(ds.any fun z => PyData.eqv z x) else ds.any fun z => PyData.eqv z x))
  | _ => False
theorem br_in {K : PySem.W.Frag} {neg : Bool} : Br2 K (rIn K neg) (inD neg) := by
  intro x y v u H Q R h1 h2 c k
  cases h2 with
  | lst q t =>
    obtain ⟨c1, c2, c3⟩ := c
    refine ⟨_, _, rfl, .inl (.inl (.inr ⟨_, q⟩)), flat_V h1 c1, flat_all t c2, ?_⟩
    rw [inV_D h1 c1 t c2]
    exact k _ _ H c3 (.bl _) (Same.refl H)
  | tup q t =>
    obtain ⟨c1, c2, c3⟩ := c
    refine ⟨_, _, rfl, .inr q, flat_V h1 c1, flat_all t c2, ?_⟩
    rw [inV_D h1 c1 t c2]
    exact k _ _ H c3 (.bl _) (Same.refl H)
  | _ => exact c.elim
theorem q_in (ha : QE X a ta) (hb : QE X b tb) (hm : behindInMarks .In b = false := by rfl) : QE X (.Compare a [.In] [b] pos) (t2 (inD false) ta tb) := q_cmpR op_in_seq br_in ha hb hm
theorem q_nin (ha : QE X a ta) (hb : QE X b tb) (hm : behindInMarks .NotIn b = false := by rfl) : QE X (.Compare a [.NotIn] [b] pos) (t2 (inD true) ta tb) := q_cmpR op_notIn_seq br_in ha hb hm
theorem q_tin (ha : QE X a ta) (hb : QE X b tb) (hm : behindInMarks .In b = false := by rfl) : QT X (.Compare a [.In] [b] pos) (tB (t2 (inD false) ta tb)) := q_tcmpR op_in_seq br_in ha hb hm
theorem q_tnin (ha : QE X a ta) (hb : QE X b tb) (hm : behindInMarks .NotIn b = false := by rfl) : QT X (.Compare a [.NotIn] [b] pos) (tB (t2 (inD true) ta tb)) := q_tcmpR op_notIn_seq br_in ha hb hm
/-- is True, is False, is not ..: a bool on the left -/
def isB (neg : Bool) : C2 := fun x y R => match x, y with
  | .bool p, .bool q => R (.bool (if neg then !decide (p = q) else decide (p = q)))
  | _, _ => False
theorem br_is : Br2 X.K rIsB (isB false) := by
  intro x y v u H Q R h1 h2 c k
  cases h1 <;> cases h2 <;> first | exact c.elim | exact ⟨_, _, rfl, rfl, k _ _ H c (.bl _) (Same.refl H)⟩
theorem br_isn : Br2 X.K rNotB (isB true) := by
  intro x y v u H Q R h1 h2 c k
  cases h1 <;> cases h2 <;> first | exact c.elim | exact ⟨_, _, rfl, rfl, k _ _ H c (.bl _) (Same.refl H)⟩
theorem q_isB (ha : QE X a ta) (hb : QE X b tb) : QE X (.Compare a [.Is] [b] pos) (t2 (isB false) ta tb) := q_cmpR op_isBl br_is ha hb (nomark _)
theorem q_isnB (ha : QE X a ta) (hb : QE X b tb) : QE X (.Compare a [.IsNot] [b] pos) (t2 (isB true) ta tb) := q_cmpR op_notBl br_isn ha hb (nomark _)
theorem q_tisB (ha : QE X a ta) (hb : QE X b tb) : QT X (.Compare a [.Is] [b] pos) (tB (t2 (isB false) ta tb)) := q_tcmpR op_isBl br_is ha hb (nomark _)
theorem q_tisnB (ha : QE X a ta) (hb : QE X b tb) : QT X (.Compare a [.IsNot] [b] pos) (tB (t2 (isB true) ta tb)) := q_tcmpR op_notBl br_isn ha hb (nomark _)
/-- is None -/
def isNoneD : PyData → Bool
  | .none => true
  | _ => false
def isN (neg : Bool) : C2 := fun x y R => match y with
  | .none => R (.bool (if neg then !isNoneD x else isNoneD x))
  | _ => False
theorem non_D {K : PySem.W.Frag} {H : Hp} {v : V} {x : PyData} (h : Fz K H v x) : decide (v = .non) = isNoneD x := by
  cases h <;> first | rfl | simp [isNoneD]
theorem br_isN : Br2 X.K (fun x y H Q => y = .non ∧ Q (.bl (decide (x = .non))) H) (isN false) := by
  intro x y v u H Q R h1 h2 c k
  cases h2 <;> first | exact c.elim | skip
  refine ⟨rfl, ?_⟩
  rw [non_D h1]
  exact k _ _ H c (.bl _) (Same.refl H)
theorem br_notN : Br2 X.K (fun x y H Q => y = .non ∧ Q (.bl (!decide (x = .non))) H) (isN true) := by
  intro x y v u H Q R h1 h2 c k
  cases h2 <;> first | exact c.elim | skip
  refine ⟨rfl, ?_⟩
  rw [non_D h1]
  exact k _ _ H c (.bl _) (Same.refl H)
theorem q_isN (ha : QE X a ta) (hb : QE X b tb) : QE X (.Compare a [.Is] [b] pos) (t2 (isN false) ta tb) := q_cmpR op_isN br_isN ha hb (nomark _)
theorem q_notN (ha : QE X a ta) (hb : QE X b tb) : QE X (.Compare a [.IsNot] [b] pos) (t2 (isN true) ta tb) := q_cmpR op_notN br_notN ha hb (nomark _)
theorem q_tisN (ha : QE X a ta) (hb : QE X b tb) : QT X (.Compare a [.Is] [b] pos) (tB (t2 (isN false) ta tb)) := q_tcmpR op_isN br_isN ha hb (nomark _)
theorem q_tnotN (ha : QE X a ta) (hb : QE X b tb) : QT X (.Compare a [.IsNot] [b] pos) (tB (t2 (isN true) ta tb)) := q_tcmpR op_notN br_notN ha hb (nomark _)
/-- -a -/
def negI : C1 := fun x R => match x with
  | .int i => R (.int (-i))
  | _ => False
def t1 (C : C1) (ta : TQ) : TQ := fun ρ R => ta ρ fun x ρ1 => C x fun z => R z ρ1
abbrev Br1 (K : PySem.W.Frag) (r : V → Hp → VK → Prop) (C : C1) : Prop := ∀ x v H Q R, Fz K H v x → C x R → (∀ z w H', R z → Fz K H' w z → Same H H' → Q w H') → r v H Q
theorem up_un {K : PySem.W.Frag} {r : V → Hp → VK → Prop} {C : C1} {dk : Dk} {H0 : Hp} (br : Br1 K r C) (σ : L2.St) (H : Hp) (Q : VK) (h : up K dk H0 (t1 C ta) σ H Q) : up K dk H0 ta σ H fun x H1 => r x H1 Q := by
  obtain ⟨ρ, R, rel, h, k⟩ := h
  exact ⟨ρ, _, rel, h, fun x ρ1 v H1 hx fz rel1 ex1 => br x v H1 Q _ fz hx fun z w H' hz fz' sm => k z ρ1 w H' hz fz' (rel1.same sm) (ex1.trans (ex_same sm))⟩
theorem q_un {op : UnaryOp} {r : V → Hp → VK → Prop} {C : C1} (ho : UnR X (unaryOp op) r) (br : Br1 X.K r C) (ha : QE X a ta) : QE X (.UnaryOp op a pos) (t1 C ta) :=
  ⟨fun dk H0 => PE.imp (pe_un ho (ha.run dk H0)) (up_un br)⟩
theorem br_neg {K : PySem.W.Frag} : Br1 K (rU fun i => .int (-i)) negI := by
  intro x v H Q R h1 c k
  cases h1 <;> first | exact c.elim | exact ⟨_, rfl, k _ _ H c (.int _) (Same.refl H)⟩
theorem q_neg (ha : QE X a ta) : QE X (.UnaryOp .USub a pos) (t1 negI ta) := q_un un_neg br_neg ha

/-! ### and, or, not, if -/
variable {rest : List Expr} {tA tB' : TQB}
def qAnd (t u : TQB) : TQB := fun ρ R => t ρ fun c ρ1 => if c = true then u ρ1 R else R false ρ1
def qOr (t u : TQB) : TQB := fun ρ R => t ρ fun c ρ1 => if c = true then R true ρ1 else u ρ1 R
def qNot (t : TQB) : TQB := fun ρ R => t ρ fun c ρ1 => R (!c) ρ1
theorem qw_and1 (ha : QT X a tA) : QW X (.BoolOp .And [a] pos) tA := ⟨fun dk H0 => pw_and1 (ha.run dk H0)⟩
theorem qw_or1 (ha : QT X a tA) : QW X (.BoolOp .Or [a] pos) tA := ⟨fun dk H0 => pw_or1 (ha.run dk H0)⟩
theorem qw_and (ha : QT X a tA) (hb : QW X (.BoolOp .And (b :: rest) pos) tB') : QW X (.BoolOp .And (a :: b :: rest) pos) (qAnd tA tB') :=
  ⟨fun dk H0 => PW.imp (pw_and (ha.run dk H0) (hb.run dk H0)) fun σ H Q ⟨ρ, R, rel, h, k⟩ => ⟨ρ, _, rel, h, fun c ρ1 H1 hc rel1 ex1 => by
    cases c with
    | true => rw [if_pos rfl] at hc ⊢; exact ⟨ρ1, R, rel1, hc, fun b ρ2 H2 hb rel2 ex2 => k b ρ2 H2 hb rel2 (ex1.trans ex2)⟩
    | false => rw [if_neg (by decide)] at hc ⊢; exact k false ρ1 H1 hc rel1 ex1⟩⟩
theorem qw_or (ha : QT X a tA) (hb : QW X (.BoolOp .Or (b :: rest) pos) tB') : QW X (.BoolOp .Or (a :: b :: rest) pos) (qOr tA tB') :=
  ⟨fun dk H0 => PW.imp (pw_or (ha.run dk H0) (hb.run dk H0)) fun σ H Q ⟨ρ, R, rel, h, k⟩ => ⟨ρ, _, rel, h, fun c ρ1 H1 hc rel1 ex1 => by
    cases c with
    | false => rw [if_neg (by decide)] at hc ⊢; exact ⟨ρ1, R, rel1, hc, fun b ρ2 H2 hb rel2 ex2 => k b ρ2 H2 hb rel2 (ex1.trans ex2)⟩
    | true => rw [if_pos rfl] at hc ⊢; exact k true ρ1 H1 hc rel1 ex1⟩⟩
theorem QW.qt {e : Expr} {t : TQB} (h : QW X e t) : QT X e t := ⟨fun dk H0 => (h.run dk H0).pt⟩
theorem qt_not (ha : QT X a tA) : QT X (.UnaryOp .Not a pos) (qNot tA) :=
  ⟨fun dk H0 => PT.imp (pt_not (ha.run dk H0)) fun σ H Q ⟨ρ, R, rel, h, k⟩ => ⟨ρ, _, rel, h, fun c ρ1 H1 hc rel1 ex1 => k (!c) ρ1 H1 hc rel1 ex1⟩⟩
def vAnd (ta tb : TQ) : TQ := fun ρ R => ta ρ fun x ρ1 => match x with
  | .bool c => if c = true then tb ρ1 R else R (.bool false) ρ1
  | _ => False
def vOr (ta tb : TQ) : TQ := fun ρ R => ta ρ fun x ρ1 => match x with
  | .bool c => if c = true then R (.bool true) ρ1 else tb ρ1 R
  | _ => False
def vNot (ta : TQ) : TQ := fun ρ R => ta ρ fun x ρ1 => match x with
  | .bool c => R (.bool (!c)) ρ1
  | _ => False
theorem q_one {op} (h : QE X a t) : QE X (.BoolOp op [a] pos) t := ⟨fun dk H0 => pe_one (h.run dk H0)⟩
theorem q_and (ha : QE X a ta) (hb : QE X (.BoolOp .And (b :: rest) pos) tb) : QE X (.BoolOp .And (a :: b :: rest) pos) (vAnd ta tb) :=
  ⟨fun dk H0 => PE.imp (pe_and (ha.run dk H0) (hb.run dk H0)) fun σ H Q ⟨ρ, R, rel, h, k⟩ => ⟨ρ, _, rel, h, fun x ρ1 v H1 hc fz rel1 ex1 => by
    cases fz <;> first | exact hc.elim | skip
    rename_i c
    refine ⟨c, rfl, ?_⟩
    cases c with
    | true => simp only [if_true] at hc ⊢; exact ⟨ρ1, R, rel1, hc, fun b ρ2 v2 H2 hb fz2 rel2 ex2 => k b ρ2 v2 H2 hb fz2 rel2 (ex1.trans ex2)⟩
    | false => simp only [Bool.false_eq_true, if_false] at hc ⊢; exact k _ ρ1 _ H1 hc (.bl _) rel1 ex1⟩⟩
theorem q_or (ha : QE X a ta) (hb : QE X (.BoolOp .Or (b :: rest) pos) tb) : QE X (.BoolOp .Or (a :: b :: rest) pos) (vOr ta tb) :=
  ⟨fun dk H0 => PE.imp (pe_or (ha.run dk H0) (hb.run dk H0)) fun σ H Q ⟨ρ, R, rel, h, k⟩ => ⟨ρ, _, rel, h, fun x ρ1 v H1 hc fz rel1 ex1 => by
    cases fz <;> first | exact hc.elim | skip
    rename_i c
    refine ⟨c, rfl, ?_⟩
    cases c with
    | false => simp only [Bool.false_eq_true, if_false] at hc ⊢; exact ⟨ρ1, R, rel1, hc, fun b ρ2 v2 H2 hb fz2 rel2 ex2 => k b ρ2 v2 H2 hb fz2 rel2 (ex1.trans ex2)⟩
    | true => simp only [if_true] at hc ⊢; exact k _ ρ1 _ H1 hc (.bl _) rel1 ex1⟩⟩
theorem q_not (ha : QE X a ta) : QE X (.UnaryOp .Not a pos) (vNot ta) :=
  ⟨fun dk H0 => PE.imp (pe_not (ha.run dk H0)) fun σ H Q ⟨ρ, R, rel, h, k⟩ => ⟨ρ, _, rel, h, fun x ρ1 v H1 hc fz rel1 ex1 => by
    cases fz <;> first | exact hc.elim | skip
    exact ⟨_, rfl, k _ ρ1 _ H1 hc (.bl _) rel1 ex1⟩⟩⟩
def qIf (t : TQB) (ta tb : TQ) : TQ := fun ρ R => t ρ fun c ρ1 => if c = true then ta ρ1 R else tb ρ1 R
theorem q_ifExp (hc : QT X c tA) (ha : QE X a ta) (hb : QE X b tb) : QE X (.IfExp c a b pos) (qIf tA ta tb) :=
  ⟨fun dk H0 => PE.imp (pe_ifExp (hc.run dk H0) (ha.run dk H0) (hb.run dk H0)) fun σ H Q ⟨ρ, R, rel, h, k⟩ => ⟨ρ, _, rel, h, fun c ρ1 H1 hc rel1 ex1 => by
    cases c with
    | true => rw [if_pos rfl] at hc ⊢; exact ⟨ρ1, R, rel1, hc, fun b ρ2 v2 H2 hb fz2 rel2 ex2 => k b ρ2 v2 H2 hb fz2 rel2 (ex1.trans ex2)⟩
    | false => rw [if_neg (by decide)] at hc ⊢; exact ⟨ρ1, R, rel1, hc, fun b ρ2 v2 H2 hb fz2 rel2 ex2 => k b ρ2 v2 H2 hb fz2 rel2 (ex1.trans ex2)⟩⟩⟩
/-- a <= b <= c of whole numbers -/
def chI (p q : Int → Int → Bool) (ta tb tc : TQ) : TQ := fun ρ R => ta ρ fun x ρ1 => tb ρ1 fun y ρ2 => match x, y with
  | .int i, .int j => if p i j = true then tc ρ2 fun z ρ3 => (match z with | .int l => R (.bool (q j l)) ρ3 | _ => False) else R (.bool false) ρ2
  | _, _ => False
theorem up_ch {K : PySem.W.Frag} {dk : Dk} {H0 : Hp} {p q : Int → Int → Bool} (σ : L2.St) (H : Hp) (Q : VK) (h : up K dk H0 (chI p q ta tb tc) σ H Q) :
    tChain (rI0 fun i j => .bl (p i j)) (rI0 fun i j => .bl (q i j)) (up K dk H0 ta) (up K dk H0 tb) (up K dk H0 tc) σ H Q := by
  obtain ⟨ρ, R, rel, h, k⟩ := h
  refine ⟨ρ, _, rel, h, fun x ρ1 v H1 hx fz rel1 ex1 => ⟨ρ1, _, rel1, hx, fun y ρ2 u H2 hy fz2 rel2 ex2 => ?_⟩⟩
  cases fz <;> cases fz2 <;> first | exact hy.elim | skip
  rename_i i j
  refine ⟨i, j, rfl, rfl, p i j, rfl, ?_⟩
  cases e : p i j with
  | true =>
    simp only [e, if_true] at hy ⊢
    refine ⟨ρ2, _, rel2, hy, fun z ρ3 w H3 hz fz3 rel3 ex3 => ?_⟩
    cases fz3 <;> first | exact hz.elim | skip
    exact ⟨j, _, rfl, rfl, k _ ρ3 _ H3 hz (.bl _) rel3 (ex1.trans (ex2.trans ex3))⟩
  | false =>
    simp only [e, Bool.false_eq_true, if_false] at hy ⊢
    exact k _ ρ2 _ H2 hy (.bl _) rel2 (ex1.trans ex2)
theorem q_chain {op op' : CmpOp} {p q : Int → Int → Bool} (ho : OpR X (compareOp op) (rI0 fun i j => .bl (p i j))) (ho' : OpR X (compareOp op') (rI0 fun i j => .bl (q i j)))
    (ha : QE X a ta) (hb : QE X b tb) (hc : QE X c tc) (hm : lastMarks [op, op'] [b, c] = false := by with_unfolding_all rfl) : QE X (.Compare a [op, op'] [b, c] pos) (chI p q ta tb tc) :=
  ⟨fun dk H0 => PE.imp (pe_chain ho ho' (ha.run dk H0) (hb.run dk H0) (hc.run dk H0) hm) up_ch⟩
theorem q_tchain {op op' : CmpOp} {p q : Int → Int → Bool} (ho : OpR X (compareOp op) (rI0 fun i j => .bl (p i j))) (ho' : OpR X (compareOp op') (rI0 fun i j => .bl (q i j)))
    (ha : QE X a ta) (hb : QE X b tb) (hc : QE X c tc) (hm : lastMarks [op, op'] [b, c] = false := by with_unfolding_all rfl) : QT X (.Compare a [op, op'] [b, c] pos) (tB (chI p q ta tb tc)) :=
  ⟨fun dk H0 => PT.imp (pt_chain ho ho' (ha.run dk H0) (hb.run dk H0) (hc.run dk H0) hm) (up_tst up_ch)⟩
end
end Q
end P2
section P3
namespace Q
open PySem PySem.Spec PyProof.Rows L2

/-! ### another entry heap: what is in flight stays -/
open Classical in
noncomputable def reb (ρ : En) (σ : L2.St) (H : Hp) : Hp := fun a => if ∃ j, OwnAt ρ σ j a then none else H a
section
variable {K : PySem.W.Frag} {dk : Dk} {H0 H H' : Hp} {ρ ρ' : En} {σ σ' : L2.St}
theorem reb_own {a : Addr} {j : Nat} (h : OwnAt ρ σ j a) : reb ρ σ H a = none := by unfold reb; rw [if_pos ⟨j, h⟩]
theorem reb_not {a : Addr} (h : ∀ j, ¬ OwnAt ρ σ j a) : reb ρ σ H a = H a := by unfold reb; rw [if_neg fun ⟨j, q⟩ => h j q]
theorem Rel.own0 (r : Rel K dk H0 ρ σ H) {a : Addr} {j : Nat} (h : OwnAt ρ σ j a) : H0 a = none := by
  obtain ⟨s, h1, h2, h3⟩ := h
  have q := r.sl j s h1
  cases s with
  | own xs => obtain ⟨b, vs, e1, e2, e3, e4⟩ := q; rw [h3] at e1; cases e1; exact e4
  | owd xs => obtain ⟨b, vs, e1, e2, e3, e4⟩ := q; rw [h3] at e1; cases e1; exact e4
  | _ => cases h2
theorem Rel.dkNot (r : Rel K dk H0 ρ σ H) : (∀ j, ¬ OwnAt ρ σ j dk.1) ∧ ∀ j, ¬ OwnAt ρ σ j dk.2 := ⟨fun j h => r.dk1 (r.own0 h), fun j h => r.dk2 (r.own0 h)⟩
theorem Rel.reb (r : Rel K dk H0 ρ σ H) : Rel K dk (reb ρ σ H) ρ σ H := by
  refine ⟨r.len, fun i s e => ?_, r.ap, r.dok, ?_, ?_, fun a o e _ _ => ?_⟩
  · have q := r.sl i s e
    cases s with
    | own xs => obtain ⟨b, vs, e1, e2, e3, e4⟩ := q; exact ⟨b, vs, e1, e2, e3, reb_own ⟨_, e, rfl, e1⟩⟩
    | owd xs => obtain ⟨b, vs, e1, e2, e3, e4⟩ := q; exact ⟨b, vs, e1, e2, e3, reb_own ⟨_, e, rfl, e1⟩⟩
    | _ => exact q
  · rw [reb_not r.dkNot.1]
    obtain ⟨_, cs, m, k, h1, _⟩ := r.dok
    rw [h1]; intro z; cases z
  · rw [reb_not r.dkNot.2]
    obtain ⟨_, cs, m, k, _, h2, _⟩ := r.dok
    rw [h2]; intro z; cases z
  · unfold Q.reb at e
    split at e
    · cases e
    · exact e
theorem Rel.back (r : Rel K dk H0 ρ σ H) (r' : Rel K dk (Q.reb ρ σ H) ρ' σ' H') : Rel K dk H0 ρ' σ' H' := by
  have n0 : ∀ a, Q.reb ρ σ H a = none → H0 a = none := fun a e => by
    by_cases h : ∃ j, OwnAt ρ σ j a
    · obtain ⟨j, h⟩ := h; exact r.own0 h
    · rw [reb_not fun j q => h ⟨j, q⟩] at e; exact r.fresh0 e
  refine ⟨r'.len, fun i s e => ?_, r'.ap, r'.dok, r.dk1, r.dk2, fun a o e h1 h2 => ?_⟩
  · have q := r'.sl i s e
    cases s with
    | own xs => obtain ⟨b, vs, e1, e2, e3, e4⟩ := q; exact ⟨b, vs, e1, e2, e3, n0 b e4⟩
    | owd xs => obtain ⟨b, vs, e1, e2, e3, e4⟩ := q; exact ⟨b, vs, e1, e2, e3, n0 b e4⟩
    | _ => exact q
  · refine r'.keep a o ?_ h1 h2
    rw [reb_not fun j q => by rw [r.own0 q] at e; cases e]
    exact r.keep a o e h1 h2
theorem Rel.flight (r : Rel K dk H0 ρ σ H) (r' : Rel K dk (Q.reb ρ σ H) ρ' σ' H') {a : Addr} {o : HO} (e : H a = some o) (n : ∀ j, ¬ OwnAt ρ σ j a) (h1 : a ≠ dk.1) (h2 : a ≠ dk.2) : H' a = some o ∧ ∀ j, ¬ OwnAt ρ' σ' j a := by
  have e' : Q.reb ρ σ H a = some o := by rw [reb_not n]; exact e
  exact ⟨r'.keep a o e' h1 h2, fun j q => by rw [r'.own0 q] at e'; cases e'⟩

/-! ### slots forgotten -/
def wipeQ (ρ : En) : List Nat → En
  | [] => ρ
  | v :: vs => (wipeQ ρ vs).set v .un
theorem wipeQ_length (ρ : En) : ∀ vs : List Nat, (wipeQ ρ vs).length = ρ.length
  | [] => rfl
  | v :: vs => by unfold wipeQ; rw [List.length_set, wipeQ_length ρ vs]
theorem wipeQ_some {i : Nat} {s : Sl} : ∀ {vs : List Nat}, (wipeQ ρ vs)[i]? = some s → s = .un ∨ (ρ[i]? = some s ∧ i ∉ vs)
  | [], h => .inr ⟨h, by simp⟩
  | v :: vs, h => by
    unfold wipeQ at h
    by_cases hi : v = i
    · subst hi
      have hv : v < (wipeQ ρ vs).length := by
        have := (List.getElem?_eq_some_iff.mp h).1
        rwa [List.length_set] at this
      rw [List.getElem?_set_self hv] at h; cases h; exact .inl rfl
    · rw [List.getElem?_set_ne hi] at h
      rcases wipeQ_some h with q | ⟨q1, q2⟩
      · exact .inl q
      · exact .inr ⟨q1, by simp only [List.mem_cons, not_or]; exact ⟨fun e => hi e.symm, q2⟩⟩
theorem wipe_out {i : Nat} : ∀ {vs : List Nat}, i ∉ vs → (wipe σ vs)[i]? = σ[i]?
  | [], _ => rfl
  | v :: vs, h => by
    simp only [List.mem_cons, not_or] at h
    unfold wipe
    rw [List.getElem?_set_ne (fun e => h.1 e.symm)]
    exact wipe_out h.2
theorem wipeQ_out {i : Nat} : ∀ {vs : List Nat}, i ∉ vs → (wipeQ ρ vs)[i]? = ρ[i]?
  | [], _ => rfl
  | v :: vs, h => by
    simp only [List.mem_cons, not_or] at h
    unfold wipeQ
    rw [List.getElem?_set_ne (fun e => h.1 e.symm)]
    exact wipeQ_out h.2
theorem wipe_set {i : Nat} {v : Option V} : ∀ {vs : List Nat}, i ∈ vs → wipe (σ.set i v) vs = wipe σ vs
  | [], h => by cases h
  | w :: vs, h => by
    unfold wipe
    by_cases hi : i ∈ vs
    · rw [wipe_set hi]
    · have e : i = w := by
        rcases List.mem_cons.mp h with q | q
        · exact q
        · exact absurd q hi
      subst e
      apply List.ext_getElem?
      intro j
      by_cases hj : i = j
      · subst hj
        by_cases hl : i < σ.length
        · rw [List.getElem?_set_self (by rw [wipe_length, List.length_set]; exact hl), List.getElem?_set_self (by rw [wipe_length]; exact hl)]
        · rw [List.getElem?_eq_none (by rw [List.length_set, wipe_length, List.length_set]; omega), List.getElem?_eq_none (by rw [List.length_set, wipe_length]; omega)]
      · rw [List.getElem?_set_ne hj, List.getElem?_set_ne hj]
        by_cases hjv : j ∈ vs
        · have w1 : ∀ (τ τ' : L2.St), τ.length = τ'.length → (wipe τ vs)[j]? = (wipe τ' vs)[j]? := by
            intro τ τ' hl
            clear hi h hj
            induction vs with
            | nil => cases hjv
            | cons w ws ih =>
              unfold wipe
              by_cases hw : w = j
              · subst hw
                by_cases hq : w < τ.length
                · rw [List.getElem?_set_self (by rw [wipe_length]; exact hq), List.getElem?_set_self (by rw [wipe_length, ← hl]; exact hq)]
                · rw [List.getElem?_eq_none (by rw [List.length_set, wipe_length]; omega), List.getElem?_eq_none (by rw [List.length_set, wipe_length]; omega)]
              · rw [List.getElem?_set_ne hw, List.getElem?_set_ne hw]
                refine ih ?_
                rcases List.mem_cons.mp hjv with q | q
                · exact absurd q.symm hw
                · exact q
          exact w1 _ _ (by rw [List.length_set])
        · rw [wipe_out hjv, wipe_out hjv, List.getElem?_set_ne hj]
theorem Rel.wipe (r : Rel K dk H0 ρ σ H) (vs : List Nat) : Rel K dk H0 (wipeQ ρ vs) (wipe σ vs) H := by
  have back : ∀ {j a}, OwnAt (wipeQ ρ vs) (L2.wipe σ vs) j a → OwnAt ρ σ j a := by
    rintro j a ⟨s, e, h1, h2⟩
    rcases wipeQ_some e with rfl | ⟨e1, e2⟩
    · cases h1
    · rw [wipe_out e2] at h2
      exact ⟨s, e1, h1, h2⟩
  refine ⟨by rw [wipeQ_length, wipe_length]; exact r.len, fun i s e => ?_, fun i j a h1 h2 => r.ap i j a (back h1) (back h2), r.dok, r.dk1, r.dk2, r.keep⟩
  rcases wipeQ_some e with rfl | ⟨e1, e2⟩
  · exact True.intro
  · rw [wipe_out e2]
    exact r.sl i s e1
/-- the slots vs as they were -/
def rstQ : List Nat → En → En → En
  | [], _, ρ' => ρ'
  | v :: vs, ρ, ρ' => (rstQ vs ρ ρ').set v (ρ.getD v .un)
theorem rstQ_length (ρ ρ' : En) : ∀ vs : List Nat, (rstQ vs ρ ρ').length = ρ'.length
  | [] => rfl
  | v :: vs => by unfold rstQ; rw [List.length_set, rstQ_length ρ ρ' vs]
theorem rstQ_some {i : Nat} {s : Sl} : ∀ {vs : List Nat}, (rstQ vs ρ ρ')[i]? = some s → (i ∈ vs ∧ s = ρ.getD i .un) ∨ (i ∉ vs ∧ ρ'[i]? = some s)
  | [], h => .inr ⟨by simp, h⟩
  | v :: vs, h => by
    unfold rstQ at h
    by_cases hi : v = i
    · subst hi
      have hv : v < (rstQ vs ρ ρ').length := by
        have := (List.getElem?_eq_some_iff.mp h).1
        rwa [List.length_set] at this
      rw [List.getElem?_set_self hv] at h; cases h
      exact .inl ⟨List.mem_cons_self, rfl⟩
    · rw [List.getElem?_set_ne hi] at h
      rcases rstQ_some h with ⟨q1, q2⟩ | ⟨q1, q2⟩
      · exact .inl ⟨List.mem_cons_of_mem _ q1, q2⟩
      · exact .inr ⟨by simp only [List.mem_cons, not_or]; exact ⟨fun e => hi e.symm, q1⟩, q2⟩
def noOwn (ρ : En) (vs : List Nat) : Bool := vs.all fun v => !(ρ.getD v .un).isOwn
theorem Rel.rst {H1 : Hp} {vs : List Nat} (r1 : Rel K dk H0 ρ σ H1) (no : noOwn ρ vs = true) (ex : Ex H1 H) (r : Rel K dk H0 ρ' (L2.wipe σ vs) H) : Rel K dk H0 (rstQ vs ρ ρ') σ H := by
  have hl : ρ'.length = σ.length := by rw [r.len, wipe_length]
  have no' : ∀ v ∈ vs, (ρ.getD v .un).isOwn = false := fun v hv => by
    have := List.all_eq_true.mp no v hv
    simpa using this
  have back : ∀ {j a}, OwnAt (rstQ vs ρ ρ') σ j a → OwnAt ρ' (L2.wipe σ vs) j a := by
    rintro j a ⟨s, e, h1, h2⟩
    rcases rstQ_some e with ⟨q1, rfl⟩ | ⟨q1, q2⟩
    · rw [no' j q1] at h1; cases h1
    · exact ⟨s, q2, h1, by rw [wipe_out q1]; exact h2⟩
  refine ⟨by rw [rstQ_length, hl], fun i s e => ?_, fun i j a h1 h2 => r.ap i j a (back h1) (back h2), r.dok, r.dk1, r.dk2, r.keep⟩
  rcases rstQ_some e with ⟨q1, rfl⟩ | ⟨q1, q2⟩
  · rw [List.getD_eq_getElem?_getD]
    cases e2 : ρ[i]? with
    | none => exact True.intro
    | some s =>
      have q := (r1.sl i s e2).ex ex fun a o w1 _ _ => by
        have := no' i q1
        rw [List.getD_eq_getElem?_getD, e2] at this
        rw [show s.isOwn = false from this] at w1
        cases w1
      exact q
  · have q := r.sl i s q2
    rw [wipe_out q1] at q
    exact q
end

/-! ### several expressions -/
section
variable {X : Cx} {pos : Pos} {a b c e : Expr} {ta tb tc t : TQ} {es : List Expr}
def upD (K : PySem.W.Frag) (dk : Dk) (H0 : Hp) (t : TQL) : TA := fun σ H Q => ∃ ρ R, Rel K dk H0 ρ σ H ∧ t ρ R ∧ ∀ xs ρ' vs H', R xs ρ' → FzAll K H' vs xs → Rel K dk H0 ρ' σ H' → Ex H H' → Q vs H'
structure QDs (X : Cx) (es : List Expr) (t : TQL) : Prop where
  run : ∀ dk H0, PA X es (upD X.K dk H0 t)
def dNil : TQL := fun ρ R => R [] ρ
def dCons (te : TQ) (t : TQL) : TQL := fun ρ R => te ρ fun x ρ1 => t ρ1 fun xs ρ2 => R (x :: xs) ρ2
theorem qd_nil : QDs X [] dNil := ⟨fun dk H0 => PA.imp pa_nil fun σ H Q ⟨ρ, R, rel, h, k⟩ => k [] ρ [] H h .nil rel (Ex.refl H)⟩
theorem qd_cons {te : TQ} {t : TQL} (he : QE X e te) (ht : QDs X es t) (hs : starEach (e :: es) X.env = (false, eval e X.env) :: starEach es X.env := by rfl) : QDs X (e :: es) (dCons te t) :=
  ⟨fun dk H0 => PA.imp (pa_cons (he.run dk H0) (ht.run dk H0) hs) fun σ H Q ⟨ρ, R, rel, h, k⟩ =>
    ⟨ρ, _, rel, h, fun x ρ1 v H1 hx fz rel1 ex1 => ⟨ρ1, _, rel1, hx, fun xs ρ2 vs H2 hxs fzs rel2 ex2 => k (x :: xs) ρ2 (v :: vs) H2 hxs (.cons (fz.mono ex2) fzs) rel2 (ex1.trans ex2)⟩⟩⟩
/-- (a, b, ..) -/
def tTupQ (t : TQL) : TQ := fun ρ R => t ρ fun xs ρ1 => xs.length ≤ 1000 ∧ R (.tuple xs) ρ1
theorem q_tup {t : TQL} {k} (h : QDs X es t) : QE X (.Tuple es k pos) (tTupQ t) :=
  ⟨fun dk H0 => PE.imp (pe_tup (h.run dk H0)) fun σ H Q ⟨ρ, R, rel, h, k⟩ =>
    ⟨ρ, _, rel, h, fun xs ρ1 vs H1 hxs fz rel1 ex1 => ⟨by have := fz.length; have := small1000 hxs.1; omega, fun p hp =>
      have sm := same_upd (o := .tup vs) hp
      k _ ρ1 _ _ hxs.2 (.tup (.inl (.inl upd_same)) (fz.mono (ex_same sm))) (rel1.same sm) (ex1.trans (ex_same sm))⟩⟩⟩
/-- [a, b, ..], a list that no one holds yet -/
def tLstQ (t : TQL) : TQL := fun ρ R => t ρ fun xs ρ1 => xs.length ≤ 1000 ∧ R xs ρ1
theorem ql_lst {t : TQL} (h : QDs X es t) : QL X (.List es pos) (tLstQ t) :=
  ⟨fun dk H0 => PE.imp (pe_lst (h.run dk H0)) fun σ H Q ⟨ρ, R, rel, h, k⟩ =>
    ⟨ρ, _, rel, h, fun xs ρ1 vs H1 hxs fz rel1 ex1 => ⟨by have := fz.length; have := small1000 hxs.1; omega, fun p hp =>
      have sm := same_upd (o := .lst vs) hp
      k _ ρ1 _ _ _ hxs.2 upd_same (fz.mono (ex_same sm)) (rel1.fresh0 hp) (rel1.freshOwn hp) (rel1.same sm) (ex1.trans (ex_same sm))⟩⟩⟩
/-- a new list, frozen at once -/
def tFz (t : TQL) : TQ := fun ρ R => t ρ fun xs ρ1 => R (.list xs) ρ1
theorem Rel.freeze {K : PySem.W.Frag} {dk : Dk} {H0 H : Hp} {ρ : En} {σ : L2.St} {p : Addr} {vs : List V} {o : HO} (r : Rel K dk H0 ρ σ H) (h : H p = some (.lst vs)) (n0 : H0 p = none) (no : ∀ j, ¬ OwnAt ρ σ j p) : Rel K dk H0 ρ σ (upd H p o) ∧ Ex H (upd H p o) := by
  have ex : Ex H (upd H p o) := ex_own h (.inl ⟨_, rfl⟩)
  refine ⟨⟨r.len, fun i s e => (r.sl i s e).ex ex fun a ob w1 w2 w3 => ?_, r.ap, ?_, r.dk1, r.dk2, fun a ob e h1 h2 => ?_⟩, ex⟩
  · rw [upd_ne]; exact w3
    rintro rfl
    exact no i ⟨s, e, w1, w2⟩
  · obtain ⟨n, cs, m, k, g1, g2, g3⟩ := r.dok
    refine ⟨n, cs, m, k, ?_, ?_, g3⟩
    · rw [upd_ne]; exact g1
      intro z; exact r.dk1 (by rw [z]; exact n0)
    · rw [upd_ne]; exact g2
      intro z; exact r.dk2 (by rw [z]; exact n0)
  · rw [upd_ne]; exact r.keep a ob e h1 h2
    rintro rfl; rw [n0] at e; cases e
theorem q_frz {t : TQL} (h : QL X e t) : QE X e (tFz t) := by
  refine ⟨fun dk H0 => ⟨fun pins s σ H Q I ⟨ρ, R, rel, h0, k⟩ => ?_⟩⟩
  let Q1 : VK := fun v H1 => ∃ xs ρ1 p vs, v = .ref p ∧ R (.list xs) ρ1 ∧ H1 p = some (.lst vs) ∧ FzAll X.K H1 vs xs ∧ H0 p = none ∧ (∀ j, ¬ OwnAt ρ1 σ j p) ∧ Rel X.K dk H0 ρ1 σ H1 ∧ Ex H H1
  refine thn ((h.run dk H0).run pins s σ H Q1 I ⟨ρ, _, rel, h0, fun xs ρ1 p vs H1 q1 q2 q3 q4 q5 q6 q7 => ⟨xs, ρ1, p, vs, rfl, q1, q2, q3, q4, q5, q6, q7⟩⟩) fun u s1 ⟨v, H1, I1, rv, xs, ρ1, p, vs, e, q1, q2, q3, q4, q5, q6, q7⟩ => ?_
  subst e
  obtain ⟨od, I2⟩ := I1.lock q2 True.intro
  obtain ⟨r2, ex⟩ := q6.freeze (o := .frz od (.lst vs)) q2 q4 q5
  exact ⟨.ref p, _, I2, rv, k (.list xs) ρ1 (.ref p) _ q1 (.lst upd_same (q3.mono ex)) r2 (q7.trans ex)⟩

/-! ### items and slices -/
/-- x[i] -/
def ixD : C2 := fun x y R => match x, y with
  | .list xs, .int i => ∃ v, atI xs i = some v ∧ R v
  | .tuple xs, .int i => ∃ v, atI xs i = some v ∧ R v
  | .str z, .int i => z.length ≤ sizeLine ∧ ∃ c, atI z.cps.toList i = some c ∧ R (.str ⟨#[c]⟩)
  | _, _ => False
theorem atI_fz {K : PySem.W.Frag} {H : Hp} {vs : List V} {xs : List PyData} {i : Int} {x : PyData} (f : FzAll K H vs xs) (h : atI xs i = some x) : ∃ v, atI vs i = some v ∧ Fz K H v x := by
  unfold atI at h ⊢
  rw [← f.length] at h
  cases e : ixN vs.length i with
  | none => rw [e] at h; cases h
  | some j =>
    rw [e] at h
    exact f.at h
theorem br_ix : Br2 X.K (rIx X.K) ixD := by
  intro x y v u H Q R h1 h2 c k
  cases h1 with
  | lst q t =>
    cases h2 <;> first | exact c.elim | skip
    obtain ⟨z, hz, c⟩ := c
    obtain ⟨w, hw, fw⟩ := atI_fz t hz
    exact .inl ⟨_, _, _, w, rfl, rfl, .inl (.inr ⟨_, q⟩), hw, k z w H c fw (Same.refl H)⟩
  | tup q t =>
    cases h2 <;> first | exact c.elim | skip
    obtain ⟨z, hz, c⟩ := c
    obtain ⟨w, hw, fw⟩ := atI_fz t hz
    exact .inr (.inl ⟨_, _, _, w, rfl, rfl, q, hw, k z w H c fw (Same.refl H)⟩)
  | str z =>
    cases h2 <;> first | exact c.elim | skip
    obtain ⟨c1, cc, c2, c3⟩ := c
    exact .inr (.inr ⟨_, _, cc, rfl, rfl, c1, c2, k _ _ H c3 (.str _) (Same.refl H)⟩)
  | _ => cases h2 <;> exact c.elim
theorem q_ix (ha : QE X a ta) (hb : QE X b tb) (hs : PlainIx b := by intro _ _; rfl) : QE X (.Subscript a b pos) (t2 ixD ta tb) :=
  ⟨fun dk H0 => PE.imp (pe_ix ix_seq (ha.run dk H0) (hb.run dk H0) hs) (up_op br_ix)⟩
end
end Q
end P3
section P4
namespace Q
open PySem PySem.Spec PyProof.Rows L2 HT

/-! ### t[::-1] of a tuple -/
section
variable {prog : Program} {w : World} {A : Around} {E : Value → Shared → Prop} {s : Shared}
theorem rev_pick (xs : Array Value) : ((List.range xs.size).filterMap fun (k : Nat) => xs[((xs.size : Int) - 1 + (k : Int) * (-1)).toNat]?).toArray = xs.toList.reverse.toArray := by
  have e : (fun (k : Nat) => xs[((xs.size : Int) - 1 + (k : Int) * (-1)).toNat]?) = (fun k => xs[k]?) ∘ fun k => xs.size - 1 - k := by
    funext k
    show xs[_]? = xs[_]?
    by_cases h : k < xs.size
    · rw [show ((xs.size : Int) - 1 + (k : Int) * (-1)).toNat = xs.size - 1 - k by omega]
    · rw [show ((xs.size : Int) - 1 + (k : Int) * (-1)).toNat = xs.size - 1 - k by omega]
  rw [e, ← List.filterMap_map, PySem.W.krv_range, List.filterMap_reverse, PySem.W.krv_all]
theorem sliceApplied_rev {sl : Addr} {u : Tok} {n : Nat} {Q : Int × Int × Nat → Shared → Prop} (hs : s.heap.IsSliceOf sl .none .none (.int (-1) u))
    (h : Q ((n : Int) - 1, -1, n) s) : wpAny (model prog w) A (Builtin.Slice.sliceApplied (.ref sl) (pure (n : Int))) Q E s := by
  obtain ⟨os, hos, hcs, hds⟩ := id hs
  unfold Builtin.Slice.sliceApplied Builtin.Slice.sliceFields
  refine wpAny_bind (wpAny_bind (wpAny_field hos hds (x := .none) rfl (wpAny_bind (wpAny_field hos hds (x := .none) rfl (wpAny_bind (wpAny_field hos hds (x := .int (-1) u) rfl (wpAny_pure ?_)))))))
  refine wpAny_bind (slicePart_int ?_)
  show wpAny _ _ (if ((-1 : Int) == 0) = true then _ else _) _ _ s
  rw [if_neg (by decide)]
  refine wpAny_bind (slicePart_none (wpAny_bind (slicePart_none (wpAny_bind (wpAny_pure ?_)))))
  have e : Builtin.Slice.sliceAdjust none none (-1) (n : Int) = ((n : Int) - 1, -1) := rfl
  show wpAny _ _ (match Builtin.Slice.sliceAdjust none none (-1) (n : Int) with | (lo, hi) => pure (lo, (-1 : Int), Builtin.Slice.slicePlaces lo hi (-1))) _ _ s
  rw [e]
  show wpAny _ _ (pure ((n : Int) - 1, (-1 : Int), Builtin.Slice.slicePlaces ((n : Int) - 1) (-1) (-1))) _ _ s
  have e2 : Builtin.Slice.slicePlaces ((n : Int) - 1) (-1) (-1) = n := by
    unfold Builtin.Slice.slicePlaces
    have h1 : ¬ ((-1 : Int) > 0) := by omega
    simp only [h1, if_false]
    split
    · show (((n : Int) - 1 - -1 - 1) / (- -1) + 1).toNat = n
      rw [show (- (-1) : Int) = 1 from rfl, Int.ediv_one]; omega
    · show (0 : Int).toNat = n
      omega
  rw [e2]
  exact wpAny_pure h
theorem getItem_tuple_rev {t sl : Addr} {items : Array Value} {u : Tok} {Q : Value → Shared → Prop} (ht : IsTup s.heap t items) (hs : s.heap.IsSliceOf sl .none .none (.int (-1) u))
    (h : Q (.ref s.heap.objs.size) { s with heap := s.heap.push { cls := .type "tuple", data := .seq items.toList.reverse.toArray } })
    (hsz : items.size ≤ sizeLine) : wpAny (model prog w) A (getItem (.ref t) (.ref sl)) Q E s := by
  have htake : sizeOk (.seq items.toList.reverse.toArray) := by
    show items.toList.reverse.toArray.size ≤ sizeLine
    rw [List.size_toArray, List.length_reverse, Array.length_toList]
    omega
  obtain ⟨os, hos, hcs, hds⟩ := id hs
  have hTs : s.TypeIs (.ref sl) "slice" := ⟨os, hos, hcs⟩
  unfold getItem
  try with_reducible refine wpAny_holding ?_
  first | refine wpAny_bind (wpAny_pure ?_) | skip
  refine wpAny_bind (wpAny_sequenceKey ht.typeIs (by decide) ?_)
  refine wpAny_bind (wpAny_callSpecial?_slot (name := Str.ofString "__getitem__") ht.typeIs PyProof.Rows.slot_tuple_getitem
    (wpAny_call_entry PyProof.Rows.slot_tuple_getitem ht.typeIs entry_tuple_getitem ?_ (args_tuple_getitem _ _)))
  show wpAny _ _ (Builtin.Tuple.tupleItemsOf (.ref t) >>= _) _ _ s
  refine wpAny_bind (tupleItemsOf_ ht ?_)
  refine wpAny_bind (wpAny_typeOf hTs ?_)
  rw [if_pos (by decide)]
  refine wpAny_bind (sliceApplied_rev hs ?_)
  have hno : ¬ ((((items.size : Int) - 1) == 0 && (-1 : Int) == 1 && items.size == items.size) = true) := by
    intro q
    rw [Bool.and_eq_true, Bool.and_eq_true] at q
    exact absurd (eq_of_beq q.1.2) (by decide)
  show wpAny _ _ (if (((items.size : Int) - 1) == 0 && (-1 : Int) == 1 && items.size == items.size) = true then _ else _) _ _ s
  rw [if_neg hno, rev_pick]
  first
    | exact wpAny_bind (m := Builtin.Tuple.tupleExact _) (wpAny_newObj_type (wpAny_pure ⟨_, rfl, wpAny_pure h⟩) htake)
    | exact wpAny_bind (m := Builtin.Tuple.tupleExact _) (wpAny_newObj_type (wpAny_bind (wpAny_pure (wpAny_pure ⟨_, rfl, wpAny_pure h⟩))) htake)
    | exact wpAny_bind (wpAny_bind (m := Builtin.Tuple.tupleExact _) (wpAny_newObj_type (wpAny_pure (wpAny_pure ⟨_, rfl, wpAny_pure h⟩)) htake))
    | exact wpAny_bind (wpAny_bind (m := Builtin.Tuple.tupleExact _) (wpAny_newObj_type (wpAny_pure ⟨_, rfl, wpAny_pure h⟩) htake))
end
section
variable {X : Cx} {pos : Pos} {a b c e : Expr} {ta tb tc t te : TQ} {es : List Expr}
/-- a new list among the answers is frozen at once -/
theorem pe_fz {t : TE} (h : PE X e t) : PE X e (fun σ H Q => t σ H fun v H1 => Q v H1 ∨ ∃ p vs, v = .ref p ∧ H1 p = some (.lst vs) ∧ ∀ od, Q v (upd H1 p (.frz od (.lst vs)))) := by
  refine ⟨fun pins s σ H Q I h0 => ?_⟩
  refine thn (h.run pins s σ H _ I h0) fun u s1 ⟨v, H1, I1, rv, q⟩ => ?_
  rcases q with q | ⟨p, vs, rfl, hp, q⟩
  · exact ⟨v, H1, I1, rv, q⟩
  · obtain ⟨od, I2⟩ := I1.lock hp True.intro
    exact ⟨.ref p, _, I2, rv, q od⟩
theorem ex_new {H : Hp} {p : Addr} {o : HO} (n : H p = none) : Ex H (upd H p o) := ex_same (same_upd n)
theorem frz_new {K : PySem.W.Frag} {H : Hp} {p : Addr} {vs : List V} {xs : List PyData} (n : H p = none) (f : FzAll K H vs xs) (od : Obj) : Fz K (upd (upd H p (.lst vs)) p (.frz od (.lst vs))) (.ref p) (.list xs) ∧ Same H (upd (upd H p (.lst vs)) p (.frz od (.lst vs))) := by
  rw [upd_upd]
  exact ⟨.lst upd_same (f.mono (ex_new n)), same_upd n⟩
/-- x[::-1] -/
def revD : C1 := fun x R => match x with
  | .list xs => R (.list xs.reverse)
  | .tuple xs => R (.tuple xs.reverse)
  | _ => False
theorem pe_revA {e : Expr} {te : TE} {k : Nat} {p1 p2 p3 pos : Pos} (he : PE X e te) : PE X (.Subscript e (.Slice none none (some (.UnaryOp .USub (.Constant (.int 1) k p1) p2)) p3) pos)
    (fun σ H Q => te σ H fun x H1 => ∃ a xs, x = .ref a ∧ ((SqL X.K H1 a xs ∧ ∀ p, H1 p = none → Q (.ref p) (upd H1 p (.lst xs.reverse))) ∨ (SqT X.K H1 a xs ∧ ∀ p, H1 p = none → Q (.ref p) (upd H1 p (.tup xs.reverse))))) := by
  refine ⟨fun pins s σ H Q I h => ?_⟩
  refine Subscript_ (thn (he.run pins s σ H _ I h) fun v s1 ⟨x, H1, I1, r1, q1⟩ => ?_)
  obtain ⟨a, xs, ex, q1⟩ := q1
  subst ex
  cases r1
  have hst : PO X (some (.UnaryOp .USub (.Constant (.int 1) k p1) p2)) (tPart (tUn (rU fun i => .int (-i)) (tC (.int 1)))) := po_some (pe_un un_neg pe_int)
  refine wpAny_Slice (thn (po_none.run pins s1 σ H1 (fun o H2 => o = none ∧ H2 = H1) I1 ⟨rfl, rfl⟩) fun vl s2 ⟨l, H2, I2, pl, el, e2⟩ => ?_)
  subst el e2
  refine thn (po_none.run pins s2 σ H2 (fun o H3 => o = none ∧ H3 = H2) I2 ⟨rfl, rfl⟩) fun vu s3 ⟨u, H3, I3, pu, eu, e3⟩ => ?_
  subst eu e3
  refine thn (hst.run pins s3 σ H3 (fun o H4 => o = some (-1) ∧ H4 = H3) I3 ⟨1, rfl, -1, rfl, rfl, rfl⟩) fun vs s4 ⟨o, H4, I4, ps, eo, e4⟩ => ?_
  subst eo e4
  have I5 : Inv X pins σ H4 { s4 with heap := s4.heap.push { cls := .type "slice", data := .fields #[vl, vu, vs] } } := I4.kept (t' := s4.toks) fun b ob q => Heap.get?_push_of_some _ q
  show wpAny (model X.prog X.w) X.A (subscriptTail e (.Slice none none (some (.UnaryOp .USub (.Constant (.int 1) k p1) p2)) p3) (.ref a) (.ref s4.heap.objs.size)) (EP X pins σ Q) X.xe { s4 with heap := s4.heap.push { cls := .type "slice", data := .fields #[vl, vu, vs] } }
  rcases q1 with ⟨hx, q⟩ | ⟨hx, q⟩
  · obtain ⟨its, r, ht, hz⟩ := I5.list hx
    have hlen := r.length
    refine tail_any (ops := [.ref a, .ref s4.heap.objs.size]) ht.isList.typeIs (PySem.slot_list_getitem.lookup) ?_ (by with_unfolding_all rfl)
    refine wpAny_getItem_list_slice ht.isList (Heap.IsSliceOf.new _ vl vu vs) pl pu ps (by decide) ?_ (by rw [List.size_toArray]; omega)
    rw [PySem.W.krv_pick]
    refine ⟨.ref _, _, I5.laid (t' := s4.toks) (o := .lst xs.reverse) (fun b ob q => Heap.get?_push_of_some _ q) (Nat.le_refl _) ?_, rfl, q _ (I5.hok.fresh (Nat.le_refl _))⟩
    exact ⟨by rw [List.length_reverse]; exact hz, _, 0, r.reverse, Heap.get?_push_size _ rfl⟩
  · obtain ⟨its, r, ht, hz⟩ := I5.tuple hx
    have hlen := r.length
    cases pl
    cases pu
    cases ps
    refine tail_any (ops := [.ref a, .ref s4.heap.objs.size]) ht.typeIs (PyProof.Rows.slot_tuple_getitem.lookup) ?_ (by with_unfolding_all rfl)
    refine getItem_tuple_rev ht (Heap.IsSliceOf.new _ .none .none _) ?_ (by rw [List.size_toArray]; omega)
    refine ⟨.ref _, _, I5.laid (t' := s4.toks) (o := .tup xs.reverse) (fun b ob q => Heap.get?_push_of_some _ q) (Nat.le_refl _) ?_, rfl, q _ (I5.hok.fresh (Nat.le_refl _))⟩
    exact ⟨by rw [List.length_reverse]; exact hz, _, r.reverse, IsTup.new _ _⟩
theorem q_rev {k : Nat} {p1 p2 p3 pos : Pos} (he : QE X e te) : QE X (.Subscript e (.Slice none none (some (.UnaryOp .USub (.Constant (.int 1) k p1) p2)) p3) pos) (t1 revD te) :=
  ⟨fun dk H0 => PE.imp (pe_fz (pe_revA (he.run dk H0))) fun σ H Q ⟨ρ, R, rel, h, k⟩ => ⟨ρ, _, rel, h, fun x ρ1 v H1 hx fz rel1 ex1 => by
    cases fz with
    | lst q t =>
      refine ⟨_, _, rfl, .inl ⟨.inl (.inr ⟨_, q⟩), fun p hp => .inr ⟨p, _, rfl, upd_same, fun od => ?_⟩⟩⟩
      obtain ⟨f, sm⟩ := frz_new hp t.reverse od
      exact k _ ρ1 _ _ hx f (rel1.same sm) (ex1.trans (ex_same sm))
    | @tup a xs ds q t =>
      refine ⟨_, _, rfl, .inr ⟨q, fun p hp => .inl ?_⟩⟩
      have sm := same_upd (o := .tup xs.reverse) hp
      exact k _ ρ1 _ _ hx (.tup (.inl (.inl upd_same)) (t.reverse.mono (ex_same sm))) (rel1.same sm) (ex1.trans (ex_same sm))
    | _ => exact hx.elim⟩⟩
/-- slices -/
abbrev TQO := En → (Option Int → En → Prop) → Prop
def upO (K : PySem.W.Frag) (dk : Dk) (H0 : Hp) (t : TQO) : TO := fun σ H Q => ∃ ρ R, Rel K dk H0 ρ σ H ∧ t ρ R ∧ ∀ o ρ' H', R o ρ' → Rel K dk H0 ρ' σ H' → Ex H H' → Q o H'
structure QO (X : Cx) (e : Option Expr) (t : TQO) : Prop where
  run : ∀ dk H0, PO X e (upO X.K dk H0 t)
theorem PO.imp {e : Option Expr} {t t' : TO} (h : PO X e t) (w : ∀ σ H Q, t' σ H Q → t σ H Q) : PO X e t' := ⟨fun pins s σ H Q I q => h.run pins s σ H Q I (w _ _ _ q)⟩
def oNone : TQO := fun ρ R => R none ρ
def oSome (te : TQ) : TQO := fun ρ R => te ρ fun x ρ1 => match x with
  | .int i => R (some i) ρ1
  | _ => False
theorem qo_none : QO X none oNone := ⟨fun dk H0 => PO.imp po_none fun σ H Q ⟨ρ, R, rel, h, k⟩ => k none ρ H h rel (Ex.refl H)⟩
theorem qo_some (he : QE X e te) : QO X (some e) (oSome te) :=
  ⟨fun dk H0 => PO.imp (po_some (he.run dk H0)) fun σ H Q ⟨ρ, R, rel, h, k⟩ => ⟨ρ, _, rel, h, fun x ρ1 v H1 hx fz rel1 ex1 => by
    cases fz with
    | int i => exact ⟨i, rfl, k _ ρ1 H1 hx rel1 ex1⟩
    | _ => exact hx.elim⟩⟩
def cutD (xs : List PyData) (lo hi : Option Int) : List PyData := (xs.drop (HT.sIx xs.length 0 lo)).take (HT.sIx xs.length xs.length hi - HT.sIx xs.length 0 lo)
theorem cut_fz {K : PySem.W.Frag} {H : Hp} {vs : List V} {xs : List PyData} (f : FzAll K H vs xs) (lo hi : Option Int) : FzAll K H (cutV vs lo hi) (cutD xs lo hi) := by
  unfold cutV cutD
  rw [f.length]
  exact (f.drop _).take _
def slD (x : PyData) (lo hi : Option Int) (R : PyData → Prop) : Prop := match x with
  | .list xs => R (.list (cutD xs lo hi))
  | .tuple xs => R (.tuple (cutD xs lo hi))
  | .str z => z.length ≤ sizeLine ∧ R (.str (cutS z lo hi))
  | _ => False
def tSlQ (te : TQ) (tl th : TQO) : TQ := fun ρ R => te ρ fun x ρ1 => tl ρ1 fun lo ρ2 => th ρ2 fun hi ρ3 => slD x lo hi fun z => R z ρ3
theorem q_slice {lo hi : Option Expr} {tl th : TQO} {p2 : Pos} (he : QE X e te) (hl : QO X lo tl) (hu : QO X hi th) : QE X (.Subscript e (.Slice lo hi none p2) pos) (tSlQ te tl th) := by
  refine ⟨fun dk H0 => PE.imp (pe_fz (pe_slice (sl_list.or (sl_tupA.or sl_str)) (he.run dk H0) (hl.run dk H0) (hu.run dk H0))) fun σ H Q ⟨ρ, R, rel, h, k⟩ =>
    ⟨ρ, _, rel, h, fun x ρ1 v H1 hx fz rel1 ex1 => ⟨ρ1, _, rel1, hx, fun lo ρ2 H2 hlo rel2 ex2 => ⟨ρ2, _, rel2, hlo, fun hi ρ3 H3 hhi rel3 ex3 => ?_⟩⟩⟩⟩
  have ex := ex1.trans (ex2.trans ex3)
  have fz := fz.mono (ex2.trans ex3)
  cases fz with
  | lst q t =>
    refine .inl ⟨_, _, rfl, .inl (.inr ⟨_, q⟩), fun p hp => .inr ⟨p, _, rfl, upd_same, fun od => ?_⟩⟩
    obtain ⟨f, sm⟩ := frz_new hp (cut_fz t lo hi) od
    exact k _ ρ3 _ _ hhi f (rel3.same sm) (ex.trans (ex_same sm))
  | @tup a xs ds q t =>
    refine .inr (.inl ⟨_, _, rfl, q, fun w => .inl ?_, fun w p hp => .inl ?_⟩)
    · have e : cutD ds lo hi = ds := by
        unfold cutD
        rw [← t.length, w.1, w.2]
        simp [t.length]
      have hhi : R (.tuple (cutD ds lo hi)) ρ3 := hhi
      rw [e] at hhi
      exact k _ ρ3 _ _ hhi (.tup q t) rel3 ex
    · have sm := same_upd (o := .tup (cutV xs lo hi)) hp
      exact k _ ρ3 _ _ hhi (.tup (.inl (.inl upd_same)) ((cut_fz t lo hi).mono (ex_same sm))) (rel3.same sm) (ex.trans (ex_same sm))
  | str z => exact .inr (.inr ⟨_, rfl, hhi.1, .inl (k _ ρ3 _ _ hhi.2 (.str _) rel3 ex)⟩)
  | _ => exact hhi.elim
end
end Q
end P4
section P5
namespace Q
open PySem PySem.Spec PyProof.Rows L2 HT

/-! ### targets -/
abbrev TGQ := PyData → En → (En → Prop) → Prop
abbrev TGsQ := List PyData → En → (En → Prop) → Prop
def upG (K : PySem.W.Frag) (dk : Dk) (H0 : Hp) (is : List Nat) (g : TGQ) : TG := fun v σ H Q => ∃ x ρ R, Fz K H v x ∧ Rel K dk H0 ρ σ H ∧ g x ρ R ∧ ∀ ρ' σ', R ρ' → Rel K dk H0 ρ' σ' H → (∀ vs : List Nat, (∀ i ∈ is, i ∈ vs) → wipe σ' vs = wipe σ vs) → Q σ' H
def upGs (K : PySem.W.Frag) (dk : Dk) (H0 : Hp) (is : List Nat) (g : TGsQ) : TGs := fun v σ H Q => ∃ x ρ R, FzAll K H v x ∧ Rel K dk H0 ρ σ H ∧ g x ρ R ∧ ∀ ρ' σ', R ρ' → Rel K dk H0 ρ' σ' H → (∀ vs : List Nat, (∀ i ∈ is, i ∈ vs) → wipe σ' vs = wipe σ vs) → Q σ' H
structure QG (X : Cx) (tg : Expr) (is : List Nat) (g : TGQ) : Prop where
  run : ∀ dk H0, PG X tg (upG X.K dk H0 is g)
structure QGs (X : Cx) (tgs : List Expr) (is : List Nat) (g : TGsQ) : Prop where
  run : ∀ dk H0, PGs X tgs (upGs X.K dk H0 is g)
section
variable {X : Cx} {pos : Pos}
theorem PG.imp {tg : Expr} {g g' : TG} (h : PG X tg g) (w : ∀ v σ H Q, g' v σ H Q → g v σ H Q) : PG X tg g' := ⟨fun pins s σ H v u Q I r q => h.run pins s σ H v u Q I r (w _ _ _ _ q)⟩
theorem PGs.imp {tg : List Expr} {g g' : TGs} (h : PGs X tg g) (w : ∀ v σ H Q, g' v σ H Q → g v σ H Q) : PGs X tg g' := ⟨fun pins s σ H v u Q I r q => h.run pins s σ H v u Q I r (w _ _ _ _ q)⟩
def gN (i : Nat) : TGQ := fun x ρ R => R (ρ.set i (.d x))
theorem qg_name (i : Nat) {x : Str} (hN : X.N.Nodup) (hi : X.N[i]? = some x := by rfl) (hx : Loc X.env.scope x := by first | exact Or.inl rfl | exact Or.inr rfl)
    (hf : X.fn x = true ∨ X.env.scope.names.lookup x = some .local := by first | exact .inl rfl | exact .inr rfl) : QG X (.Name x pos) [i] (gN i) :=
  ⟨fun dk H0 => PG.imp (pg_name hN hi hx hf) fun v σ H Q ⟨x, ρ, R, fz, rel, h, k⟩ => k _ _ h (rel.set ⟨v, rfl, fz⟩ fun a z => nomatch z) fun vs hv => wipe_set (hv i (by simp))⟩
def gsNil : TGsQ := fun xs ρ R => xs = [] ∧ R ρ
def gsCons (g : TGQ) (gs : TGsQ) : TGsQ := fun xs ρ R => match xs with
  | [] => False
  | x :: xs => g x ρ fun ρ1 => gs xs ρ1 R
theorem qgs_nil : QGs X [] [] gsNil := ⟨fun dk H0 => PGs.imp pgs_nil fun v σ H Q ⟨x, ρ, R, fz, rel, h, k⟩ => by
  obtain ⟨rfl, h⟩ := h
  cases fz
  exact ⟨rfl, k ρ σ h rel fun _ _ => rfl⟩⟩
theorem qgs_cons {e : Expr} {es : List Expr} {is js : List Nat} {g : TGQ} {gs : TGsQ} (h1 : QG X e is g) (h2 : QGs X es js gs)
    (hs : (assignEach (e :: es) X.env).map (·.2) = assign e X.env :: (assignEach es X.env).map (·.2) := by rfl) : QGs X (e :: es) (is ++ js) (gsCons g gs) :=
  ⟨fun dk H0 => PGs.imp (pgs_cons (h1.run dk H0) (h2.run dk H0) hs) fun v σ H Q ⟨x, ρ, R, fz, rel, h, k⟩ => by
    cases fz with
    | nil => exact h.elim
    | cons fa fb =>
      refine ⟨_, _, rfl, _, ρ, _, fa, rel, h, fun ρ1 σ1 h1 rel1 w1 => ⟨_, ρ1, R, fb, rel1, h1, fun ρ2 σ2 hr rel2 w2 => k ρ2 σ2 hr rel2 fun vs hv => ?_⟩⟩
      rw [w2 vs fun i hi => hv i (List.mem_append_right _ hi), w1 vs fun i hi => hv i (List.mem_append_left _ hi)]⟩
def gT (n : Nat) (gs : TGsQ) : TGQ := fun x ρ R => match x with
  | .tuple xs => xs.length = n ∧ gs xs ρ R
  | _ => False
theorem qg_tup {es : List Expr} {k n : Nat} {is : List Nat} {gs : TGsQ} (hc : X.calm = true) (h : QGs X es is gs)
    (hn : (assignEach es X.env).length = n := by rfl) (hst : (assignEach es X.env).findIdx? (·.1) = none := by rfl) : QG X (.Tuple es k pos) is (gT n gs) :=
  ⟨fun dk H0 => PG.imp (pg_tup hc (h.run dk H0) hn hst) fun v σ H Q ⟨x, ρ, R, fz, rel, h, k⟩ => by
    cases fz with
    | tup q t => exact ⟨_, _, rfl, q, by rw [t.length]; exact h.1, _, ρ, R, t, rel, h.2, k⟩
    | _ => exact h.elim⟩
end

/-! ### what is walked -/
structure WalkD (K : PySem.W.Frag) (J : It) (ds : List PyData) (G : Hp → Prop) : Prop where
  goes : ∀ i H, i < ds.length → G H → J.go i H
  stops : ∀ H, G H → J.stop ds.length H
  yields : ∀ i H x H', i < ds.length → G H → J.yld i H x H' → ∃ d, ds[i]? = some d ∧ Fz K H' x d ∧ Same H H'
  stay : ∀ H H', G H → Ex H H' → G H'
def upI (K : PySem.W.Frag) (dk : Dk) (H0 : Hp) (t : TQL) : TI := fun σ H Q => ∃ ρ R, Rel K dk H0 ρ σ H ∧ t ρ R ∧ ∀ ds ρ' J G H', R ds ρ' → ds.length ≤ sizeLine → WalkD K J ds G → G H' → Rel K dk H0 ρ' σ H' → Ex H H' → Q J H'
structure QI (X : Cx) (tg iter : Expr) (t : TQL) : Prop where
  run : ∀ dk H0, PI X tg iter (upI X.K dk H0 t)
section
variable {X : Cx} {pos : Pos} {tg e a b : Expr} {te ta tb : TQ}
theorem PI.imp {tg iter : Expr} {g g' : TI} (h : PI X tg iter g) (w : ∀ σ H Q, g' σ H Q → g σ H Q) : PI X tg iter g' := ⟨fun pins s σ H Q I q => h.run pins s σ H Q I (w _ _ _ q)⟩
def G1 (K : PySem.W.Frag) (a : Addr) (o : Obj) (vs : List V) (ds : List PyData) : Hp → Prop := fun H => H a = some (.frz o (.lst vs)) ∧ FzAll K H vs ds
def G2 (K : PySem.W.Frag) (a : Addr) (vs : List V) (ds : List PyData) : Hp → Prop := fun H => SqT K H a vs ∧ FzAll K H vs ds
theorem wd_list {K : PySem.W.Frag} {a : Addr} {o : Obj} {vs : List V} {ds : List PyData} : WalkD K (Itl K a) ds (G1 K a o vs ds) := by
  refine ⟨fun i H hi ⟨q, f⟩ => ?_, fun H ⟨q, f⟩ => ?_, fun i H x H' hi ⟨q, f⟩ y => ?_, fun H H' ⟨q, f⟩ ex => ⟨ex.frz _ _ _ q, f.mono ex⟩⟩
  · exact ⟨vs, vs[i]'(by rw [f.length]; exact hi), .inl (.inr ⟨o, q⟩), by simp [f.length, hi]⟩
  · exact ⟨vs, .inl (.inr ⟨o, q⟩), by rw [f.length]; exact Nat.le_refl _⟩
  · obtain ⟨rfl, y⟩ := y
    obtain ⟨d, hd, fd⟩ := f.get (y vs (.inl (.inr ⟨o, q⟩)))
    exact ⟨d, hd, fd, Same.refl _⟩
theorem wd_tup {K : PySem.W.Frag} {a : Addr} {vs : List V} {ds : List PyData} : WalkD K (Itt K a) ds (G2 K a vs ds) := by
  refine ⟨fun i H hi ⟨q, f⟩ => ?_, fun H ⟨q, f⟩ => ?_, fun i H x H' hi ⟨q, f⟩ y => ?_, fun H H' ⟨q, f⟩ ex => ⟨ex.sqT q, f.mono ex⟩⟩
  · exact ⟨vs, vs[i]'(by rw [f.length]; exact hi), q, by simp [f.length, hi]⟩
  · exact ⟨vs, q, by rw [f.length]; exact Nat.le_refl _⟩
  · obtain ⟨rfl, y⟩ := y
    obtain ⟨d, hd, fd⟩ := f.get (y vs q)
    exact ⟨d, hd, fd, Same.refl _⟩
def chars (z : Str) : List PyData := z.cps.toList.map fun c => .str ⟨#[c]⟩
theorem wd_str {K : PySem.W.Frag} {z : Str} : WalkD K (Its z) (chars z) (fun _ => True) := by
  have hl : (chars z).length = z.cps.size := by simp [chars]
  refine ⟨fun i H hi _ => by rw [hl] at hi; exact hi, fun H _ => by show z.cps.size ≤ _; rw [hl]; exact Nat.le_refl _, fun i H x H' hi _ y => ?_, fun _ _ _ _ => True.intro⟩
  obtain ⟨rfl, c, hc, rfl⟩ := y
  refine ⟨.str ⟨#[c]⟩, ?_, .str _, Same.refl _⟩
  rw [Array.getElem?_eq_some_iff] at hc
  obtain ⟨h1, h2⟩ := hc
  simp [chars, h1, h2]
/-- any list, tuple or text -/
def itD (x : PyData) (R : List PyData → Prop) : Prop := match x with
  | .list ds => R ds
  | .tuple ds => R ds
  | .str z => z.length ≤ sizeLine ∧ R (chars z)
  | _ => False
def iQ (te : TQ) : TQL := fun ρ R => te ρ fun x ρ1 => itD x fun ds => R ds ρ1
/-- pyIter of a list, a tuple -/
theorem iter_l {pins : List (Addr × Obj)} {s1 : Shared} {σ : L2.St} {H1 : Hp} {a : Addr} {xs : List V} {R : It → Hp → Prop} (I1 : Inv X pins σ H1 s1) (hq : SqL X.K H1 a xs) (q : R (Itl X.K a) H1) :
    wpAny (model X.prog X.w) X.A (pyIter (.ref a)) (PIE X pins σ tg R) X.xe s1 := by
  obtain ⟨its, rv, p, hz⟩ := I1.list hq
  refine wpAny_pyIter_list p.isList ?_
  refine ⟨s1.heap.objs.size, [s1.heap.objs.size], _, _, H1, rfl, I1.kept (t' := s1.toks) fun b o e => Heap.get?_push_of_some _ e, turn_list a _, ⟨_, Heap.get?_push_size _ rfl, rfl, rfl⟩, fun b hb => ?_, q⟩
  have e : b = s1.heap.objs.size := by simpa using hb
  subst e
  exact I1.fpOk (Nat.le_refl _) (I1.hok.fresh (Nat.le_refl _))
theorem iter_t {pins : List (Addr × Obj)} {s1 : Shared} {σ : L2.St} {H1 : Hp} {a : Addr} {xs : List V} {R : It → Hp → Prop} (I1 : Inv X pins σ H1 s1) (hq : SqT X.K H1 a xs) (q : R (Itt X.K a) H1) :
    wpAny (model X.prog X.w) X.A (pyIter (.ref a)) (PIE X pins σ tg R) X.xe s1 := by
  obtain ⟨its, rv, p, hz⟩ := I1.tuple hq
  refine wpAny_pyIter_tuple (show s1.heap.IsTuple a its.toArray from p) ?_
  refine ⟨s1.heap.objs.size, [s1.heap.objs.size], _, _, H1, rfl, I1.kept (t' := s1.toks) fun b o e => Heap.get?_push_of_some _ e, turn_tuple a _, ⟨_, Heap.get?_push_size _ rfl, rfl, rfl⟩, fun b hb => ?_, q⟩
  have e : b = s1.heap.objs.size := by simpa using hb
  subst e
  exact I1.fpOk (Nat.le_refl _) (I1.hok.fresh (Nat.le_refl _))
theorem qi_e (he : QE X e te) : QI X tg e (iQ te) := by
  refine ⟨fun dk H0 => ⟨fun pins s σ H R I ⟨ρ, R0, rel, h, k⟩ => ?_⟩⟩
  refine thn ((he.run dk H0).run pins s σ H (fun v H1 => ∃ x ρ1, itD x (fun ds => R0 ds ρ1) ∧ Fz X.K H1 v x ∧ Rel X.K dk H0 ρ1 σ H1 ∧ Ex H H1) I ⟨ρ, _, rel, h, fun x ρ1 v H1 hx fz rel1 ex1 => ⟨x, ρ1, hx, fz, rel1, ex1⟩⟩) fun u s1 ⟨v, H1, I1, rv, x, ρ1, hx, fz, rel1, ex1⟩ => ?_
  cases fz with
  | lst q t =>
    cases rv
    obtain ⟨_, _, _, hz⟩ := I1.list (.inl (.inr ⟨_, q⟩))
    exact iter_l I1 (.inl (.inr ⟨_, q⟩)) (k _ ρ1 _ _ H1 hx (by rw [← t.length]; exact hz) wd_list ⟨q, t⟩ rel1 ex1)
  | tup q t =>
    cases rv
    obtain ⟨_, _, _, hz⟩ := I1.tuple q
    exact iter_t I1 q (k _ ρ1 _ _ H1 hx (by rw [← t.length]; exact hz) wd_tup ⟨q, t⟩ rel1 ex1)
  | str z =>
    obtain ⟨tk, rfl⟩ := rv
    have q := k (chars z) ρ1 _ _ H1 hx.2 (by rw [show (chars z).length = z.length by simp [chars, Str.length]]; exact hx.1) wd_str True.intro rel1 ex1
    cases ha : z.cps.all (· < 128)
    · exact wpAny_pyIter_wide ha (pi_one (tk := s1.toks) I1 _ (turn_str _ z tk "str_iterator" (.inr rfl)) ⟨_, Heap.get?_push_size _ rfl, rfl, rfl⟩ q)
    · exact wpAny_pyIter_ascii ha (pi_one (tk := s1.toks) I1 _ (turn_str _ z tk "str_ascii_iterator" (.inl rfl)) ⟨_, Heap.get?_push_size _ rfl, rfl, rfl⟩ q)
  | _ => exact hx.elim
end
end Q
end P5
section P6
namespace Q
open PySem PySem.Spec PyProof.Rows L2 HT

/-! ### enumerate of a tuple -/
theorem meets_enumerate_newT (l : Addr) (items : Array Value) :
    Meets (Builtin.«enumerate.__new__» ⟨[.type "enumerate", .ref l], []⟩) (fun _ R s => s.heap.IsTuple l items ∧
      R (.ok (.ret (.ref (s.heap.push { cls := .type "tuple_iterator", data := .fields #[.ref l, .int 0 0] }).objs.size)))
        { s with heap := (s.heap.push { cls := .type "tuple_iterator", data := .fields #[.ref l, .int 0 0] }).push { cls := .type "enumerate", data := .fields #[.none, .bool false, .ref s.heap.objs.size, rawInt 0, .none, .none] } }) :=
  .of_wp fun prog w A R s h => by
    obtain ⟨hp, g, d, tk, os⟩ := s; obtain ⟨hl, h⟩ := h
    have hsub := sub_enumerate
    have hL : Heap.IsTuple (Shared.heap ⟨hp, g, d, tk, os⟩) l items := hl
    wp_walk using wpAny_pyIter_tuple hL
    refine wpAny_stack_any fun st => wpAny_pure ?_
    split
    · rename_i c _ _ _ _ _
      cases (c == Value.type "enumerate")
      · wp_walk using wpAny_pyIter_tuple hL
        exact ⟨_, rfl, h⟩
      · wp_walk using wpAny_pyIter_tuple hL
        exact ⟨_, rfl, h⟩
    · wp_walk using wpAny_pyIter_tuple hL
      exact ⟨_, rfl, h⟩
theorem call_enumerate_tup {prog : Program} {w : World} {A : Around} {E : Value → Shared → Prop} {s : Shared} {l : Addr} {items : Array Value} {Q : Value → Shared → Prop} (hL : s.heap.IsTuple l items)
    (h : ∀ h', IsEnum h' (s.heap.objs.size + 1) s.heap.objs.size 0 .none → h'.IsTupleIter s.heap.objs.size l 0 → h'.objs.size = s.heap.objs.size + 2 →
      (∀ b o, s.heap.get? b = some o → h'.get? b = some o) → Q (.ref (s.heap.objs.size + 1)) { s with heap := h' }) :
    wpAny (model prog w) A (call (.type "enumerate") [.ref l]) Q E s := by
  refine callType_new F.called_enumerate (by decide) (F.typeCall_enumerate_1 _) (F.newCall_enumerate_1 _) (fun obj => F.args_object_init_2 obj _) F.entry_enumerate_new
    (meets_enumerate_newT l items) ⟨hL, ?_⟩
  have hz : (s.heap.push { cls := .type "tuple_iterator", data := .fields #[.ref l, .int 0 0] }).objs.size = s.heap.objs.size + 1 := Heap.size_push ..
  show _ ∧ _
  rw [hz]
  have he : IsEnum ((s.heap.push { cls := .type "tuple_iterator", data := .fields #[.ref l, .int 0 0] }).push
      { cls := .type "enumerate", data := .fields #[.none, .bool false, .ref s.heap.objs.size, rawInt 0, .none, .none] }) (s.heap.objs.size + 1) s.heap.objs.size 0 .none := by
    have := Heap.get?_push_size (s.heap.push { cls := .type "tuple_iterator", data := .fields #[.ref l, .int 0 0] })
      (o := { cls := .type "enumerate", data := .fields #[.none, .bool false, .ref s.heap.objs.size, rawInt 0, .none, .none] }) rfl
    rw [hz] at this; exact this
  refine ⟨⟨_, he, rfl⟩, h _ he ⟨_, Heap.get?_push_of_some _ (Heap.get?_push_size _ rfl), rfl, rfl⟩ (by rw [Heap.size_push, hz]) fun b o x => Heap.get?_push_of_some _ (Heap.get?_push_of_some _ x)⟩
def IteT (K : PySem.W.Frag) (a : Addr) : It :=
  ⟨fun i H => ∃ (xs : List V) (x : V), SqT K H a xs ∧ xs[i]? = some x, fun i H v H' => ∃ T x, v = .ref T ∧ H T = none ∧ H' = upd H T (.tup [.int (i : Nat), x]) ∧ ∀ xs, SqT K H a xs → xs[i]? = some x, fun i H => ∃ xs : List V, SqT K H a xs ∧ xs.length ≤ i⟩
theorem turn_enumT {P : Program} {w : World} {K : PySem.W.Frag} {elts : List Expr} {kk : Nat} {tpos : Pos} (a e it : Addr) (hea : e ≠ a) (hia : it ≠ a) :
    Turn P w K (.Tuple elts kk tpos) (IteT K a) [e, it] e (fun i h => (∃ old, IsEnum h e it ((i : Nat) : Int) old) ∧ h.IsTupleIter it a i ∧ e ≠ it) where
  mem := by simp
  obj := fun i h st b hb => by
    obtain ⟨⟨old, he⟩, ⟨o, ho, hc, hd⟩, _⟩ := st
    have e' : b = e ∨ b = it := by simpa using hb
    rcases e' with z | z
    · rw [z]; exact ⟨_, he, fun v q => nomatch q⟩
    · rw [z]; exact ⟨o, ho, fun v q => by rw [hd] at q; cases q⟩
  keep := fun i h h' st k => let ⟨⟨old, he⟩, hi, hne⟩ := st; ⟨⟨old, k e (by simp) _ he⟩, hi.at fun o q => k it (by simp) o q, hne⟩
  item := by
    intro X hP hw hK hc i pins s σ H E I hf st hg
    subst hP hw hK
    obtain ⟨⟨old, he⟩, hit, hne⟩ := st
    obtain ⟨xs, x, hq, hx⟩ := hg
    obtain ⟨its, rv, p, hz⟩ := I.tuple hq
    obtain ⟨u, hu, ru⟩ := rv.get hx
    have hel : e < s.heap.objs.size := Heap.lt_size he
    have hil : it < s.heap.objs.size := by obtain ⟨_, q, _⟩ := hit; exact Heap.lt_size q
    have hlt : i < its.toArray.size := by
      have := (List.getElem?_eq_some_iff.mp hu).1
      simpa using this
    refine wpAny_pyNext_enum_itemD (n := its.toArray.size) (fp := [it, a]) (Draws.tuple (show X.A.in1.handled = none from I.ok.hd hc) it a (Ne.symm hia) its.toArray) he ⟨hit, p⟩ hlt hne (by simp [hne, hea]) fun x' h' tk hPx ho hit' hT hsz hk => ?_
    have ex' : x' = u := by
      have h2 : its.toArray[i]? = some u := by simpa using hu
      rw [h2] at hPx
      exact (Option.some.inj hPx).symm
    subst ex'
    refine ⟨_, rfl, wpAny_letOwnedTupleGo_enum (s := { s with heap := h', toks := tk + 1 }) ho fun h'' he' sb => ?_⟩
    have hT2 : h''.get? s.heap.objs.size = some { cls := .type "tuple", data := .seq #[.int i tk, x'] } := (sb.2 _ (Nat.ne_of_gt hel)).trans hT
    have new : ObjOk X.prog X.w (upd H s.heap.objs.size (.tup [.int (i : Nat), x])) h'' s.heap.objs.size (.tup [.int (i : Nat), x]) :=
      ⟨by show 2 ≤ sizeLine; decide, [.int i tk, x'], .cons ⟨_, rfl⟩ (.cons ru .nil), ⟨_, hT2, rfl, _, rfl⟩⟩
    have I1 : Inv X pins σ (upd H s.heap.objs.size (.tup [.int (i : Nat), x])) { s with heap := h'', toks := tk + 1 } :=
      I.turnedNew (ch := [e, it]) (fun b ob hb q => (sb.2 b (fun z => hb (by simp [z]))).trans (hk b ob (fun z => hb (by simp [z])) (fun z => hb (by simp [z])) q)) hf (Nat.le_refl _) new
    refine ⟨.ref s.heap.objs.size, _, I1, rfl, ⟨_, x, rfl, I.hok.fresh (Nat.le_refl _), rfl, fun ys hy => by rw [I.tuple_inj hy hq]; exact hx⟩, ⟨⟨x', ?_⟩, hit'.1.at fun o q => (sb.2 it (Ne.symm hne)).trans q, hne⟩, fun b hb => ?_⟩
    · have e1 : ((i + 1 : Nat) : Int) = (i : Int) + 1 := by omega
      rw [e1]; exact he'
    · have hb' : b < s.heap.objs.size := by
        have e' : b = e ∨ b = it := by simpa using hb
        rcases e' with z | z
        · rw [z]; exact hel
        · rw [z]; exact hil
      rw [upd_ne (Nat.ne_of_lt hb')]
      exact (hf b hb).1
  done := by
    intro X hP hw hK hc i pins s σ H E I hf st hg
    subst hP hw hK
    obtain ⟨⟨old, he⟩, hit, hne⟩ := st
    obtain ⟨xs, hq, hx⟩ := hg
    obtain ⟨its, rv, p, hz⟩ := I.tuple hq
    obtain ⟨f0, f1, f2, f3, f4, f5⟩ := hf it (by simp)
    have hl := rv.length
    have hT : s.TypeIs (.ref e) "enumerate" := ⟨_, he, rfl⟩
    unfold pyNext
    refine wpAny_bind (wpAny_attempt (wpAny_callSpecial?_slot (name := Str.ofString "__next__") hT F.slot_enumerate_next
      (wpAny_call_entry F.slot_enumerate_next hT F.entry_enumerate_next ?_ (F.args_enumerate_next_1 _))))
    show wpAny _ _ (field (.ref e) 2 >>= _) _ _ _
    refine wpAny_bind (wpAny_field he rfl (x := .ref it) rfl ?_)
    refine wpAny_bind (wpAny_nextOf_tuple_end (show X.A.in1.handled = none from I.ok.hd hc) hit (show s.heap.IsTuple a its.toArray from p) (by simp; omega) fun h' x he' hx' => ?_)
    obtain ⟨o, ho, hc⟩ := hx'
    refine wpAny_bind (wpAny_isInstance (T := "StopIteration") (b := true) ⟨o, ho, hc⟩ isSubtype_stop ?_)
    exact wpAny_pure ⟨rfl, I.turned (t' := s.toks) (fun b o hb q => he' b o hb q) f0 f1 f3 f4 f5⟩
  self := fun A i s Q E st h => let ⟨⟨_, he⟩, _⟩ := st; wpAny_pyIter_enum he h
section
variable {X : Cx} {pos : Pos} {tg e a b : Expr} {te ta tb : TQ}
/-- pairs (place, item) -/
def enumFrom : Nat → List PyData → List PyData
  | _, [] => []
  | i, d :: ds => .tuple [.int (i : Nat), d] :: enumFrom (i + 1) ds
theorem enumFrom_length : ∀ (i : Nat) (ds : List PyData), (enumFrom i ds).length = ds.length
  | _, [] => rfl
  | i, d :: ds => by rw [enumFrom, List.length_cons, List.length_cons, enumFrom_length (i + 1) ds]
theorem enumFrom_at : ∀ {ds : List PyData} {k i : Nat} {d : PyData}, ds[i]? = some d → (enumFrom k ds)[i]? = some (.tuple [.int ((k + i : Nat) : Int), d])
  | [], _, _, _, h => by simp at h
  | d :: ds, k, 0, _, h => by simp at h; subst h; rfl
  | d :: ds, k, i + 1, _, h => by
    have := enumFrom_at (ds := ds) (k := k + 1) (i := i) (by simpa using h)
    rw [enumFrom, List.getElem?_cons_succ, this, show k + 1 + i = k + (i + 1) by omega]
theorem wd_enumL {K : PySem.W.Frag} {a : Addr} {o : Obj} {vs : List V} {ds : List PyData} : WalkD K (Ite K a) (enumFrom 0 ds) (G1 K a o vs ds) := by
  have ql : ∀ {H : Hp}, H a = some (.frz o (.lst vs)) → SqL K H a vs := fun q => .inl (.inr ⟨o, q⟩)
  refine ⟨fun i H hi ⟨q, f⟩ => ?_, fun H ⟨q, f⟩ => ?_, fun i H x H' hi ⟨q, f⟩ y => ?_, fun H H' ⟨q, f⟩ ex => ⟨ex.frz _ _ _ q, f.mono ex⟩⟩
  · rw [enumFrom_length] at hi
    exact ⟨vs, vs[i]'(by rw [f.length]; exact hi), ql q, by simp [f.length, hi]⟩
  · exact ⟨vs, ql q, by rw [enumFrom_length, f.length]; exact Nat.le_refl _⟩
  · obtain ⟨T, z, rfl, hT, rfl, hz⟩ := y
    obtain ⟨d, hd, fd⟩ := f.get (hz vs (ql q))
    have sm := same_upd (o := .tup [.int (i : Nat), z]) hT
    refine ⟨_, enumFrom_at hd, .tup (.inl (.inl upd_same)) (.cons ?_ (.cons (fd.mono (ex_same sm)) .nil)), sm⟩
    rw [Nat.zero_add]
    exact .int _
theorem wd_enumT {K : PySem.W.Frag} {a : Addr} {vs : List V} {ds : List PyData} : WalkD K (IteT K a) (enumFrom 0 ds) (G2 K a vs ds) := by
  refine ⟨fun i H hi ⟨q, f⟩ => ?_, fun H ⟨q, f⟩ => ?_, fun i H x H' hi ⟨q, f⟩ y => ?_, fun H H' ⟨q, f⟩ ex => ⟨ex.sqT q, f.mono ex⟩⟩
  · rw [enumFrom_length] at hi
    exact ⟨vs, vs[i]'(by rw [f.length]; exact hi), q, by simp [f.length, hi]⟩
  · exact ⟨vs, q, by rw [enumFrom_length, f.length]; exact Nat.le_refl _⟩
  · obtain ⟨T, z, rfl, hT, rfl, hz⟩ := y
    obtain ⟨d, hd, fd⟩ := f.get (hz vs q)
    have sm := same_upd (o := .tup [.int (i : Nat), z]) hT
    refine ⟨_, enumFrom_at hd, .tup (.inl (.inl upd_same)) (.cons ?_ (.cons (fd.mono (ex_same sm)) .nil)), sm⟩
    rw [Nat.zero_add]
    exact .int _
def itE (x : PyData) (R : List PyData → Prop) : Prop := match x with
  | .list ds => R (enumFrom 0 ds)
  | .tuple ds => R (enumFrom 0 ds)
  | _ => False
def iEn (te : TQ) : TQL := fun ρ R => te ρ fun x ρ1 => itE x fun ds => R ds ρ1
theorem qi_enum {p tpos : Pos} {elts : List Expr} {kk : Nat} (hg : Gl X "enumerate") (hm : X.mg "enumerate" = none) (he : QE X e te) (hs : starEach [e] X.env = [(false, eval e X.env)] := by rfl) :
    QI X (.Tuple elts kk tpos) (.Call (.Name "enumerate" p) [e] [] pos) (iEn te) := by
  refine ⟨fun dk H0 => ⟨fun pins s σ H R I ⟨ρ, R0, rel, h, k⟩ => ?_⟩⟩
  have ha : PA X [e] (upD X.K dk H0 (dCons te dNil)) := (qd_cons he qd_nil hs).run dk H0
  refine Call_ (ld_blt I hg hm boot_enumerate (PyProof.Rows.callWith_type1 (thn (ha.run pos pins s σ H (fun vs H1 => ∃ x ρ1, itE x (fun ds => R0 ds ρ1) ∧ FzAll X.K H1 vs [x] ∧ Rel X.K dk H0 ρ1 σ H1 ∧ Ex H H1) I
    ⟨ρ, fun xs ρ1 => ∃ x, xs = [x] ∧ itE x (fun ds => R0 ds ρ1), rel, ?_, fun xs ρ' vs H' hx fz rel1 ex1 => ?_⟩) fun us s1 ⟨vs, H1, I1, r1, q1⟩ => ?_) hs rfl))
  · show te ρ _
    have h : te ρ _ := h
    have e2 : (fun x ρ1 => dNil ρ1 fun xs ρ2 => ∃ y, x :: xs = [y] ∧ itE y (fun ds => R0 ds ρ2)) = fun x ρ1 => itE x (fun ds => R0 ds ρ1) := by
      funext x ρ1
      apply propext
      constructor
      · rintro ⟨y, e, q⟩
        cases e
        exact q
      · intro q
        exact ⟨x, rfl, q⟩
    exact Eq.mp (congrArg (te ρ) e2.symm) h
  · obtain ⟨x, rfl, hx⟩ := hx
    exact ⟨x, ρ', hx, fz, rel1, ex1⟩
  · obtain ⟨x, ρ1, hx, fz, rel1, ex1⟩ := q1
    cases fz with
    | cons fa fb =>
      cases fb
      cases r1 with
      | cons r rr =>
        cases rr
        have fr : ∀ b ∈ [s1.heap.objs.size + 1, s1.heap.objs.size], FpOk X pins H1 b := fun b hb => by
          have e' : b = s1.heap.objs.size + 1 ∨ b = s1.heap.objs.size := by simpa using hb
          have hle : s1.heap.objs.size ≤ b := by
            rcases e' with z | z
            · rw [z]; exact Nat.le_add_right _ _
            · rw [z]; exact Nat.le_refl _
          exact I1.fpOk hle (I1.hok.fresh hle)
        cases fa with
        | @lst a o vs ds q t =>
          cases r
          obtain ⟨its, rv, p', hz⟩ := I1.list (show SqL X.K H1 a vs from .inl (.inr ⟨_, q⟩))
          refine call_enumerate_list p'.isList fun h' he hit hsz hk => wpAny_pyIter_enum he ?_
          have I2 : Inv X pins σ H1 { s1 with heap := h' } := I1.kept (t' := s1.toks) hk
          exact ⟨s1.heap.objs.size + 1, [s1.heap.objs.size + 1, s1.heap.objs.size], _, _, H1, rfl, I2, turn_enum a (s1.heap.objs.size + 1) s1.heap.objs.size, ⟨⟨.none, he⟩, hit, Nat.succ_ne_self _⟩, fr,
            k _ ρ1 _ _ H1 hx (by rw [enumFrom_length, ← t.length]; exact hz) wd_enumL ⟨q, t⟩ rel1 ex1⟩
        | @tup a vs ds q t =>
          cases r
          obtain ⟨its, rv, p', hz⟩ := I1.tuple q
          have hal : a < s1.heap.objs.size := p'.lt
          refine call_enumerate_tup (show s1.heap.IsTuple a its.toArray from p') fun h' he hit hsz hk => wpAny_pyIter_enum he ?_
          have I2 : Inv X pins σ H1 { s1 with heap := h' } := I1.kept (t' := s1.toks) hk
          exact ⟨s1.heap.objs.size + 1, [s1.heap.objs.size + 1, s1.heap.objs.size], _, _, H1, rfl, I2, turn_enumT a (s1.heap.objs.size + 1) s1.heap.objs.size (Nat.ne_of_gt (Nat.lt_succ_of_lt hal)) (Nat.ne_of_gt hal), ⟨⟨.none, he⟩, hit, Nat.succ_ne_self _⟩, fr,
            k _ ρ1 _ _ H1 hx (by rw [enumFrom_length, ← t.length]; exact hz) wd_enumT ⟨q, t⟩ rel1 ex1⟩
        | _ => exact hx.elim
end
end Q
end P6
section P7
namespace Q
open PySem PySem.Spec PyProof.Rows L2 HT

/-! ### ranges -/
def rg (lo : Int) (n : Nat) : List PyData := (List.range n).map fun (i : Nat) => .int (lo + (i : Int))
theorem rg_length (lo : Int) (n : Nat) : (rg lo n).length = n := by simp [rg]
theorem wd_range {K : PySem.W.Frag} {lo : Int} {n : Nat} : WalkD K (Itr lo n) (rg lo n) (fun _ => True) := by
  refine ⟨fun i H hi _ => by rw [rg_length] at hi; exact hi, fun H _ => by show n ≤ _; rw [rg_length]; exact Nat.le_refl _, fun i H x H' hi _ y => ?_, fun _ _ _ _ => True.intro⟩
  obtain ⟨rfl, rfl⟩ := y
  rw [rg_length] at hi
  exact ⟨.int (lo + i), by simp [rg, hi], .int _, Same.refl _⟩
section
variable {X : Cx} {pos : Pos} {tg e a b : Expr} {te ta tb : TQ}
def rg1 (te : TQ) : TQL := fun ρ R => te ρ fun x ρ1 => match x with
  | .int n => -1000000 ≤ n ∧ n ≤ 1000000 ∧ R (rg 0 n.toNat) ρ1
  | _ => False
def rg2 (ta tb : TQ) : TQL := fun ρ R => ta ρ fun x ρ1 => tb ρ1 fun y ρ2 => match x, y with
  | .int i, .int j => -1000000 ≤ i ∧ i ≤ 1000000 ∧ -1000000 ≤ j ∧ j ≤ 1000000 ∧ R (rg i (j - i).toNat) ρ2
  | _, _ => False
theorem size_mil {n : Nat} (h : n ≤ 2000000) : n ≤ sizeLine := by rw [sizeLine_eq]; omega
theorem qi_range1 {p : Pos} (hg : Gl X "range") (hm : X.mg "range" = none) (he : QE X a ta) (hs : starEach [a] X.env = [(false, eval a X.env)] := by rfl) : QI X tg (.Call (.Name "range" p) [a] [] pos) (rg1 ta) :=
  ⟨fun dk H0 => PI.imp (pi_range1 hg hm ((qd_cons he qd_nil hs).run dk H0) hs) fun σ H R ⟨ρ, R0, rel, h, k⟩ =>
    ⟨ρ, fun xs ρ1 => ∃ n : Int, xs = [.int n] ∧ -1000000 ≤ n ∧ n ≤ 1000000 ∧ R0 (rg 0 n.toNat) ρ1, rel, by
      have h : ta ρ _ := h
      refine Eq.mp (congrArg (ta ρ) ?_) h
      funext x ρ1
      apply propext
      constructor
      · intro q
        cases x <;> first | exact q.elim | exact ⟨_, rfl, q⟩
      · rintro ⟨n, e, q⟩
        cases e
        exact q, fun xs ρ' vs H' hx fz rel1 ex1 => by
      obtain ⟨n, rfl, h1, h2, hr⟩ := hx
      cases fz with
      | cons fa fb =>
        cases fb
        cases fa
        exact ⟨n, rfl, by omega, by omega, k _ ρ' _ _ H' hr (by rw [rg_length]; exact size_mil (by omega)) wd_range True.intro rel1 ex1⟩⟩⟩
theorem qi_range2 {p : Pos} (hg : Gl X "range") (hm : X.mg "range" = none) (ha : QE X a ta) (hb : QE X b tb) (hs : starEach [a, b] X.env = [(false, eval a X.env), (false, eval b X.env)] := by rfl) (hs2 : starEach [b] X.env = [(false, eval b X.env)] := by rfl) :
    QI X tg (.Call (.Name "range" p) [a, b] [] pos) (rg2 ta tb) :=
  ⟨fun dk H0 => PI.imp (pi_range2 hg hm ((qd_cons ha (qd_cons hb qd_nil hs2) (by rw [hs, hs2])).run dk H0) hs hs2) fun σ H R ⟨ρ, R0, rel, h, k⟩ =>
    ⟨ρ, fun xs ρ1 => ∃ i j : Int, xs = [.int i, .int j] ∧ -1000000 ≤ i ∧ i ≤ 1000000 ∧ -1000000 ≤ j ∧ j ≤ 1000000 ∧ R0 (rg i (j - i).toNat) ρ1, rel, by
      have h : ta ρ _ := h
      refine Eq.mp (congrArg (ta ρ) ?_) h
      funext x ρ1
      show tb ρ1 _ = tb ρ1 _
      refine congrArg (tb ρ1) ?_
      funext y ρ2
      apply propext
      constructor
      · intro q
        cases x <;> cases y <;> first | exact q.elim | exact ⟨_, _, rfl, q⟩
      · rintro ⟨i, j, e, q⟩
        cases e
        exact q, fun xs ρ' vs H' hx fz rel1 ex1 => by
      obtain ⟨i, j, rfl, h1, h2, h3, h4, hr⟩ := hx
      cases fz with
      | cons fa fb =>
        cases fb with
        | cons fb fc =>
          cases fc
          cases fa
          cases fb
          exact ⟨i, j, rfl, ⟨by omega, by omega, by omega, by omega⟩, k _ ρ' _ _ H' hr (by rw [rg_length]; exact size_mil (by omega)) wd_range True.intro rel1 ex1⟩⟩⟩
end

/-! ### comprehensions -/
theorem wipe_in {i : Nat} {σ : L2.St} : ∀ {vs : List Nat}, i ∈ vs → (wipe σ vs)[i]? = if i < σ.length then some none else none
  | [], h => by cases h
  | w :: vs, h => by
    unfold wipe
    by_cases hw : w = i
    · subst hw
      by_cases hq : w < σ.length
      · rw [List.getElem?_set_self (by rw [wipe_length]; exact hq), if_pos hq]
      · rw [List.getElem?_eq_none (by rw [List.length_set, wipe_length]; omega), if_neg hq]
    · rw [List.getElem?_set_ne hw]
      refine wipe_in ?_
      rcases List.mem_cons.mp h with q | q
      · exact absurd q.symm hw
      · exact q
theorem wipe_idem {σ : L2.St} {vs : List Nat} : wipe (wipe σ vs) vs = wipe σ vs := by
  apply List.ext_getElem?
  intro i
  by_cases h : i ∈ vs
  · rw [wipe_in h, wipe_in h, wipe_length]
  · rw [wipe_out h]
section
variable {X : Cx} {pos : Pos} {tg iter elt c : Expr}
structure QTs (X : Cx) (ifs : List Expr) (t : TQB) : Prop where
  run : ∀ dk H0, PTs X ifs (upB X.K dk H0 t)
theorem PTs.imp {ifs : List Expr} {t t' : TT} (h : PTs X ifs t) (w : ∀ σ H Q, t' σ H Q → t σ H Q) : PTs X ifs t' := ⟨fun pins s σ H Q I q => h.run pins s σ H Q I (w _ _ _ q)⟩
def tY : TQB := fun ρ R => R true ρ
theorem qts_nil : QTs X [] tY := ⟨fun dk H0 => PTs.imp pts_nil fun σ H Q ⟨ρ, R, rel, h, k⟩ => k true ρ H h rel (Ex.refl H)⟩
theorem qts_one {t : TQB} (h : QT X c t) : QTs X [c] t := ⟨fun dk H0 => pts_one (h.run dk H0)⟩
def compQ (g : TGQ) (tt : TQB) (te : TQ) (vs : List Nat) : List PyData → List PyData → En → (List PyData → En → Prop) → Prop
  | [], acc, ρ, R => R acc ρ
  | x :: xs, acc, ρ, R => g x ρ fun ρ2 => tt ρ2 fun b ρ3 => if b = true then te ρ3 fun y ρ4 => compQ g tt te vs xs (acc ++ [y]) (wipeQ ρ4 vs) R else compQ g tt te vs xs acc (wipeQ ρ3 vs) R
def tLcQ (ti : TQL) (g : TGQ) (tt : TQB) (te : TQ) (vs : List Nat) : TQL := fun ρ R => ti ρ fun ds ρ1 => noOwn ρ1 vs = true ∧ compQ g tt te vs ds [] (wipeQ ρ1 vs) fun out ρ2 => R out (rstQ vs ρ1 ρ2)
variable {ifs : List Expr} {scope : Scope} {own : List (Str × Nat)} {ti : TQL} {is : List Nat} {g : TGQ} {tt : TQB} {te : TQ}
abbrev exG (K : PySem.W.Frag) (dk : Dk) (is : List Nat) (g : TGQ) : TG := fun v σ H Q => ∃ H0, upG K dk H0 is g v σ H Q
abbrev exB (K : PySem.W.Frag) (dk : Dk) (t : TQB) : TT := fun σ H Q => ∃ H0, upB K dk H0 t σ H Q
abbrev exE (K : PySem.W.Frag) (dk : Dk) (t : TQ) : TE := fun σ H Q => ∃ H0, up K dk H0 t σ H Q
theorem ite_ff' {A B : Prop} (h : if false = true then A else B) : B := by rwa [if_neg (by decide)] at h
theorem ite_tt' {A B : Prop} (h : if true = true then A else B) : A := by rwa [if_pos rfl] at h
theorem lc_read {dk : Dk} {H0 : Hp} (hsub : ∀ i ∈ is, i ∈ own.map (·.2)) (σ : L2.St) (H : Hp) (Q : VK) (h : upL X.K dk H0 (tLcQ ti g tt te (own.map (·.2))) σ H Q) :
    tLc (upI X.K dk H0 ti) (exG X.K dk is g) (exB X.K dk tt) (exE X.K dk te) (own.map (·.2)) σ H Q := by
  generalize hvs : own.map (·.2) = vs at *
  obtain ⟨ρ, R, rel, h, k⟩ := h
  refine ⟨ρ, _, rel, h, fun ds ρ1 J G H1 hds hlen W hG rel1 ex1 => fun D nD => ?_⟩
  obtain ⟨no, hc⟩ := hds
  have sm0 := same_upd (o := .lst []) nD
  have WW : Walk J ds.length G (fun i H x H' => ∃ d, ds[i]? = some d ∧ Fz X.K H' x d ∧ Same H H') := ⟨W.goes, W.stops, W.yields⟩
  refine lc_it WW (fun i H => ∃ acc vacc ρ', Rel X.K dk H0 ρ' (wipe σ vs) H ∧ H D = some (.lst vacc) ∧ FzAll X.K H vacc acc ∧ acc.length ≤ i ∧
      (compQ g tt te vs (ds.drop i) acc ρ' fun out ρ2 => R out (rstQ vs ρ1 ρ2)) ∧ G H ∧ Ex H1 H ∧ (∀ j, ¬ OwnAt ρ' (wipe σ vs) j D) ∧ H0 D = none)
    ⟨[], [], wipeQ ρ1 vs, (rel1.same sm0).wipe vs, upd_same, .nil, Nat.le_refl _, hc, W.stay _ _ hG (ex_same sm0), ex_same sm0, fun j q => ?_, rel1.fresh0 nD⟩ (fun i H _ ⟨_, _, _, _, _, _, _, _, q, _⟩ => q) ?_ ?_
  · obtain ⟨s, e, h1, h2⟩ := q
    rcases wipeQ_some e with rfl | ⟨e1, e2⟩
    · cases h1
    · rw [wipe_out e2] at h2
      exact rel1.freshOwn nD j ⟨s, e1, h1, h2⟩
  · rintro i x H2 H3 hi ⟨acc, vacc, ρ', r2, hD, facc, lacc, hcomp, hG2, ex2, no2, n0⟩ ⟨d, hd, fd, sm⟩
    have hdrop : ds.drop i = d :: ds.drop (i + 1) := by
      have := List.drop_eq_getElem_cons hi
      rw [this]
      congr 1
      exact Option.some.inj ((List.getElem?_eq_getElem hi).symm.trans hd)
    rw [hdrop] at hcomp
    have r3 := r2.same sm
    have hD3 := sm _ _ hD
    have dn1 : D ≠ dk.1 := fun z => r3.dk1 (by rw [← z]; exact n0)
    have dn2 : D ≠ dk.2 := fun z => r3.dk2 (by rw [← z]; exact n0)
    have keepD : ∀ {ρ4 : En} {σ4 : L2.St} {H4 : Hp}, Rel X.K dk (reb ρ' (wipe σ vs) H3) ρ4 σ4 H4 → H4 D = some (.lst vacc) ∧ ∀ j, ¬ OwnAt ρ4 σ4 j D := fun r4 => r3.flight r4 hD3 no2 dn1 dn2
    refine ⟨reb ρ' (wipe σ vs) H3, d, ρ', _, fd, r3.reb, hcomp, fun ρ2 σ2 hr rel2 w2 => ?_⟩
    have w2' : wipe σ2 vs = wipe σ vs := by rw [w2 vs hsub, wipe_idem]
    refine ⟨w2', reb ρ' (wipe σ vs) H3, ρ2, _, rel2, hr, fun bb ρ3 H4 hb rel3 ex3 => ?_⟩
    have ex3' : Ex H1 H4 := ex2.trans ((ex_same sm).trans ex3)
    cases bb with
    | false =>
      refine iteF ?_
      have hb := ite_ff' hb
      obtain ⟨k1, k2⟩ := keepD rel3
      have rw4 := (r3.back rel3).wipe vs
      rw [w2'] at rw4
      refine ⟨acc, vacc, _, rw4, k1, facc.mono ((ex_same sm).trans ex3), Nat.le_succ_of_le lacc, hb, W.stay _ _ hG2 ((ex_same sm).trans ex3), ex3', fun j q => ?_, n0⟩
      obtain ⟨s, e, h1, h2⟩ := q
      rcases wipeQ_some e with rfl | ⟨e1, e2⟩
      · cases h1
      · rw [← w2', wipe_out e2] at h2
        exact k2 j ⟨s, e1, h1, h2⟩
    | true =>
      refine iteT ?_
      have hb := ite_tt' hb
      refine ⟨reb ρ' (wipe σ vs) H3, ρ3, _, rel3, hb, fun y ρ4 v H5 hy fy rel4 ex4 => ?_⟩
      obtain ⟨k1, k2⟩ := keepD rel4
      have exx := (ex_same sm).trans (ex3.trans ex4)
      have rb := r3.back rel4
      obtain ⟨rf, exf⟩ := rb.freeze (o := .lst (vacc ++ [v])) k1 n0 k2
      have rw5 := rf.wipe vs
      rw [w2'] at rw5
      refine ⟨vacc, k1, by rw [facc.length]; omega, acc ++ [y], vacc ++ [v], _, rw5, upd_same, ((facc.mono exx).append (.one fy)).mono exf, by rw [List.length_append]; exact Nat.succ_le_succ lacc, hy,
        W.stay _ _ hG2 (exx.trans exf), ex3'.trans (ex4.trans exf), fun j q => ?_, n0⟩
      obtain ⟨s, e, h1, h2⟩ := q
      rcases wipeQ_some e with rfl | ⟨e1, e2⟩
      · cases h1
      · rw [← w2', wipe_out e2] at h2
        exact k2 j ⟨s, e1, h1, h2⟩
  · rintro H2 ⟨acc, vacc, ρ', r2, hD, facc, lacc, hcomp, hG2, ex2, no2, n0⟩
    rw [List.drop_length] at hcomp
    have rr := rel1.rst no ex2 r2
    refine k acc _ D vacc H2 hcomp hD facc n0 (fun j q => ?_) rr (ex1.trans ex2)
    obtain ⟨s, e, h1, h2⟩ := q
    rcases rstQ_some e with ⟨q1, rfl⟩ | ⟨q1, q2⟩
    · have := List.all_eq_true.mp no j q1
      rw [h1] at this
      cases this
    · exact no2 j ⟨s, q2, h1, by rw [wipe_out q1]; exact h2⟩
theorem ql_lc (hc : X.calm = true) (hN : X.N.Nodup) (hi : QI X tg iter ti) (ok : BlkOk X.N X.env.scope scope own)
    (hg : ∀ (s : Shared) (H : Hp) (C : Addr) (cl : List (Str × Addr)) (fp : List Addr), QG (X.blk s H scope (compEnvC scope cl C X.env) fp) tg is g) (hsub : ∀ i ∈ is, i ∈ own.map (·.2))
    (ht : ∀ (s : Shared) (H : Hp) (C : Addr) (cl : List (Str × Addr)) (fp : List Addr), QTs (X.blk s H scope (compEnvC scope cl C X.env) fp) ifs tt)
    (he : ∀ (s : Shared) (H : Hp) (C : Addr) (cl : List (Str × Addr)) (fp : List Addr), QE (X.blk s H scope (compEnvC scope cl C X.env) fp) elt te) (hs : ∀ x, foldedSetIterable iter X.env x = pure x := by intro _; rfl) :
    QL X (.ListComp elt [⟨tg, iter, ifs, 0⟩] scope pos) (tLcQ ti g tt te (own.map (·.2))) :=
  ⟨fun dk H0 => PE.imp (pe_lc hc hN (hi.run dk H0) ok
    (fun s H C cl fp => ⟨fun pins s' σ H' v u Q I r ⟨H1, q⟩ => ((hg s H C cl fp).run dk H1).run pins s' σ H' v u Q I r q⟩)
    (fun s H C cl fp => ⟨fun pins s' σ H' Q I ⟨H1, q⟩ => ((ht s H C cl fp).run dk H1).run pins s' σ H' Q I q⟩)
    (fun s H C cl fp => ⟨fun pins s' σ H' Q I ⟨H1, q⟩ => ((he s H C cl fp).run dk H1).run pins s' σ H' Q I q⟩) hs) (lc_read hsub)⟩
end
end Q
end P7
section P8
namespace Q
open PySem PySem.Spec PyProof.Rows L2 HT

section
variable {X : Cx} {pos : Pos} {st : Stmt} {rest body orelse : List Stmt} {tg e a b c iter : Expr} {te ta tb : TQ} {t u : TQS}
theorem EndsOk.ex {K : PySem.W.Frag} {dk : Dk} {H0 H H1 : Hp} {R : EndsQ} {D : Ends} (k : EndsOk K dk H0 H R D) (ex : Ex H H1) : EndsOk K dk H0 H1 R D :=
  ⟨fun ρ σ H' h r e => k.nx ρ σ H' h r (ex.trans e), k.rt, fun ρ σ H' h r e => k.bk ρ σ H' h r (ex.trans e), fun ρ σ H' h r e => k.ct ρ σ H' h r (ex.trans e)⟩
theorem Rel.stp {K : PySem.W.Frag} {dk : Dk} {H0 H : Hp} {ρ : En} {σ : L2.St} (r : Rel K dk H0 ρ σ H) : Step dk H0 H := ⟨r.keep, r.dok⟩
/-! ### blocks -/
def sNil : TQS := fun R ρ => R.nx ρ
def sSeq (t u : TQS) : TQS := fun R ρ => t { R with nx := u R } ρ
theorem qss_nil : QSs X [] sNil := ⟨fun dk H0 => PSs.imp pss_nil fun D σ H ⟨ρ, R, rel, h, k⟩ => k.nx ρ σ H h rel (Ex.refl H)⟩
theorem qss_cons (h1 : QS X st t) (h2 : QSs X rest u) : QSs X (st :: rest) (sSeq t u) :=
  ⟨fun dk H0 => PSs.imp (pss_cons (h1.run dk H0) (h2.run dk H0)) fun D σ H ⟨ρ, R, rel, h, k⟩ =>
    ⟨ρ, _, rel, h, ⟨fun ρ' σ' H' hn rel' ex => ⟨ρ', R, rel', hn, k.ex ex⟩, k.rt, k.bk, k.ct⟩⟩⟩
theorem qss_one (h1 : QS X st t) : QSs X [st] t := ⟨fun dk H0 => pss_one (h1.run dk H0)⟩
theorem qs_pass : QS X (.Pass pos) sNil := ⟨fun dk H0 => PS.imp ps_pass fun D σ H ⟨ρ, R, rel, h, k⟩ => k.nx ρ σ H h rel (Ex.refl H)⟩
def sBrk : TQS := fun R ρ => R.bk ρ
def sCt : TQS := fun R ρ => R.ct ρ
theorem qs_break : QS X (.Break pos) sBrk := ⟨fun dk H0 => PS.imp ps_break fun D σ H ⟨ρ, R, rel, h, k⟩ => k.bk ρ σ H h rel (Ex.refl H)⟩
theorem qs_continue : QS X (.Continue pos) sCt := ⟨fun dk H0 => PS.imp ps_continue fun D σ H ⟨ρ, R, rel, h, k⟩ => k.ct ρ σ H h rel (Ex.refl H)⟩
def sRet (te : TQ) : TQS := fun R ρ => te ρ fun x _ => R.rt x
theorem qs_ret (he : QE X e te) : QS X (.Return (some e) pos) (sRet te) :=
  ⟨fun dk H0 => PS.imp (ps_ret (he.run dk H0)) fun D σ H ⟨ρ, R, rel, h, k⟩ => ⟨ρ, _, rel, h, fun x ρ' v H' hx fz rel' ex => k.rt x v H' hx fz rel'.stp⟩⟩
def sRetN : TQS := fun R _ => R.rt .none
theorem qs_retN : QS X (.Return none pos) sRetN := ⟨fun dk H0 => PS.imp ps_retN fun D σ H ⟨ρ, R, rel, h, k⟩ => k.rt .none .non H h .non rel.stp⟩
def sNever : TQS := fun _ _ => False
theorem qs_never : QS X st sNever := ⟨fun dk H0 => PS.imp ps_never fun D σ H ⟨ρ, R, rel, h, k⟩ => h⟩
def sExpr (te : TQ) : TQS := fun R ρ => te ρ fun _ ρ1 => R.nx ρ1
theorem qs_expr (he : QE X e te) (hs : swapsWith e none pos.line X.env = pure false := by rfl) : QS X (.Expr e pos) (sExpr te) :=
  ⟨fun dk H0 => PS.imp (ps_expr (he.run dk H0) hs) fun D σ H ⟨ρ, R, rel, h, k⟩ => ⟨ρ, _, rel, h, fun x ρ' v H' hx fz rel' ex => k.nx ρ' σ H' hx rel' ex⟩⟩
def sIf (c : TQB) (t u : TQS) : TQS := fun R ρ => c ρ fun b ρ1 => if b = true then t R ρ1 else u R ρ1
theorem qs_if {tc : TQB} (hc : QT X c tc) (ha : QSs X body t) (hb : QSs X orelse u) : QS X (.If c body orelse pos) (sIf tc t u) :=
  ⟨fun dk H0 => PS.imp (ps_if (hc.run dk H0) (ha.run dk H0) (hb.run dk H0)) fun D σ H ⟨ρ, R, rel, h, k⟩ => ⟨ρ, _, rel, h, fun b ρ1 H1 hb rel1 ex1 => by
    cases b with
    | true => exact iteT ⟨ρ1, R, rel1, ite_tt' hb, k.ex ex1⟩
    | false => exact iteF ⟨ρ1, R, rel1, ite_ff' hb, k.ex ex1⟩⟩⟩
/-! ### assignments -/
def sAsg (te : TQ) (g : TGQ) : TQS := fun R ρ => te ρ fun x ρ1 => g x ρ1 R.nx
theorem qs_asg {is : List Nat} {g : TGQ} (he : QE X e te) (hg : QG X tg is g) (hs : swapsWithSole [tg] e pos.line X.env = pure false := by rfl) (hw : swappedStores [tg] e X.env = pure none := by rfl)
    (h1 : (assignEach [tg] X.env).map (·.2) = [assign tg X.env] := by rfl) : QS X (.Assign [tg] e pos) (sAsg te g) :=
  ⟨fun dk H0 => PS.imp (ps_asg (he.run dk H0) (hg.run dk H0) hs hw h1) fun D σ H ⟨ρ, R, rel, h, k⟩ => ⟨ρ, _, rel, h, fun x ρ1 v H1 hx fz rel1 ex1 =>
    ⟨x, ρ1, _, fz, rel1, hx, fun ρ' σ' hr rel' _ => k.nx ρ' σ' H1 hr rel' ex1⟩⟩⟩
def sSet (i : Nat) (te : TQ) : TQS := fun R ρ => te ρ fun x ρ1 => R.nx (ρ1.set i (.d x))
theorem qs_set (i : Nat) {x : Str} {pos' : Pos} (hN : X.N.Nodup) (he : QE X e te) (hi : X.N[i]? = some x := by rfl) (hx : Loc X.env.scope x := by first | exact Or.inl rfl | exact Or.inr rfl) (hs : swapsWith e (some (.Name x pos')) pos.line X.env = pure false := by rfl)
    (hf : X.fn x = true ∨ X.env.scope.names.lookup x = some .local := by first | exact .inl rfl | exact .inr rfl) : QS X (.Assign [.Name x pos'] e pos) (sSet i te) :=
  ⟨fun dk H0 => PS.imp (ps_set hN hi hx (he.run dk H0) hs hf) fun D σ H ⟨ρ, R, rel, h, k⟩ => ⟨ρ, _, rel, h, fun x ρ1 v H1 hx fz rel1 ex1 =>
    k.nx _ _ H1 hx (rel1.set ⟨v, rfl, fz⟩ fun a z => nomatch z) ex1⟩⟩
def sSetL (i : Nat) (t : TQL) : TQS := fun R ρ => t ρ fun xs ρ1 => R.nx (ρ1.set i (.own xs))
theorem qs_setL (i : Nat) {x : Str} {pos' : Pos} {t : TQL} (hN : X.N.Nodup) (he : QL X e t) (hi : X.N[i]? = some x := by rfl) (hx : Loc X.env.scope x := by first | exact Or.inl rfl | exact Or.inr rfl) (hs : swapsWith e (some (.Name x pos')) pos.line X.env = pure false := by rfl)
    (hf : X.fn x = true ∨ X.env.scope.names.lookup x = some .local := by first | exact .inl rfl | exact .inr rfl) : QS X (.Assign [.Name x pos'] e pos) (sSetL i t) :=
  ⟨fun dk H0 => PS.imp (ps_set hN hi hx (he.run dk H0) hs hf) fun D σ H ⟨ρ, R, rel, h, k⟩ => ⟨ρ, _, rel, h, fun xs ρ1 p vs H1 hx e1 fz n0 no rel1 ex1 =>
    k.nx _ _ H1 hx (rel1.set ⟨p, vs, rfl, e1, fz, n0⟩ fun a _ z => by cases z; exact no) ex1⟩⟩
/-- y = [.. for ..], y a plain local -/
theorem qs_setLc (i : Nat) {y : Str} {py spos : Pos} {elt : Expr} {ifs : List Expr} {scope : Scope} {own : List (Str × Nat)} {ti : TQL} {is : List Nat} {g : TGQ} {tt : TQB} (hc : X.calm = true) (hN : X.N.Nodup) (hyl : X.env.scope.names.lookup y = some .local)
    (hsw : swapsWith (.ListComp elt [⟨tg, iter, ifs, 0⟩] scope pos) (some (.Name y py)) spos.line X.env = pure true)
    (hi : QI X tg iter ti) (ok : BlkOk X.N X.env.scope scope own)
    (hg : ∀ (s : Shared) (H : Hp) (C : Addr) (cl : List (Str × Addr)) (fp : List Addr), QG (X.blk s H scope (compEnvC scope cl C X.env) fp) tg is g) (hsub : ∀ i ∈ is, i ∈ own.map (·.2))
    (ht : ∀ (s : Shared) (H : Hp) (C : Addr) (cl : List (Str × Addr)) (fp : List Addr), QTs (X.blk s H scope (compEnvC scope cl C X.env) fp) ifs tt)
    (he : ∀ (s : Shared) (H : Hp) (C : Addr) (cl : List (Str × Addr)) (fp : List Addr), QE (X.blk s H scope (compEnvC scope cl C X.env) fp) elt te) (hy : X.N[i]? = some y := by rfl) (hs : ∀ x, foldedSetIterable iter X.env x = pure x := by intro _; rfl) :
    QS X (.Assign [.Name y py] (.ListComp elt [⟨tg, iter, ifs, 0⟩] scope pos) spos) (sSetL i (tLcQ ti g tt te (own.map (·.2)))) :=
  ⟨fun dk H0 => PS.imp (ps_setLc hc hN hy hyl hsw (hi.run dk H0) ok
    (fun s H C cl fp => ⟨fun pins s' σ H' v u Q I r ⟨H1, q⟩ => ((hg s H C cl fp).run dk H1).run pins s' σ H' v u Q I r q⟩)
    (fun s H C cl fp => ⟨fun pins s' σ H' Q I ⟨H1, q⟩ => ((ht s H C cl fp).run dk H1).run pins s' σ H' Q I q⟩)
    (fun s H C cl fp => ⟨fun pins s' σ H' Q I ⟨H1, q⟩ => ((he s H C cl fp).run dk H1).run pins s' σ H' Q I q⟩) hs) fun D σ H ⟨ρ, R, rel, h, k⟩ =>
    lc_read (X := X) (dk := dk) (H0 := H0) hsub σ H _ ⟨ρ, _, rel, h, fun xs ρ1 p vs H1 hx e1 fz n0 no rel1 ex1 =>
      k.nx _ _ H1 hx (rel1.set ⟨p, vs, rfl, e1, fz, n0⟩ fun a _ z => by cases z; exact no) ex1⟩⟩
/-! ### for, while -/
def forQ (g : TGQ) (tb : TQS) (R : EndsQ) : List PyData → En → Prop
  | [], ρ => R.nx ρ
  | x :: xs, ρ => g x ρ fun ρ1 => tb { nx := forQ g tb R xs, rt := R.rt, bk := R.nx, ct := forQ g tb R xs } ρ1
def sFor (ti : TQL) (g : TGQ) (tb : TQS) : TQS := fun R ρ => ti ρ fun ds ρ1 => forQ g tb R ds ρ1
theorem qs_for {ti : TQL} {is : List Nat} {g : TGQ} {tb : TQS} (hp : PassesOwn (model X.prog X.w) X.A X.env X.xe) (hc : X.calm = true) (hi : QI X tg iter ti) (hg : QG X tg is g) (hb : QSs X body tb)
    (hs : ∀ x, foldedSetIterable iter X.env x = pure x := by intro _; rfl) : QS X (.For tg iter body [] pos) (sFor ti g tb) := by
  refine ⟨fun dk H0 => PS.imp (ps_for hp hc (hi.run dk H0) (hg.run dk H0) (hb.run dk H0) hs) fun D σ H ⟨ρ, R, rel, h, k⟩ => ⟨ρ, _, rel, h, fun ds ρ1 J G H1 hds hlen W hG rel1 ex1 => ?_⟩⟩
  have WW : Walk J ds.length G (fun i H x H' => ∃ d, ds[i]? = some d ∧ Fz X.K H' x d ∧ Same H H') := ⟨W.goes, W.stops, W.yields⟩
  refine for_it WW (fun i σ H => ∃ ρ', Rel X.K dk H0 ρ' σ H ∧ forQ g tb R (ds.drop i) ρ' ∧ G H ∧ Ex H1 H) ⟨ρ1, rel1, hds, hG, Ex.refl _⟩ (fun i σ H _ ⟨_, _, _, q, _⟩ => q) ?_ ?_
  · rintro i x σ2 H2 H3 hi ⟨ρ', r2, hf, hG2, ex2⟩ ⟨d, hd, fd, sm⟩
    have hdrop : ds.drop i = d :: ds.drop (i + 1) := by
      have := List.drop_eq_getElem_cons hi
      rw [this]
      congr 1
      exact Option.some.inj ((List.getElem?_eq_getElem hi).symm.trans hd)
    rw [hdrop] at hf
    refine ⟨d, ρ', _, fd, r2.same sm, hf, fun ρ3 σ3 h3 rel3 _ => ⟨ρ3, _, rel3, h3, ?_⟩⟩
    have e3 : Ex H1 H3 := ex2.trans (ex_same sm)
    exact ⟨fun ρ4 σ4 H4 h4 rel4 ex4 => ⟨ρ4, rel4, h4, W.stay _ _ hG2 ((ex_same sm).trans ex4), e3.trans ex4⟩, k.rt,
      fun ρ4 σ4 H4 h4 rel4 ex4 => k.nx ρ4 σ4 H4 h4 rel4 (ex1.trans (e3.trans ex4)),
      fun ρ4 σ4 H4 h4 rel4 ex4 => ⟨ρ4, rel4, h4, W.stay _ _ hG2 ((ex_same sm).trans ex4), e3.trans ex4⟩⟩
  · rintro σ2 H2 ⟨ρ', r2, hf, hG2, ex2⟩
    rw [List.drop_length] at hf
    exact k.nx ρ' σ2 H2 hf r2 (ex1.trans ex2)
def sWhile (c : TQB) (tb : TQS) : TQS := fun R ρ => ∃ W : Nat → En → Prop, (∃ m, W m ρ) ∧ ∀ m ρ, W m ρ → c ρ fun b ρ1 =>
  if b = true then tb { nx := fun ρ' => ∃ m', m' < m ∧ W m' ρ', rt := R.rt, bk := R.nx, ct := fun ρ' => ∃ m', m' < m ∧ W m' ρ' } ρ1 else R.nx ρ1
theorem qs_while {tc : TQB} {tb : TQS} (hp : PassesOwn (model X.prog X.w) X.A X.env X.xe) (hc : QT X c tc) (hb : QSs X body tb) : QS X (.While c body [] pos) (sWhile tc tb) := by
  refine ⟨fun dk H0 => PS.imp (ps_while hp (hc.run dk H0) (hb.run dk H0)) fun D σ H ⟨ρ, R, rel, ⟨W, ⟨m0, w0⟩, step⟩, k⟩ => ?_⟩
  refine ⟨fun m σ' H' => ∃ ρ', Rel X.K dk H0 ρ' σ' H' ∧ W m ρ' ∧ Ex H H', ⟨m0, ρ, rel, w0, Ex.refl H⟩, fun m σ1 H1 ⟨ρ1, rel1, w1, ex1⟩ => ⟨ρ1, _, rel1, step m ρ1 w1, fun b ρ2 H2 hb rel2 ex2 => ?_⟩⟩
  cases b with
  | true =>
    refine iteT ⟨fun σ' H' => ∃ m', m' < m ∧ ∃ ρ', Rel X.K dk H0 ρ' σ' H' ∧ W m' ρ' ∧ Ex H H', fun σ' H' ⟨m', h1, h2⟩ => ⟨m', h1, h2⟩, ρ2, _, rel2, ite_tt' hb, ?_⟩
    exact ⟨fun ρ3 σ3 H3 ⟨m', h1, h2⟩ rel3 ex3 => ⟨m', h1, ρ3, rel3, h2, ex1.trans (ex2.trans ex3)⟩, k.rt, fun ρ3 σ3 H3 h3 rel3 ex3 => k.nx ρ3 σ3 H3 h3 rel3 (ex1.trans (ex2.trans ex3)),
      fun ρ3 σ3 H3 ⟨m', h1, h2⟩ rel3 ex3 => ⟨m', h1, ρ3, rel3, h2, ex1.trans (ex2.trans ex3)⟩⟩
  | false => exact iteF (k.nx ρ2 σ1 H2 (ite_ff' hb) rel2 (ex1.trans ex2))
end

/-! ### a, b = e1, e2 with plain local names -/
inductive PsOk (K : PySem.W.Frag) (dk : Dk) (H0 H : Hp) (ρ : En) (σ : L2.St) : List V → List Sl → Prop
  | nil : PsOk K dk H0 H ρ σ [] []
  | cons {v : V} {s : Sl} {vs : List V} {ss : List Sl} : SlOk K dk H0 H (some (some v)) s → (∀ a, s.isOwn = true → v = .ref a → (∀ j, ¬ OwnAt ρ σ j a) ∧ ∀ (j : Nat) s', vs[j]? = some (.ref a) → ss[j]? = some s' → s'.isOwn = false) →
      PsOk K dk H0 H ρ σ vs ss → PsOk K dk H0 H ρ σ (v :: vs) (s :: ss)
abbrev TQP := En → (List Sl → En → Prop) → Prop
def upP (K : PySem.W.Frag) (dk : Dk) (H0 : Hp) (t : TQP) : TA := fun σ H Q => ∃ ρ R, Rel K dk H0 ρ σ H ∧ t ρ R ∧ ∀ ss ρ' vs H', R ss ρ' → PsOk K dk H0 H' ρ' σ vs ss → Rel K dk H0 ρ' σ H' → Ex H H' → Q vs H'
structure QPs (X : Cx) (es : List Expr) (t : TQP) : Prop where
  run : ∀ dk H0, PA X es (upP X.K dk H0 t)
section
variable {X : Cx} {pos : Pos} {e a b c : Expr} {es : List Expr} {te : TQ}
def pNil : TQP := fun ρ R => R [] ρ
def pD (te : TQ) (t : TQP) : TQP := fun ρ R => te ρ fun x ρ1 => t ρ1 fun ss ρ2 => R (.d x :: ss) ρ2
def pO (te : TQL) (t : TQP) : TQP := fun ρ R => te ρ fun xs ρ1 => t ρ1 fun ss ρ2 => R (.own xs :: ss) ρ2
theorem qp_nil : QPs X [] pNil := ⟨fun dk H0 => PA.imp pa_nil fun σ H Q ⟨ρ, R, rel, h, k⟩ => k [] ρ [] H h .nil rel (Ex.refl H)⟩
theorem qp_d {t : TQP} (he : QE X e te) (ht : QPs X es t) (hs : starEach (e :: es) X.env = (false, eval e X.env) :: starEach es X.env := by rfl) : QPs X (e :: es) (pD te t) :=
  ⟨fun dk H0 => PA.imp (pa_cons (he.run dk H0) (ht.run dk H0) hs) fun σ H Q ⟨ρ, R, rel, h, k⟩ =>
    ⟨ρ, _, rel, h, fun x ρ1 v H1 hx fz rel1 ex1 => ⟨ρ1, _, rel1, hx, fun ss ρ2 vs H2 hxs ps rel2 ex2 => k _ ρ2 (v :: vs) H2 hxs (.cons ⟨v, rfl, fz.mono ex2⟩ (fun a z => nomatch z) ps) rel2 (ex1.trans ex2)⟩⟩⟩
theorem PsOk.back {K : PySem.W.Frag} {dk : Dk} {H0 H H' : Hp} {ρ ρ' : En} {σ σ' : L2.St} (r : Rel K dk H0 ρ σ H) : ∀ {vs : List V} {ss : List Sl}, PsOk K dk (reb ρ σ H) H' ρ' σ' vs ss → PsOk K dk H0 H' ρ' σ' vs ss
  | _, _, .nil => .nil
  | _, _, .cons (s := s) h1 h2 t => by
    have n0 : ∀ a, reb ρ σ H a = none → H0 a = none := fun a e => by
      by_cases h : ∃ j, OwnAt ρ σ j a
      · obtain ⟨j, h⟩ := h; exact r.own0 h
      · rw [reb_not fun j q => h ⟨j, q⟩] at e; exact r.fresh0 e
    refine .cons ?_ h2 (PsOk.back r t)
    cases s with
    | own xs => obtain ⟨a, w, e1, e2, e3, e4⟩ := h1; exact ⟨a, w, e1, e2, e3, n0 a e4⟩
    | owd xs => obtain ⟨a, w, e1, e2, e3, e4⟩ := h1; exact ⟨a, w, e1, e2, e3, n0 a e4⟩
    | _ => exact h1
theorem PsOk.none0 {K : PySem.W.Frag} {dk : Dk} {H0 H : Hp} {ρ : En} {σ : L2.St} : ∀ {vs : List V} {ss : List Sl}, PsOk K dk H0 H ρ σ vs ss → ∀ (j : Nat) s' a, vs[j]? = some (.ref a) → ss[j]? = some s' → s'.isOwn = true → H0 a = none
  | _, _, .nil, j, s', a, h, _, _ => by simp at h
  | _, _, .cons (s := s) h1 h2 t, 0, s', a, h, h', o => by
    simp at h h'
    subst h h'
    cases s with
    | own xs => obtain ⟨b, w, e1, e2, e3, e4⟩ := h1; cases e1; exact e4
    | owd xs => obtain ⟨b, w, e1, e2, e3, e4⟩ := h1; cases e1; exact e4
    | _ => cases o
  | _, _, .cons h1 h2 t, j + 1, s', a, h, h', o => PsOk.none0 t j s' a (by simpa using h) (by simpa using h') o
theorem qp_o {tl : TQL} {t : TQP} (he : QL X e tl) (ht : QPs X es t) (hs : starEach (e :: es) X.env = (false, eval e X.env) :: starEach es X.env := by rfl) : QPs X (e :: es) (pO tl t) := by
  refine ⟨fun dk H0 => ?_⟩
  have ht' : PA X es (fun σ H Q => ∃ H1, upP X.K dk H1 t σ H Q) := ⟨fun pos pins s σ H Q I ⟨H1, q⟩ => (ht.run dk H1).run pos pins s σ H Q I q⟩
  refine PA.imp (pa_cons (he.run dk H0) ht' hs) fun σ H Q ⟨ρ, R, rel, h, k⟩ => ⟨ρ, _, rel, h, fun xs ρ1 p vs H1 hx e1 fz n0 no rel1 ex1 => ?_⟩
  refine ⟨reb ρ1 σ H1, ρ1, _, rel1.reb, hx, fun ss ρ2 ws H2 hxs ps rel2 ex2 => ?_⟩
  have dn1 : p ≠ dk.1 := fun z => rel1.dk1 (by rw [← z]; exact n0)
  have dn2 : p ≠ dk.2 := fun z => rel1.dk2 (by rw [← z]; exact n0)
  obtain ⟨e2, no2⟩ := rel1.flight rel2 e1 no dn1 dn2
  refine k _ ρ2 (.ref p :: ws) H2 hxs (.cons ⟨p, vs, rfl, e2, fz.mono ex2, n0⟩ (fun a _ z => ?_) (ps.back rel1)) (rel1.back rel2) (ex1.trans ex2)
  cases z
  refine ⟨no2, fun j s' h1 h2 => ?_⟩
  cases ho : s'.isOwn with
  | false => rfl
  | true =>
    have := ps.none0 j s' p h1 h2 ho
    rw [reb_not no, e1] at this
    cases this
def sPar2 (i j : Nat) (t : TQP) : TQS := fun R ρ => t ρ fun ss ρ1 => match ss with
  | [s1, s2] => R.nx ((ρ1.set i s1).set j s2)
  | _ => False
theorem own_set {ρ : En} {σ : L2.St} {i k : Nat} {s : Sl} {v : V} {a : Addr} (h : OwnAt (ρ.set i s) (σ.set i (some v)) k a) : (s.isOwn = true ∧ v = .ref a) ∨ OwnAt ρ σ k a := by
  obtain ⟨t, e, w1, w2⟩ := h
  by_cases hj : i = k
  · subst hj
    have il : i < (ρ.set i s).length := (List.getElem?_eq_some_iff.mp e).1
    rw [List.length_set] at il
    rw [List.getElem?_set_self il] at e
    cases e
    have il2 : i < (σ.set i (some v)).length := (List.getElem?_eq_some_iff.mp w2).1
    rw [List.length_set] at il2
    rw [List.getElem?_set_self il2] at w2
    exact .inl ⟨w1, Option.some.inj (Option.some.inj w2)⟩
  · rw [List.getElem?_set_ne hj] at e w2
    exact .inr ⟨t, e, w1, w2⟩
theorem qs_par2 (i j : Nat) {x y : Str} {px py pt : Pos} {t : TQP} {kt k2 pt2} (hc : X.calm = true) (hN : X.N.Nodup) (ha : QPs X [a, b] t)
    (hi : X.N[i]? = some x := by rfl) (hj : X.N[j]? = some y := by rfl) (hij : i ≠ j := by decide)
    (hx : X.env.scope.names.lookup x = some .local := by rfl) (hy : X.env.scope.names.lookup y = some .local := by rfl)
    (hw : swappedStores [.Tuple [.Name x px, .Name y py] kt pt] (.Tuple [a, b] k2 pt2) X.env = pure (some [x, y]) := by rfl)
    (hs : swapsWithSole [.Tuple [.Name x px, .Name y py] kt pt] (.Tuple [a, b] k2 pt2) pos.line X.env = pure false := by rfl) :
    QS X (.Assign [.Tuple [.Name x px, .Name y py] kt pt] (.Tuple [a, b] k2 pt2) pos) (sPar2 i j t) :=
  ⟨fun dk H0 => PS.imp (ps_par hc hN hi hj hij hx hy (ha.run dk H0) hw hs) fun D σ H ⟨ρ, R, rel, h, k⟩ => ⟨ρ, _, rel, h, fun ss ρ1 vs H1 hss ps rel1 ex1 => by
    cases ps with
    | nil => exact hss.elim
    | cons h1 h2 ps =>
      cases ps with
      | nil => exact hss.elim
      | cons h3 h4 ps =>
        cases ps with
        | cons _ _ _ => exact hss.elim
        | nil =>
          refine ⟨_, _, rfl, k.nx _ _ H1 hss ((rel1.set h1 fun a o z => (h2 a o z).1).set h3 fun a o z l q => ?_) ex1⟩
          rcases own_set q with ⟨o1, z1⟩ | q
          · have := (h2 a o1 z1).2 0 _ (by rw [z]; rfl) rfl
            rw [o] at this; cases this
          · exact (h4 a o z).1 l q⟩⟩
def sPar3 (i j l : Nat) (t : TQP) : TQS := fun R ρ => t ρ fun ss ρ1 => match ss with
  | [s1, s2, s3] => R.nx (((ρ1.set i s1).set j s2).set l s3)
  | _ => False
theorem qs_par3 (i j l : Nat) {x y z : Str} {px py pz pt : Pos} {t : TQP} {kt k2 pt2} (hc : X.calm = true) (hN : X.N.Nodup) (ha : QPs X [a, b, c] t)
    (hi : X.N[i]? = some x := by rfl) (hj : X.N[j]? = some y := by rfl) (hl : X.N[l]? = some z := by rfl) (hij : i ≠ j := by decide) (hil : i ≠ l := by decide) (hjl : j ≠ l := by decide)
    (hx : X.env.scope.names.lookup x = some .local := by rfl) (hy : X.env.scope.names.lookup y = some .local := by rfl) (hz : X.env.scope.names.lookup z = some .local := by rfl)
    (hw : swappedStores [.Tuple [.Name x px, .Name y py, .Name z pz] kt pt] (.Tuple [a, b, c] k2 pt2) X.env = pure (some [x, y, z]) := by rfl)
    (hs : swapsWithSole [.Tuple [.Name x px, .Name y py, .Name z pz] kt pt] (.Tuple [a, b, c] k2 pt2) pos.line X.env = pure false := by rfl) :
    QS X (.Assign [.Tuple [.Name x px, .Name y py, .Name z pz] kt pt] (.Tuple [a, b, c] k2 pt2) pos) (sPar3 i j l t) :=
  ⟨fun dk H0 => PS.imp (ps_par3 hc hN hi hj hl hij hil hjl hx hy hz (ha.run dk H0) hw hs) fun D σ H ⟨ρ, R, rel, h, k⟩ => ⟨ρ, _, rel, h, fun ss ρ1 vs H1 hss ps rel1 ex1 => by
    cases ps with
    | nil => exact hss.elim
    | cons h1 h2 ps =>
      cases ps with
      | nil => exact hss.elim
      | cons h3 h4 ps =>
        cases ps with
        | nil => exact hss.elim
        | cons h5 h6 ps =>
          cases ps with
          | cons _ _ _ => exact hss.elim
          | nil =>
            refine ⟨_, _, _, rfl, k.nx _ _ H1 hss (((rel1.set h1 fun a o z => (h2 a o z).1).set h3 fun a o z l q => ?_).set h5 fun a o z l q => ?_) ex1⟩
            · rcases own_set q with ⟨o1, z1⟩ | q
              · have := (h2 a o1 z1).2 0 _ (by rw [z]; rfl) rfl
                rw [o] at this; cases this
              · exact (h4 a o z).1 l q
            · rcases own_set q with ⟨o1, z1⟩ | q
              · have := (h4 a o1 z1).2 0 _ (by rw [z]; rfl) rfl
                rw [o] at this; cases this
              · rcases own_set q with ⟨o1, z1⟩ | q
                · have := (h2 a o1 z1).2 1 _ (by rw [z]; rfl) rfl
                  rw [o] at this; cases this
                · exact (h6 a o z).1 l q⟩⟩
end
end Q
end P8
section P9
namespace Q
open PySem PySem.Spec PyProof.Rows L2 HT

/-! ### built-ins by their values -/
abbrev CA := List PyData → (PyData → Prop) → Prop
abbrev BrA (K : PySem.W.Frag) (r : List V → Hp → VK → Prop) (C : CA) : Prop := ∀ ds vs H Q R, FzAll K H vs ds → C ds R → (∀ z w H', R z → Fz K H' w z → Same H H' → Q w H') → r vs H Q
def tCA (C : CA) (t : TQL) : TQ := fun ρ R => t ρ fun ds ρ1 => C ds fun z => R z ρ1
section
variable {X : Cx} {pos p : Pos} {e a b : Expr} {es : List Expr} {te ta tb : TQ} {t : TQL} {x : Str} {id T : String} {r : List V → Hp → VK → Prop} {C : CA}
theorem up_ca {K : PySem.W.Frag} {dk : Dk} {H0 : Hp} (br : BrA K r C) (σ : L2.St) (H : Hp) (Q : VK) (h : up K dk H0 (tCA C t) σ H Q) : tCB r (upD K dk H0 t) σ H Q := by
  obtain ⟨ρ, R, rel, h, k⟩ := h
  exact ⟨ρ, _, rel, h, fun ds ρ1 vs H1 hds fz rel1 ex1 => br ds vs H1 Q _ fz hds fun z w H' hz fz' sm => k z ρ1 w H' hz fz' (rel1.same sm) (ex1.trans (ex_same sm))⟩
theorem q_callB (hc : CallR X (.builtin id) r) (br : BrA X.K r C) (hg : Gl X x) (hm : X.mg x = none) (hv : bootBuiltins x = some (.builtin id)) (ha : QDs X (e :: es) t) (hn : x ≠ "__name__" := by decide) (hdb : (x == ("__debug__" : Str)) = false := by decide)
    (he : starEach (e :: es) X.env = (false, eval e X.env) :: starEach es X.env := by rfl) (hpl : (backTo pos (starEach es X.env)).any (·.1) = false := by rfl) : QE X (.Call (.Name x p) (e :: es) [] pos) (tCA C t) :=
  ⟨fun dk H0 => PE.imp (pe_callB hc hg hm hv (ha.run dk H0) hn hdb he hpl) (up_ca br)⟩
theorem q_callTy (hc : CallR X (.type T) r) (br : BrA X.K r C) (hg : Gl X x) (hm : X.mg x = none) (hv : bootBuiltins x = some (.type T)) (ha : QDs X (e :: es) t) (hn : x ≠ "__name__" := by decide) (hdb : (x == ("__debug__" : Str)) = false := by decide)
    (he : starEach (e :: es) X.env = (false, eval e X.env) :: starEach es X.env := by rfl) (hpl : (backTo pos (starEach es X.env)).any (·.1) = false := by rfl) : QE X (.Call (.Name x p) (e :: es) [] pos) (tCA C t) :=
  ⟨fun dk H0 => PE.imp (pe_callTy hc hg hm hv (ha.run dk H0) hn hdb he hpl) (up_ca br)⟩
/-- len(x) -/
def lenD : CA := fun ds R => match ds with
  | [.list xs] => R (.int (xs.length : Nat))
  | [.tuple xs] => R (.int (xs.length : Nat))
  | [.str z] => z.length ≤ sizeLine ∧ R (.int (z.length : Nat))
  | _ => False
theorem fz1 {K : PySem.W.Frag} {H : Hp} {vs : List V} {x : PyData} (f : FzAll K H vs [x]) : ∃ v, vs = [v] ∧ Fz K H v x := by
  cases f with
  | cons a b => cases b; exact ⟨_, rfl, a⟩
theorem fz2 {K : PySem.W.Frag} {H : Hp} {vs : List V} {x y : PyData} (f : FzAll K H vs [x, y]) : ∃ v w, vs = [v, w] ∧ Fz K H v x ∧ Fz K H w y := by
  cases f with
  | cons a b =>
    obtain ⟨w, rfl, c⟩ := fz1 b
    exact ⟨_, _, rfl, a, c⟩
theorem br_len {K : PySem.W.Frag} : BrA K (fun xs H Q => (∃ p ys, xs = [.ref p] ∧ (SqL K H p ys ∨ SqT K H p ys) ∧ Q (.int ys.length) H) ∨ ∃ z, xs = [.str z] ∧ z.length ≤ sizeLine ∧ Q (.int z.length) H) lenD := by
  intro ds vs H Q R f c k
  unfold lenD at c
  split at c
  · obtain ⟨v, rfl, fv⟩ := fz1 f
    cases fv with
    | lst q t => refine .inl ⟨_, _, rfl, .inl (.inl (.inr ⟨_, q⟩)), ?_⟩; rw [t.length]; exact k _ _ H c (.int _) (Same.refl H)
  · obtain ⟨v, rfl, fv⟩ := fz1 f
    cases fv with
    | tup q t => refine .inl ⟨_, _, rfl, .inr q, ?_⟩; rw [t.length]; exact k _ _ H c (.int _) (Same.refl H)
  · obtain ⟨v, rfl, fv⟩ := fz1 f
    cases fv
    exact .inr ⟨_, rfl, c.1, k _ _ H c.2 (.int _) (Same.refl H)⟩
  · exact c.elim
theorem q_len (hg : Gl X "len") (hm : X.mg "len" = none) (ha : QE X e te) (hs : starEach [e] X.env = (false, eval e X.env) :: starEach [] X.env := by rfl) : QE X (.Call (.Name "len" p) [e] [] pos) (tCA lenD (dCons te dNil)) :=
  q_callB (call_len_seq.or call_len_str) br_len hg hm PySem.boot_len (qd_cons ha qd_nil hs) (he := hs)
/-- tuple(x) -/
def tupD : CA := fun ds R => match ds with
  | [.list xs] => R (.tuple xs)
  | [.tuple xs] => R (.tuple xs)
  | _ => False
theorem br_tup {K : PySem.W.Frag} : BrA K (fun xs H Q => ∃ p ys, xs = [.ref p] ∧ ((SqL K H p ys ∧ ∀ l, H l = none → Q (.ref l) (upd H l (.tup ys))) ∨ (SqT K H p ys ∧ Q (.ref p) H))) tupD := by
  intro ds vs H Q R f c k
  unfold tupD at c
  split at c
  · obtain ⟨v, rfl, fv⟩ := fz1 f
    cases fv with
    | @lst a o xs es q t =>
      refine ⟨_, _, rfl, .inl ⟨.inl (.inr ⟨_, q⟩), fun l hl => ?_⟩⟩
      have sm := same_upd (o := .tup xs) hl
      exact k _ _ _ c (.tup (.inl (.inl upd_same)) (t.mono (ex_same sm))) sm
  · obtain ⟨v, rfl, fv⟩ := fz1 f
    cases fv with
    | tup q t => exact ⟨_, _, rfl, .inr ⟨q, k _ _ H c (.tup q t) (Same.refl H)⟩⟩
  · exact c.elim
theorem q_tuple (hg : Gl X "tuple") (hm : X.mg "tuple" = none) (ha : QE X e te) (hs : starEach [e] X.env = (false, eval e X.env) :: starEach [] X.env := by rfl) : QE X (.Call (.Name "tuple" p) [e] [] pos) (tCA tupD (dCons te dNil)) :=
  q_callTy call_tuple_of br_tup hg hm boot_tuple (qd_cons ha qd_nil hs) (he := hs)
/-- all(x), any(x), sum(x), max(x), min(x), abs, int -/
def allD : CA := fun ds R => match ds with
  | [.list xs] => ∃ bs : List Bool, xs = bs.map .bool ∧ R (.bool (bs.all fun b => b))
  | _ => False
def anyD : CA := fun ds R => match ds with
  | [.list xs] => ∃ bs : List Bool, xs = bs.map .bool ∧ R (.bool (bs.any fun b => b))
  | _ => False
def sumD : CA := fun ds R => match ds with
  | [.list xs] => ∃ ns : List Int, xs = ns.map .int ∧ R (.int ns.sum)
  | _ => False
def maxD : CA := fun ds R => match ds with
  | [.list xs] => ∃ ns : List Int, xs = ns.map .int ∧ 0 < ns.length ∧ ∀ m, m ∈ ns → (∀ y, y ∈ ns → y ≤ m) → R (.int m)
  | [.int i, .int j] => R (.int (if j > i then j else i))
  | _ => False
def minD : CA := fun ds R => match ds with
  | [.list xs] => ∃ ns : List Int, xs = ns.map .int ∧ 0 < ns.length ∧ ∀ m, m ∈ ns → (∀ y, y ∈ ns → m ≤ y) → R (.int m)
  | [.int i, .int j] => R (.int (if j < i then j else i))
  | _ => False
theorem br_all {K : PySem.W.Frag} : BrA K (rAll K) allD := by
  intro ds vs H Q R f c k
  unfold allD at c
  split at c
  · obtain ⟨v, rfl, fv⟩ := fz1 f
    cases fv with
    | lst q t =>
      obtain ⟨bs, rfl, c⟩ := c
      exact ⟨_, bs, rfl, .inl (.inr ⟨_, by rw [t.bls] at q; exact q⟩), k _ _ H c (.bl _) (Same.refl H)⟩
  · exact c.elim
theorem br_any {K : PySem.W.Frag} : BrA K (rAny K) anyD := by
  intro ds vs H Q R f c k
  unfold anyD at c
  split at c
  · obtain ⟨v, rfl, fv⟩ := fz1 f
    cases fv with
    | lst q t =>
      obtain ⟨bs, rfl, c⟩ := c
      exact ⟨_, bs, rfl, .inl (.inr ⟨_, by rw [t.bls] at q; exact q⟩), k _ _ H c (.bl _) (Same.refl H)⟩
  · exact c.elim
theorem br_sum {K : PySem.W.Frag} : BrA K (rSum K) sumD := by
  intro ds vs H Q R f c k
  unfold sumD at c
  split at c
  · obtain ⟨v, rfl, fv⟩ := fz1 f
    cases fv with
    | lst q t =>
      obtain ⟨bs, rfl, c⟩ := c
      exact ⟨_, bs, rfl, .inl (.inr ⟨_, by rw [t.ints] at q; exact q⟩), k _ _ H c (.int _) (Same.refl H)⟩
  · exact c.elim
theorem br_max {K : PySem.W.Frag} : BrA K (fun xs H Q => rMax K xs H Q ∨ ∃ i j, xs = [.int i, .int j] ∧ Q (.int (if j > i then j else i)) H) maxD := by
  intro ds vs H Q R f c k
  unfold maxD at c
  split at c
  · obtain ⟨v, rfl, fv⟩ := fz1 f
    cases fv with
    | lst q t =>
      obtain ⟨bs, rfl, c1, c⟩ := c
      exact .inl ⟨_, bs, rfl, .inl (.inr ⟨_, by rw [t.ints] at q; exact q⟩), c1, fun m h1 h2 => k _ _ H (c m h1 h2) (.int _) (Same.refl H)⟩
  · obtain ⟨v, w, rfl, fv, fw⟩ := fz2 f
    cases fv
    cases fw
    exact .inr ⟨_, _, rfl, k _ _ H c (.int _) (Same.refl H)⟩
  · exact c.elim
theorem br_min {K : PySem.W.Frag} : BrA K (fun xs H Q => rMin K xs H Q ∨ ∃ i j, xs = [.int i, .int j] ∧ Q (.int (if j < i then j else i)) H) minD := by
  intro ds vs H Q R f c k
  unfold minD at c
  split at c
  · obtain ⟨v, rfl, fv⟩ := fz1 f
    cases fv with
    | lst q t =>
      obtain ⟨bs, rfl, c1, c⟩ := c
      exact .inl ⟨_, bs, rfl, .inl (.inr ⟨_, by rw [t.ints] at q; exact q⟩), c1, fun m h1 h2 => k _ _ H (c m h1 h2) (.int _) (Same.refl H)⟩
  · obtain ⟨v, w, rfl, fv, fw⟩ := fz2 f
    cases fv
    cases fw
    exact .inr ⟨_, _, rfl, k _ _ H c (.int _) (Same.refl H)⟩
  · exact c.elim
theorem q_all (hc : X.calm = true) (hg : Gl X "all") (hm : X.mg "all" = none) (ha : QE X e te) (hs : starEach [e] X.env = (false, eval e X.env) :: starEach [] X.env := by rfl) : QE X (.Call (.Name "all" p) [e] [] pos) (tCA allD (dCons te dNil)) :=
  q_callB (cr_all hc) br_all hg hm (by decide +kernel) (qd_cons ha qd_nil hs) (he := hs)
theorem q_any (hc : X.calm = true) (hg : Gl X "any") (hm : X.mg "any" = none) (ha : QE X e te) (hs : starEach [e] X.env = (false, eval e X.env) :: starEach [] X.env := by rfl) : QE X (.Call (.Name "any" p) [e] [] pos) (tCA anyD (dCons te dNil)) :=
  q_callB (cr_any hc) br_any hg hm (by decide +kernel) (qd_cons ha qd_nil hs) (he := hs)
theorem q_sum (hc : X.calm = true) (hg : Gl X "sum") (hm : X.mg "sum" = none) (ha : QE X e te) (hs : starEach [e] X.env = (false, eval e X.env) :: starEach [] X.env := by rfl) : QE X (.Call (.Name "sum" p) [e] [] pos) (tCA sumD (dCons te dNil)) :=
  q_callB (cr_sum hc) br_sum hg hm (by decide +kernel) (qd_cons ha qd_nil hs) (he := hs)
theorem q_max (hc : X.calm = true) (hg : Gl X "max") (hm : X.mg "max" = none) (ha : QDs X (e :: es) t) (hs : starEach (e :: es) X.env = (false, eval e X.env) :: starEach es X.env := by rfl) (hpl : (backTo pos (starEach es X.env)).any (·.1) = false := by rfl) : QE X (.Call (.Name "max" p) (e :: es) [] pos) (tCA maxD t) :=
  q_callB ((cr_max hc).or (call_max2 hc)) br_max hg hm (by decide +kernel) ha (he := hs) (hpl := hpl)
theorem q_min (hc : X.calm = true) (hg : Gl X "min") (hm : X.mg "min" = none) (ha : QDs X (e :: es) t) (hs : starEach (e :: es) X.env = (false, eval e X.env) :: starEach es X.env := by rfl) (hpl : (backTo pos (starEach es X.env)).any (·.1) = false := by rfl) : QE X (.Call (.Name "min" p) (e :: es) [] pos) (tCA minD t) :=
  q_callB ((cr_min hc).or (call_min2 hc)) br_min hg hm (by decide +kernel) ha (he := hs) (hpl := hpl)
/-- int(x) of a whole number or a bool -/
def intD : CA := fun ds R => match ds with
  | [.int i] => R (.int i)
  | [.bool b] => R (.int (if b then 1 else 0))
  | _ => False
theorem br_int {K : PySem.W.Frag} : BrA K (fun xs H Q => (∃ i, xs = [.int i] ∧ Q (.int i) H) ∨ ∃ k, xs = [.bl k] ∧ Q (.int (if k then 1 else 0)) H) intD := by
  intro ds vs H Q R f c k
  unfold intD at c
  split at c
  · obtain ⟨v, rfl, fv⟩ := fz1 f
    cases fv
    exact .inl ⟨_, rfl, k _ _ H c (.int _) (Same.refl H)⟩
  · obtain ⟨v, rfl, fv⟩ := fz1 f
    cases fv
    exact .inr ⟨_, rfl, k _ _ H c (.int _) (Same.refl H)⟩
  · exact c.elim
theorem q_int1 (hg : Gl X "int") (hm : X.mg "int" = none) (ha : QE X e te) (hs : starEach [e] X.env = (false, eval e X.env) :: starEach [] X.env := by rfl) : QE X (.Call (.Name "int" p) [e] [] pos) (tCA intD (dCons te dNil)) :=
  q_callTy call_int1 br_int hg hm (by decide +kernel) (qd_cons ha qd_nil hs) (he := hs)
/-- sorted(x) of few whole numbers: any arrangement that ascends -/
def sortD : CA := fun ds R => match ds with
  | [.list xs] => ∃ ns : List Int, xs = ns.map .int ∧ ns.length < 64 ∧ ∀ ms : List Int, ms.Perm ns → ms.Pairwise (· ≤ ·) → R (.list (ms.map .int))
  | _ => False
theorem q_sorted (hg : Gl X "sorted") (hm : X.mg "sorted" = none) (ha : QE X e te) (hs : starEach [e] X.env = (false, eval e X.env) :: starEach [] X.env := by rfl) : QE X (.Call (.Name "sorted" p) [e] [] pos) (tCA sortD (dCons te dNil)) := by
  refine ⟨fun dk H0 => PE.imp (pe_fz (pe_callB cr_sorted hg hm (by decide +kernel) ((qd_cons ha qd_nil hs).run dk H0) (he := hs))) fun σ H Q ⟨ρ, R, rel, h, k⟩ => ⟨ρ, _, rel, h, fun ds ρ1 vs H1 hds fz rel1 ex1 => ?_⟩⟩
  have hds : sortD ds fun z => R z ρ1 := hds
  unfold sortD at hds
  split at hds
  · obtain ⟨v, rfl, fv⟩ := fz1 fz
    cases fv with
    | lst q t =>
      obtain ⟨ns, rfl, h64, c⟩ := hds
      refine ⟨_, ns, rfl, .inl (.inr ⟨_, by rw [t.ints] at q; exact q⟩), h64, fun ms pn pm pw hp => .inr ⟨pn, _, rfl, upd_same, fun od => ?_⟩⟩
      obtain ⟨f, sm⟩ := frz_new (K := X.K) hp (FzAll.of_ints ms) od
      exact k _ ρ1 _ _ (c ms pm pw) f (rel1.same sm) (ex1.trans (ex_same sm))
  · exact hds.elim
/-- list(x): a new list -/
def listC (ds : List PyData) (R : List PyData → Prop) : Prop := match ds with
  | [.list xs] => R xs
  | [.tuple xs] => R xs
  | _ => False
def listD (t : TQL) : TQL := fun ρ R => t ρ fun ds ρ1 => listC ds fun xs => R xs ρ1
theorem ql_list (hg : Gl X "list") (hm : X.mg "list" = none) (ha : QE X e te) (hs : starEach [e] X.env = (false, eval e X.env) :: starEach [] X.env := by rfl) : QL X (.Call (.Name "list" p) [e] [] pos) (listD (dCons te dNil)) := by
  refine ⟨fun dk H0 => PE.imp (pe_callTy call_list_of hg hm (by decide +kernel) ((qd_cons ha qd_nil hs).run dk H0) (he := hs)) fun σ H Q ⟨ρ, R, rel, h, k⟩ => ⟨ρ, _, rel, h, fun ds ρ1 vs H1 hds fz rel1 ex1 => ?_⟩⟩
  have go : ∀ (a : Addr) (ys : List V) (xs : List PyData), vs = [.ref a] → (SqL X.K H1 a ys ∨ SqT X.K H1 a ys) → FzAll X.K H1 ys xs → R xs ρ1 → ∃ p ys, vs = [.ref p] ∧ (SqL X.K H1 p ys ∨ SqT X.K H1 p ys) ∧ ∀ l, H1 l = none → Q (.ref l) (upd H1 l (.lst ys)) := fun a ys xs e1 e2 t hr => by
    refine ⟨a, ys, e1, e2, fun l hl => ?_⟩
    have sm := same_upd (o := .lst ys) hl
    exact k xs ρ1 l ys _ hr upd_same (t.mono (ex_same sm)) (rel1.fresh0 hl) (rel1.freshOwn hl) (rel1.same sm) (ex1.trans (ex_same sm))
  have hds : listC ds fun xs => R xs ρ1 := hds
  unfold listC at hds
  split at hds
  · obtain ⟨v, rfl, fv⟩ := fz1 fz
    cases fv with
    | lst q t => exact go _ _ _ rfl (.inl (.inl (.inr ⟨_, q⟩))) t hds
  · obtain ⟨v, rfl, fv⟩ := fz1 fz
    cases fv with
    | tup q t => exact go _ _ _ rfl (.inr q) t hds
  · exact hds.elim
end
section
variable {X : Cx} {pos p : Pos} {e a b : Expr} {es : List Expr} {te ta tb : TQ}
/-- list(range(..)), tuple(range(..)) -/
theorem rgV_fz {K : PySem.W.Frag} {H : Hp} (i j : Int) : FzAll K H (rgV i j) (rg i (j - i).toNat) := by
  have e : rgV i j = ((List.range (j - i).toNat).map fun (k : Nat) => i + (k : Int)).map V.int := by
    rw [List.map_map]; rfl
  have e2 : rg i (j - i).toNat = ((List.range (j - i).toNat).map fun (k : Nat) => i + (k : Int)).map PyData.int := by
    rw [List.map_map]; rfl
  rw [e, e2]
  exact .of_ints _
def rgA1 (te : TQ) : TQL := rg1 te
/-- a range as an argument: what it gives -/
theorem prg1 {dk : Dk} {H0 : Hp} {p : Pos} (hg : Gl X "range") (hm : X.mg "range" = none) (ha : QE X a ta) (na : starEach [a] X.env = (false, eval a X.env) :: starEach [] X.env := by rfl) : PRg X (.Call (.Name "range" p) [a] [] pos) (tRg1 (up X.K dk H0 ta)) := prg_1 hg hm (ha.run dk H0) na
theorem ql_listRg1 {p2 pos2 : Pos} (hc : X.calm = true) (hg : Gl X "list") (hm : X.mg "list" = none) (hg2 : Gl X "range") (hm2 : X.mg "range" = none) (ha : QE X a ta) (na : starEach [a] X.env = (false, eval a X.env) :: starEach [] X.env := by rfl)
    (na2 : starEach [.Call (.Name "range" p2) [a] [] pos2] X.env = (false, eval (.Call (.Name "range" p2) [a] [] pos2) X.env) :: starEach [] X.env := by rfl) :
    QL X (.Call (.Name "list" p) [.Call (.Name "range" p2) [a] [] pos2] [] pos) (rg1 ta) :=
  ⟨fun dk H0 => PE.imp (pe_listRg hc hg hm (prg1 hg2 hm2 ha na) na2) fun σ H Q ⟨ρ, R, rel, h, k⟩ => ⟨ρ, _, rel, h, fun x ρ1 v H1 hx fz rel1 ex1 => by
    cases fz <;> first | exact hx.elim | skip
    rename_i n
    obtain ⟨h1, h2, hr⟩ := hx
    refine ⟨n, rfl, ?_, fun q hq => ?_⟩
    · exact ⟨by omega, by omega, by omega, by omega, by omega⟩
    · have sm := same_upd (o := .lst (rgV 0 n)) hq
      have f := rgV_fz (K := X.K) (H := upd H1 q (.lst (rgV 0 n))) 0 n
      rw [Int.sub_zero] at f
      exact k _ ρ1 q _ _ hr upd_same f (rel1.fresh0 hq) (rel1.freshOwn hq) (rel1.same sm) (ex1.trans (ex_same sm))⟩⟩
theorem q_tupRg1 {p2 pos2 : Pos} (hc : X.calm = true) (hg : Gl X "tuple") (hm : X.mg "tuple" = none) (hg2 : Gl X "range") (hm2 : X.mg "range" = none) (ha : QE X a ta) (na : starEach [a] X.env = (false, eval a X.env) :: starEach [] X.env := by rfl)
    (na2 : starEach [.Call (.Name "range" p2) [a] [] pos2] X.env = (false, eval (.Call (.Name "range" p2) [a] [] pos2) X.env) :: starEach [] X.env := by rfl) :
    QE X (.Call (.Name "tuple" p) [.Call (.Name "range" p2) [a] [] pos2] [] pos) (fun ρ R => rg1 ta ρ fun xs ρ1 => R (.tuple xs) ρ1) :=
  ⟨fun dk H0 => PE.imp (pe_tupRg hc hg hm (prg1 hg2 hm2 ha na) na2) fun σ H Q ⟨ρ, R, rel, h, k⟩ => ⟨ρ, _, rel, h, fun x ρ1 v H1 hx fz rel1 ex1 => by
    cases fz <;> first | exact hx.elim | skip
    rename_i n
    obtain ⟨h1, h2, hr⟩ := hx
    refine ⟨n, rfl, ?_, fun q hq => ?_⟩
    · exact ⟨by omega, by omega, by omega, by omega, by omega⟩
    · have sm := same_upd (o := .tup (rgV 0 n)) hq
      have f := rgV_fz (K := X.K) (H := upd H1 q (.tup (rgV 0 n))) 0 n
      rw [Int.sub_zero] at f
      exact k _ ρ1 _ _ hr (.tup (.inl (.inl upd_same)) f) (rel1.same sm) (ex1.trans (ex_same sm))⟩⟩
/-- len(set(x)) -/
def lenSetD : CA := fun ds R => match ds with
  | [.list xs] => ∃ ns : List Int, xs = ns.map .int ∧ ns.Nodup ∧ ns.length ≤ 4000 ∧ R (.int (ns.length : Nat))
  | _ => False
/-- isinstance -/
def isInt : PyData → Bool
  | .int _ => true
  | .bool _ => true
  | _ => false
def isBool : PyData → Bool
  | .bool _ => true
  | _ => false
def isTup : PyData → Bool
  | .tuple _ => true
  | _ => false
def isStr : PyData → Bool
  | .str _ => true
  | _ => false
def isLst : PyData → Bool
  | .list _ => true
  | _ => false
theorem tyX_of {K : PySem.W.Frag} {H : Hp} {v : V} {x : PyData} (f : Fz K H v x) (P : String → Bool → Prop) (hn : ∀ b, x = .none → P "NoneType" b → P "NoneType" b) : True := True.intro
def tyN : PyData → String
  | .none => "NoneType"
  | .bool _ => "bool"
  | .int _ => "int"
  | .str _ => "str"
  | .list _ => "list"
  | .tuple _ => "tuple"
  | .dict _ => "dict"
theorem ty_fz {K : PySem.W.Frag} {H : Hp} {v : V} {x : PyData} (f : Fz K H v x) : TyX K H v (.type (tyN x)) := by
  cases f with
  | non => exact .base .non
  | bl b => exact .base (.bl b)
  | int b => exact .base (.int b)
  | str b => exact .base (.str b)
  | lst q t => exact .base (.frz q)
  | tup q t =>
    rcases q with (q | ⟨o, q⟩) | ⟨o, its, n, q, h1, h2⟩
    · exact .base (.tup q)
    · exact .fTuple q
    · exact .kTuple q h1
def isD (f : PyData → Bool) (te : TQ) : TQ := fun ρ R => te ρ fun x ρ1 => R (.bool (f x)) ρ1
theorem q_isi {x : Str} {T : String} {f : PyData → Bool} {p2 : Pos} (hf : ∀ d, kitB (tyN d) T = some (f d)) (hv2 : bootBuiltins x = some (.type T)) (hg : Gl X "isinstance") (hm : X.mg "isinstance" = none) (hg2 : Gl X x) (hm2 : X.mg x = none) (ha : QE X e te)
    (hs : starEach [e, .Name x p2] X.env = (false, eval e X.env) :: starEach [.Name x p2] X.env := by rfl) (hs2 : starEach [.Name x p2] X.env = (false, eval (.Name x p2) X.env) :: starEach [] X.env := by rfl)
    (hpl : (backTo pos (starEach [.Name x p2] X.env)).any (·.1) = false := by rfl) (hn : x ≠ "__name__" := by decide) (hd : (x == ("__debug__" : Str)) = false := by decide) :
    QE X (.Call (.Name "isinstance" p) [e, .Name x p2] [] pos) (isD f te) :=
  ⟨fun dk H0 => PE.imp (pe_callB call_isi hg hm (by decide +kernel) (pa_cons (ha.run dk H0) (pa_cons (pe_bltn (v := .ty T) hg2 hm2 hv2 rfl hn hd) pa_nil hs2) hs) (he := hs) (hpl := hpl)) fun σ H Q ⟨ρ, R, rel, h, k⟩ =>
    ⟨ρ, _, rel, h, fun y ρ1 v H1 hy fz rel1 ex1 => ⟨v, .ty T, _, _, f y, rfl, .ty T, ty_fz fz, kit_ty (hf y), k _ ρ1 _ H1 hy (.bl _) rel1 ex1⟩⟩⟩
theorem kb_int : ∀ d, kitB (tyN d) "int" = some (isInt d) := by intro d; cases d <;> (dsimp only [tyN, isInt, isBool, isTup, isStr, isLst]; decide +kernel)
theorem kb_bool : ∀ d, kitB (tyN d) "bool" = some (isBool d) := by intro d; cases d <;> (dsimp only [tyN, isInt, isBool, isTup, isStr, isLst]; decide +kernel)
theorem kb_tup : ∀ d, kitB (tyN d) "tuple" = some (isTup d) := by intro d; cases d <;> (dsimp only [tyN, isInt, isBool, isTup, isStr, isLst]; decide +kernel)
theorem kb_str : ∀ d, kitB (tyN d) "str" = some (isStr d) := by intro d; cases d <;> (dsimp only [tyN, isInt, isBool, isTup, isStr, isLst]; decide +kernel)
theorem kb_lst : ∀ d, kitB (tyN d) "list" = some (isLst d) := by intro d; cases d <;> (dsimp only [tyN, isInt, isBool, isTup, isStr, isLst]; decide +kernel)
/-- repr(x) -/
structure RepOk (d : PyData) : Prop where
  sh : d.showable = true
  lay : d.canLay0 = true
  dp : d.depth ≤ 60
  sz : d.shown.length ≤ sizeLine
theorem call_reprD (hg : X.A.guards = some []) (hu : X.A.units + 64 < cLine) : CallR X (.builtin "repr") (fun xs H Q => ∃ v d, xs = [v] ∧ Dp X.K H v d ∧ RepOk d ∧ Q (.str d.shown) H) := by
  intro pins s σ H xs us Q I r h
  obtain ⟨v, d, rfl, hd, ok, q⟩ := h
  obtain ⟨u, rfl, ru⟩ := vals1 r
  obtain ⟨as, rd⟩ := Dp.reads I d v u hd ru
  have big : ∀ (a : Addr) (d : PyData) (as : List Addr), Reads s.heap (.ref a) d as → RepOk d → Q (.str d.shown) H → wpAny (model X.prog X.w) X.A (call (.builtin "repr") [.ref a]) (EP X pins σ Q) X.xe s := fun a d as rd ok q =>
    repr_of_reads' rd ok.sh (PyData.noDict_hsm (PyData.hasDict_of_canLay d ok.lay)) hg (by have := ok.dp; omega) (fun _ _ e => e) (fun h' u tk hk => ⟨.str _, H, I.kept (t' := tk) hk, ⟨_, rfl⟩, q⟩) ok.sz
  cases hd with
  | non =>
    cases ru
    exact PySem.P.repr_of_none ⟨.str _, H, I.tok _, ⟨_, rfl⟩, by simpa only [PyData.shown] using q⟩
  | bl b =>
    cases ru
    exact PySem.P.repr_of_bool ⟨.str _, H, I.tok _, ⟨_, rfl⟩, by simpa only [PyData.shown] using q⟩
  | int i =>
    obtain ⟨t, rfl⟩ := ru
    exact PySem.P.repr_of_int (by simpa [PyData.showable] using ok.sh) ⟨.str _, H, I.tok _, ⟨_, rfl⟩, by simpa only [PyData.shown] using q⟩
  | str z =>
    obtain ⟨t, rfl⟩ := ru
    exact PySem.P.repr_of_str ⟨.str _, H, I.tok _, ⟨_, rfl⟩, by simpa only [PyData.shown] using q⟩ (by simpa only [PyData.shown] using ok.sz)
  | lst h1 h2 => cases ru; exact big _ _ as rd ok q
  | tup h1 h2 => cases ru; exact big _ _ as rd ok q
def reprD : CA := fun ds R => match ds with
  | [x] => RepOk x ∧ R (.str x.shown)
  | _ => False
theorem br_repr {K : PySem.W.Frag} : BrA K (fun xs H Q => ∃ v d, xs = [v] ∧ Dp K H v d ∧ RepOk d ∧ Q (.str d.shown) H) reprD := by
  intro ds vs H Q R f c k
  unfold reprD at c
  split at c
  · obtain ⟨v, rfl, fv⟩ := fz1 f
    exact ⟨v, _, rfl, fv.dp, c.1, k _ _ H c.2 (.str _) (Same.refl H)⟩
  · exact c.elim
theorem q_repr (hG : X.A.guards = some []) (hu : X.A.units + 64 < cLine) (hg : Gl X "repr") (hm : X.mg "repr" = none) (ha : QE X e te) (hs : starEach [e] X.env = (false, eval e X.env) :: starEach [] X.env := by rfl) : QE X (.Call (.Name "repr" p) [e] [] pos) (tCA reprD (dCons te dNil)) :=
  q_callB (call_reprD hG hu) br_repr hg hm (by decide +kernel) (qd_cons ha qd_nil hs) (he := hs)
end
end Q
end P9
section P10
namespace Q
open PySem PySem.Spec PyProof.Rows L2 HT

/-! ### a def's promise over data -/
abbrev PSpec := List Ar → (PyData → Prop) → Prop
structure FnG (P : Program) (w : World) (K : PySem.W.Frag) (mg : Str → Option Value) (base : Heap) (k : Nat) (f : Addr) (fd : FuncData) (ps : List Str) (S : PSpec) : Prop where
  len : ∀ as R, S as R → as.length = ps.length
  run : ∀ (A : Around) (outer : List PySem.Env) (s : Shared) (H : Hp) (args : Args) (us : List Value) (vs : List V) (Q : VK) (dk : Dk) (as : List Ar) (R : PyData → Prop), A.guards = some [] → Room k A → Env0 P w K mg base A outer s H → BindsTo s fd args (ps.zip us) → Vals vs us →
    ArsOk K dk H vs as → DkOk H dk.1 dk.2 → S as R → (∀ x v H', R x → Fz K H' v x → Step dk H H' → Q v H') → codeAny (model P w) A (.call (.ref f) args) (CR CX0 outer P w H s Q E0) s
theorem FnG.imp {P : Program} {w : World} {K : PySem.W.Frag} {mg : Str → Option Value} {base : Heap} {k : Nat} {f : Addr} {fd : FuncData} {ps : List Str} {S S' : PSpec} (F : FnG P w K mg base k f fd ps S) (h : ∀ as R, S' as R → S as R) : FnG P w K mg base k f fd ps S' :=
  ⟨fun as R q => F.len as R (h as R q), fun A outer s H args us vs Q dk as R h1 h2 h3 h4 h5 h6 h7 h8 h9 => F.run A outer s H args us vs Q dk as R h1 h2 h3 h4 h5 h6 h7 (h as R h8) h9⟩
/-! ### arguments -/
def upA' (K : PySem.W.Frag) (dk : Dk) (H0 : Hp) (n : Nat) (t : TQA) : TA := fun σ H Q => ∃ ρ R, Rel K dk H0 ρ σ H ∧ t ρ R ∧ ∀ xs ρ' vs H', R xs ρ' → ArsOk K dk H' vs xs → vs.length = n → Rel K dk H0 ρ' σ H' → Ex H H' → Q vs H'
structure QAs (X : Cx) (es : List Expr) (t : TQA) : Prop where
  run : ∀ dk H0, PA X es (upA' X.K dk H0 es.length t)
section
variable {X : Cx} {pos p : Pos} {e a b : Expr} {es : List Expr} {te ta tb : TQ} {t tk : TQA} {x : Str}
def aNil : TQA := fun ρ R => R [] ρ
def aD (te : TQ) (t : TQA) : TQA := fun ρ R => te ρ fun x ρ1 => t ρ1 fun xs ρ2 => R (.d x :: xs) ρ2
def aK (i : Nat) (t : TQA) : TQA := fun ρ R => match ρ[i]? with
  | some .dk => t ρ fun xs ρ2 => R (.dk :: xs) ρ2
  | _ => False
theorem qa_nil : QAs X [] aNil := ⟨fun dk H0 => PA.imp pa_nil fun σ H Q ⟨ρ, R, rel, h, k⟩ => k [] ρ [] H h .nil rfl rel (Ex.refl H)⟩
theorem qa_d (he : QE X e te) (ht : QAs X es t) (hs : starEach (e :: es) X.env = (false, eval e X.env) :: starEach es X.env := by rfl) : QAs X (e :: es) (aD te t) :=
  ⟨fun dk H0 => PA.imp (pa_cons (he.run dk H0) (ht.run dk H0) hs) fun σ H Q ⟨ρ, R, rel, h, k⟩ =>
    ⟨ρ, _, rel, h, fun x ρ1 v H1 hx fz rel1 ex1 => ⟨ρ1, _, rel1, hx, fun xs ρ2 vs H2 hxs ok hl rel2 ex2 => k _ ρ2 (v :: vs) H2 hxs (.cons (fz.mono ex2) ok) (by rw [List.length_cons, List.length_cons, hl]) rel2 (ex1.trans ex2)⟩⟩⟩
theorem qa_k (i : Nat) (ht : QAs X es t) (hN : X.N[i]? = some x := by rfl) (hv : Vis X.env.scope x := by first | exact Or.inl rfl | exact Or.inr (Or.inl rfl) | exact Or.inr (Or.inr rfl)) (hd : (x == ("__debug__" : Str)) = false := by decide)
    (hcd : (x == ("__classdict__" : Str)) = false := by decide) (hs : starEach (.Name x p :: es) X.env = (false, eval (.Name x p) X.env) :: starEach es X.env := by rfl) : QAs X (.Name x p :: es) (aK i t) :=
  ⟨fun dk H0 => PA.imp (pa_cons (pe_var hN hv hd hcd) (ht.run dk H0) hs) fun σ H Q ⟨ρ, R, rel, h, k⟩ => by
    unfold aK at h
    split at h
    · rename_i e
      have q := rel.sl i _ e
      exact ⟨_, q, ρ, _, rel, h, fun xs ρ2 vs H2 hxs ok hl rel2 ex2 => k _ ρ2 _ H2 hxs (.cons rfl ok) (by rw [List.length_cons, List.length_cons, hl]) rel2 ex2⟩
    · exact h.elim⟩
/-! ### calls -/
variable {k : Nat} {f : Addr} {fd : FuncData} {ps : List Str} {S : PSpec}
def tCallQ (S : PSpec) (t : TQA) : TQ := fun ρ R => t ρ fun as ρ1 => S as fun x => R x ρ1
theorem run_g {pins : List (Addr × Obj)} {σ : L2.St} {H : Hp} {s : Shared} {Q : VK} {dk : Dk} {args : Args} {us : List Value} {vs : List V} {as : List Ar} {R : PyData → Prop} {kws : List (Str × Value)} (F : FnG X.prog X.w X.K X.mg X.base k f fd ps S) (hG : X.A.guards = some []) (hr : Room k X.A)
    (I : Inv X pins σ H s) (hb : BindsTo s fd ⟨us, kws⟩ (ps.zip us')) (r : Vals vs us') (ok : ArsOk X.K dk H vs as) (hd : DkOk H dk.1 dk.2) (h : S as R) (kk : ∀ x v H', R x → Fz X.K H' v x → Step dk H H' → Q v H') :
    wpAny (model X.prog X.w) X.A (call (.ref f) us kws) (EP X pins σ Q) X.xe s := by
  refine wpAny_call (codeAny_mono (F.run X.A X.stack s H ⟨us, kws⟩ us' vs Q dk as R hG hr I.env0 hb r ok hd h kk) fun r s' hq => ?_)
  cases r with
  | error e => exact False.elim hq
  | ok fl =>
    cases fl with
    | ret u => exact I.after hq
    | next => exact False.elim hq
    | brk => exact False.elim hq
    | cont => exact False.elim hq
theorem q_call (F : FnG X.prog X.w X.K X.mg X.base k f fd ps S) (hG : X.A.guards = some []) (hr : Room k X.A) (hg : Gl X x) (hm : X.mg x = some (.ref f)) (hk : PySem.W.keepIn X.K (.ref f) = true) (hb : Binds X.K fd ps [])
    (ha : QAs X (e :: es) t) (hdb : (x == ("__debug__" : Str)) = false := by decide) (he : starEach (e :: es) X.env = (false, eval e X.env) :: starEach es X.env := by rfl) (hpl : (backTo pos (starEach es X.env)).any (·.1) = false := by rfl) :
    QE X (.Call (.Name x p) (e :: es) [] pos) (tCallQ S t) := by
  refine ⟨fun dk H0 => ⟨fun pins s σ H Q I ⟨ρ, R, rel, h, kk⟩ => ?_⟩⟩
  refine wpAny_Call_Name_kw (ld_glob I hg hm ?_ hdb)
  let Q1 : List V → Hp → Prop := fun vs H1 => ∃ as ρ1, (S as fun x => R x ρ1) ∧ ArsOk X.K dk H1 vs as ∧ Rel X.K dk H0 ρ1 σ H1 ∧ Ex H H1
  refine PySem.W.callWith_K (h₀ := X.base) I.ok.mod.kin hk (thn ((ha.run dk H0).run pos pins s σ H Q1 I ⟨ρ, _, rel, h, fun as ρ1 vs H1 q1 q2 q3 q4 q5 => ⟨as, ρ1, q1, q2, q4, q5⟩⟩) fun us s1 ⟨vs, H1, I1, r, as, ρ1, q1, q2, q4, q5⟩ => ⟨I1.kIn, ?_⟩) he hpl
  have hl : us.length = ps.length := by rw [← r.length, q2.length]; exact F.len _ _ q1
  have hb' := hb s1 us I1.kIn (by rw [List.append_nil]; exact hl)
  rw [List.append_nil] at hb'
  exact run_g (args := ⟨us, []⟩) F hG hr I1 hb' r q2 q4.dok q1 fun y v H' hy fz st => kk y ρ1 v H' hy fz (q4.step st) (q5.trans (st.ex q4.dok))
theorem q_call0 (F : FnG X.prog X.w X.K X.mg X.base k f fd ps S) (hG : X.A.guards = some []) (hr : Room k X.A) (hg : Gl X x) (hm : X.mg x = some (.ref f)) (hk : PySem.W.keepIn X.K (.ref f) = true) (hb : Binds X.K fd ps [])
    (hdb : (x == ("__debug__" : Str)) = false := by decide) : QE X (.Call (.Name x p) [] [] pos) (tCallQ S aNil) := by
  refine ⟨fun dk H0 => ⟨fun pins s σ H Q I ⟨ρ, R, rel, h, kk⟩ => ?_⟩⟩
  refine wpAny_Call_Name_kw (ld_glob I hg hm ?_ hdb)
  have h : S [] fun x => R x ρ := h
  have hl : ([] : List Value).length = ps.length := by have := F.len _ _ h; exact this
  have hb' := hb s [] I.kIn (by rw [List.append_nil]; exact hl)
  rw [List.append_nil] at hb'
  exact PySem.W.callWith_K0 I.kIn hk (run_g (us := []) (args := ⟨[], []⟩) F hG hr I hb' .nil .nil rel.dok h fun y v H' hy fz st => kk y ρ v H' hy fz (rel.step st) (st.ex rel.dok))
/-- keywords -/
structure QK (X : Cx) (kws : List Keyword) (t : TQA) : Prop where
  run : ∀ dk H0, PK X kws (upA' X.K dk H0 kws.length t)
theorem PK.imp {X : Cx} {e : List Keyword} {t t' : TA} (h : PK X e t) (w : ∀ σ H Q, t' σ H Q → t σ H Q) : PK X e t' := ⟨fun pos pins s σ H Q I q => h.run pos pins s σ H Q I (w _ _ _ q)⟩
theorem qk_nil : QK X [] aNil := ⟨fun dk H0 => PK.imp pk_nil fun σ H Q ⟨ρ, R, rel, h, k⟩ => k [] ρ [] H h .nil rfl rel (Ex.refl H)⟩
theorem qk_d {nm : Option Str} {kpos : Pos} {kws : List Keyword} (he : QE X e te) (ht : QK X kws t) : QK X (⟨nm, e, kpos⟩ :: kws) (aD te t) :=
  ⟨fun dk H0 => PK.imp (pk_cons (he.run dk H0) (ht.run dk H0)) fun σ H Q ⟨ρ, R, rel, h, k⟩ =>
    ⟨ρ, _, rel, h, fun x ρ1 v H1 hx fz rel1 ex1 => ⟨ρ1, _, rel1, hx, fun xs ρ2 vs H2 hxs ok hl rel2 ex2 => k _ ρ2 (v :: vs) H2 hxs (.cons (fz.mono ex2) ok) (by rw [List.length_cons, List.length_cons, hl]) rel2 (ex1.trans ex2)⟩⟩⟩
def pick {α : Type} (ix : List Nat) (xs : List α) : List α := ix.filterMap (xs[·]?)
theorem pick_vals {vs : List V} {us : List Value} (r : Vals vs us) : ∀ ix : List Nat, Vals (pick ix vs) (pick ix us)
  | [] => .nil
  | i :: ix => by
    unfold pick
    rw [List.filterMap_cons, List.filterMap_cons]
    cases e : vs[i]? with
    | none => rw [r.none_of e]; exact pick_vals r ix
    | some v =>
      obtain ⟨u, hu, ru⟩ := r.get e
      rw [hu]
      exact .cons ru (pick_vals r ix)
theorem ArsOk.get {K : PySem.W.Frag} {dk : Dk} {H : Hp} : ∀ {vs : List V} {as : List Ar} {i : Nat}, ArsOk K dk H vs as → (vs[i]? = none ∧ as[i]? = none) ∨ ∃ v a, vs[i]? = some v ∧ as[i]? = some a ∧ ArOk K dk H v a
  | _, _, _, .nil => .inl ⟨by simp, by simp⟩
  | _, _, 0, .cons h _ => .inr ⟨_, _, rfl, rfl, h⟩
  | _, _, i + 1, .cons _ t => by
    rcases ArsOk.get (i := i) t with ⟨h1, h2⟩ | ⟨v, a, h1, h2, h3⟩
    · exact .inl ⟨by simpa using h1, by simpa using h2⟩
    · exact .inr ⟨v, a, by simpa using h1, by simpa using h2, h3⟩
theorem pick_ars {K : PySem.W.Frag} {dk : Dk} {H : Hp} {vs : List V} {as : List Ar} (r : ArsOk K dk H vs as) : ∀ ix : List Nat, ArsOk K dk H (pick ix vs) (pick ix as)
  | [] => .nil
  | i :: ix => by
    unfold pick
    rw [List.filterMap_cons, List.filterMap_cons]
    rcases r.get (i := i) with ⟨h1, h2⟩ | ⟨v, a, h1, h2, h3⟩
    · rw [h1, h2]; exact pick_ars r ix
    · rw [h1, h2]; exact .cons h3 (pick_ars r ix)
theorem ArsOk.append {K : PySem.W.Frag} {dk : Dk} {H : Hp} : ∀ {vs ws : List V} {as bs : List Ar}, ArsOk K dk H vs as → ArsOk K dk H ws bs → ArsOk K dk H (vs ++ ws) (as ++ bs)
  | _, _, _, _, .nil, s => s
  | _, _, _, _, .cons r t, s => .cons r (ArsOk.append t s)
def KwB (K : PySem.W.Frag) (fd : FuncData) (ps ks : List Str) (n : Nat) (ix : List Nat) : Prop := ∀ (s : Shared) (us ws : List Value), K.In s.heap → us.length = n → ws.length = ks.length → BindsTo s fd ⟨us, ks.zip ws⟩ (ps.zip (pick ix (us ++ ws)))
def tCallKQ (S : PSpec) (ix : List Nat) (t tk : TQA) : TQ := fun ρ R => t ρ fun as ρ1 => tk ρ1 fun bs ρ2 => S (pick ix (as ++ bs)) fun x => R x ρ2
theorem q_callK {ks : List Str} {ix : List Nat} {kws : List Keyword} (F : FnG X.prog X.w X.K X.mg X.base k f fd ps S) (hG : X.A.guards = some []) (hr : Room k X.A) (hg : Gl X x) (hm : X.mg x = some (.ref f)) (hk : PySem.W.keepIn X.K (.ref f) = true) (hb : KwB X.K fd ps ks (e :: es).length ix)
    (ha : QAs X (e :: es) t) (hkw : QK X kws tk) (hlen : kws.length = ks.length := by rfl) (hall : (backToKw pos (keywordEach kws X.env)).all (·.1.isSome) = true := by rfl) (hks : (backToKw pos (keywordEach kws X.env)).filterMap (·.1) = ks := by rfl)
    (hdb : (x == ("__debug__" : Str)) = false := by decide) (he : starEach (e :: es) X.env = (false, eval e X.env) :: starEach es X.env := by rfl)
    (hpl : ((backTo pos (starEach (e :: es) X.env)).any (·.1) || (backToKw pos (keywordEach kws X.env)).any (·.1.isNone)) = false := by rfl) :
    QE X (.Call (.Name x p) (e :: es) kws pos) (tCallKQ S ix t tk) := by
  refine ⟨fun dk H0 => ⟨fun pins s σ H Q I ⟨ρ, R, rel, h, kk⟩ => ?_⟩⟩
  refine wpAny_Call_Name_kw (ld_glob I hg hm ?_ hdb)
  let Q1 : List V → Hp → Prop := fun vs H1 => ∃ as ρ1, (tk ρ1 fun bs ρ2 => S (pick ix (as ++ bs)) fun x => R x ρ2) ∧ ArsOk X.K dk H1 vs as ∧ vs.length = (e :: es).length ∧ Rel X.K dk H0 ρ1 σ H1 ∧ Ex H H1
  refine PySem.W.callWith_KW (h₀ := X.base) I.ok.mod.kin hk hall (thn ((ha.run dk H0).run pos pins s σ H Q1 I ⟨ρ, _, rel, h, fun as ρ1 vs H1 q1 q2 q3 q4 q5 => ⟨as, ρ1, q1, q2, q3, q4, q5⟩⟩) fun us s1 ⟨vs, H1, I1, r, as, ρ1, q1, q2, q3, q4, q5⟩ => ?_) hpl he
  let Q2 : List V → Hp → Prop := fun zs H2 => ∃ bs ρ2, (S (pick ix (as ++ bs)) fun x => R x ρ2) ∧ ArsOk X.K dk H2 zs bs ∧ zs.length = kws.length ∧ Rel X.K dk H0 ρ2 σ H2 ∧ Ex H1 H2
  refine thn ((hkw.run dk H0).run pos pins s1 σ H1 Q2 I1 ⟨ρ1, _, q4, q1, fun bs ρ2 zs H2 p1 p2 p3 p4 p5 => ⟨bs, ρ2, p1, p2, p3, p4, p5⟩⟩) fun ws s2 ⟨zs, H2, I2, rz, bs, ρ2, p1, p2, p3, p4, p5⟩ => ⟨I2.kIn, ?_⟩
  rw [hks]
  exact run_g (args := ⟨us, ks.zip ws⟩) F hG hr I2 (hb s2 us ws I2.kIn (by rw [← r.length]; exact q3) (by rw [← rz.length, p3]; exact hlen)) (pick_vals (r.append rz) ix) (pick_ars ((q2.mono p5).append p2) ix) p4.dok p1 fun y v H' hy fz st => kk y ρ2 v H' hy fz (p4.step st) (q5.trans (p5.trans (st.ex p4.dok)))
theorem q_callK0 {ks : List Str} {ix : List Nat} {kws : List Keyword} (F : FnG X.prog X.w X.K X.mg X.base k f fd ps S) (hG : X.A.guards = some []) (hr : Room k X.A) (hg : Gl X x) (hm : X.mg x = some (.ref f)) (hk : PySem.W.keepIn X.K (.ref f) = true) (hb : KwB X.K fd ps ks 0 ix)
    (hkw : QK X kws tk) (hlen : kws.length = ks.length := by rfl) (hall : (backToKw pos (keywordEach kws X.env)).all (·.1.isSome) = true := by rfl) (hks : (backToKw pos (keywordEach kws X.env)).filterMap (·.1) = ks := by rfl)
    (hdb : (x == ("__debug__" : Str)) = false := by decide)
    (hpl : ((backTo pos (starEach [] X.env)).any (·.1) || (backToKw pos (keywordEach kws X.env)).any (·.1.isNone)) = false := by rfl) :
    QE X (.Call (.Name x p) [] kws pos) (tCallKQ S ix aNil tk) := by
  refine ⟨fun dk H0 => ⟨fun pins s σ H Q I ⟨ρ, R, rel, h, kk⟩ => ?_⟩⟩
  refine wpAny_Call_Name_kw (ld_glob I hg hm ?_ hdb)
  let Q2 : List V → Hp → Prop := fun zs H2 => ∃ bs ρ2, (S (pick ix ([] ++ bs)) fun x => R x ρ2) ∧ ArsOk X.K dk H2 zs bs ∧ zs.length = kws.length ∧ Rel X.K dk H0 ρ2 σ H2 ∧ Ex H H2
  refine PySem.W.callWith_KW0 (h₀ := X.base) I.ok.mod.kin hk hall (thn ((hkw.run dk H0).run pos pins s σ H Q2 I ⟨ρ, _, rel, h, fun bs ρ2 zs H2 p1 p2 p3 p4 p5 => ⟨bs, ρ2, p1, p2, p3, p4, p5⟩⟩) fun ws s2 ⟨zs, H2, I2, rz, bs, ρ2, p1, p2, p3, p4, p5⟩ => ⟨I2.kIn, ?_⟩) hpl
  rw [hks]
  exact run_g (us := []) (args := ⟨[], ks.zip ws⟩) F hG hr I2 (hb s2 [] ws I2.kIn rfl (by rw [← rz.length, p3]; exact hlen)) (pick_vals (Vals.append .nil rz) ix) (pick_ars (ArsOk.append .nil p2) ix) p4.dok p1 fun y v H' hy fz st => kk y ρ2 v H' hy fz (p4.step st) (p5.trans (st.ex p4.dok))
end
/-! ### the rule of a def -/
def enOf (as : List Ar) (n : Nat) : En := (as.map fun a => match a with | .d x => Sl.d x | .dk => Sl.dk) ++ List.replicate n .un
theorem rel_start {K : PySem.W.Frag} {dk : Dk} {H : Hp} {vs : List V} {as : List Ar} {N : List Str} (ok : ArsOk K dk H vs as) (hd : DkOk H dk.1 dk.2) : Rel K dk H (enOf as (N.length - vs.length)) (L2.start N vs) H := by
  have noOwn : ∀ (i : Nat) s, (enOf as (N.length - vs.length))[i]? = some s → s.isOwn = false := fun i s e => by
    unfold enOf at e
    rw [List.getElem?_append] at e
    split at e
    · rw [List.getElem?_map] at e
      cases q : as[i]? with
      | none => rw [q] at e; cases e
      | some a => rw [q] at e; cases e; cases a <;> rfl
    · rw [List.getElem?_replicate] at e
      split at e
      · cases e; rfl
      · cases e
  obtain ⟨ne, cs, m, k, h1, h2, h3⟩ := id hd
  refine ⟨?_, fun i s e => ?_, fun i j a ⟨s, e, o, _⟩ => ?_, hd, (by rw [h1]; intro z; cases z), (by rw [h2]; intro z; cases z), fun a o e _ _ => e⟩
  · unfold enOf L2.start
    simp [ok.length]
  · unfold enOf at e
    rw [List.getElem?_append] at e
    split at e
    · rename_i hlt
      rw [List.getElem?_map] at e
      rcases ok.get (i := i) with ⟨q1, q2⟩ | ⟨v, a, q1, q2, q3⟩
      · rw [q2] at e; cases e
      · rw [q2] at e
        have hs : (L2.start N vs)[i]? = some (some v) := by
          unfold L2.start
          rw [List.getElem?_append_left (by rw [List.length_map]; exact (List.getElem?_eq_some_iff.mp q1).1), List.getElem?_map, q1]
          rfl
        cases a with
        | d x => cases e; exact ⟨v, hs, q3⟩
        | dk => cases e; rw [show v = .ref dk.1 from q3] at hs; exact hs
    · rw [List.getElem?_replicate] at e
      split at e
      · cases e; exact True.intro
      · cases e
  · rw [noOwn i s e] at o; cases o
section
variable {P : Program} {w : World} {K : PySem.W.Frag} {mg : Str → Option Value} {base : Heap}
theorem FnG.of {x qual : Str} {st : Stmt} {f : Addr} {fd : FuncData} {N ps : List Str} {k : Nat} {S : PSpec} (F : Fun K x qual st f fd) (Sc : FnScope N ps (defScope st)) (len : ∀ as R, S as R → as.length = ps.length) {t : TQS}
    (hbody : ∀ (cdv : Value) (A : Around) (outer : List PySem.Env) (s : Shared) (H : Hp), A.guards = some [] → Room k (A.deeper (envOfC qual (defScope st) s.heap.objs.size f cdv)) →
      QSs (cxOf CX0 P w K mg base N qual (defScope st) f cdv A outer s H E0).nox (defBody st) t)
    (hread : ∀ as R, S as R → t { nx := fun _ => R .none, rt := R } (enOf as (N.length - ps.length))) : FnG P w K mg base (k + 1) f fd ps S := by
  obtain ⟨oc, od, kV, doc, pm, an, cdv, ct, osl, rfl, lk, hcd⟩ := F.ex
  refine ⟨len, fun A outer s H args us vs Q dk as R hG hr e0 hb r ok hd hS kk => ?_⟩
  have hl : vs.length = ps.length := by rw [ok.length]; exact len _ _ hS
  have KX : K.In s.heap := e0.mod.kin.keeps fun b o e => (e0.bs b o e).1
  have lim : s.heap.NoLimit := e0.mod.nolimit.keeps fun b o e => (e0.bs b o e).1
  have hkind : ∀ y ∈ ps.zip us, (defScope st).names.lookup y.1 = some .local ∨ ((defScope st).names.lookup y.1 = some .cell ∧ ((cellsFrom (s.heap.objs.size + 1) (defScope st).names []).lookup y.1).isSome = true) := fun ⟨n, v⟩ hy => by
    rcases Sc.par n (List.of_mem_zip hy).1 with q | q
    · exact .inl q
    · exact .inr ⟨q, PySem.W.cellsFrom_some _ _ _ (.inl q)⟩
  refine codeAny_call_function hr.depth (KX _ _ lk) rfl Sc.co Sc.gen rfl (PySem.W.codeRec_of KX hcd) (hb _ _ _ _ ?_)
  refine wpAny_newFunctionEnv_cells Sc.kind hkind fun env he s1 x => ?_
  subst he
  refine ⟨lim.keeps x.toInCall.keep, codeAny_func ?_⟩
  have ht := (((hbody cdv A outer s H hG (hr.deeper _)).run dk H).nox : PSs (cxOf CX0 P w K mg base N qual (defScope st) f cdv A outer s H E0) (defBody st) _)
  have I : Inv (cxOf CX0 P w K mg base N qual (defScope st) f cdv A outer s H E0) [] (L2.start N vs) H s1 := inv_start Sc hr.hd e0 hl r x
  have rs := rel_start (K := K) (N := N) ok hd
  rw [hl] at rs
  refine wpAny_mono (ht.run [] s1 (L2.start N vs) H { nx := fun _ H' => Q .non H', rt := Q } I ⟨_, _, rs, hread as R hS, ⟨fun ρ' σ' H' hn rel _ => kk .none .non H' hn .non rel.stp, fun y v H' hy fz st => kk y v H' hy fz st, fun _ _ _ z => z.elim, fun _ _ _ z => z.elim⟩⟩) (fun fl s' hs => ?_) fun e s' hs => hs
  have fin : ∀ {σ' : L2.St} {H' : Hp} {v : V} {u : Value}, Inv (cxOf CX0 P w K mg base N qual (defScope st) f cdv A outer s H E0) [] σ' H' s' → RelV v u → Q v H' → CE outer P w H s Q u s' :=
    fun {σ' H' v u} J rv q => ⟨v, H', J.os, J.bare, J.base, J.hok, rv, q⟩
  cases fl with
  | ret u =>
    obtain ⟨v, σ', H', J, rv, q⟩ := hs
    exact fin J rv q
  | next =>
    obtain ⟨σ', H', J, q⟩ := hs
    exact fin (v := V.non) (u := Value.none) J rfl q
  | brk =>
    obtain ⟨_, _, _, q⟩ := hs
    exact False.elim q
  | cont =>
    obtain ⟨_, _, _, q⟩ := hs
    exact False.elim q
end
end Q
end P10
section P11
namespace Q
open PySem PySem.Spec PyProof.Rows L2 HT

def spDeck (K : PySem.W.Frag) : Sp := fun vs H Q _ => ∃ (a : Addr) (ns : List Int), vs = [.ref a] ∧ SqL K H a (ns.map V.int) ∧ ns.length ≤ 63 ∧ ∀ (d c : Addr) (H' : Hp), H d = none → H c = none → DkOk H' d c → Same H H' → Q (.ref d) H'
def spDraw : Sp := fun vs H Q _ => ∃ (d c : Addr) (n : Int), vs = [.ref d, .int n] ∧ DkOk H d c ∧ 0 < n ∧ n < 1073741824 ∧ ∀ (r : Int) (H' : Hp), 0 ≤ r → r < n → DkOk H' d c → (∀ a o, H a = some o → a ≠ d → a ≠ c → H' a = some o) → Q (.int r) H'
/-- a draw: some int below many -/
def sDraw : PSpec := fun as R => match as with
  | [.dk, .d (.int n)] => 0 < n ∧ n < 1073741824 ∧ ∀ r : Int, 0 ≤ r → r < n → R (.int r)
  | _ => False
section
variable {P : Program} {w : World} {K : PySem.W.Frag} {mg : Str → Option Value} {base : Heap} {k : Nat} {f : Addr} {fd : FuncData} {ps : List Str}
theorem FnG.draw {ps : List Str} (F : FnOk P w K mg base CX0 k f fd ps spDraw) (hl : ps.length = 2) : FnG P w K mg base k f fd ps sDraw := by
  refine ⟨fun as R h => ?_, fun A outer s H args us vs Q dk as R hG hr e0 hb r ok hd hS kk => ?_⟩
  · unfold sDraw at h
    split at h
    · exact hl.symm
    · exact h.elim
  · unfold sDraw at hS
    split at hS
    · rename_i n
      obtain ⟨h1, h2, h3⟩ := hS
      cases ok with
      | cons oa ok =>
        cases ok with
        | cons ob ok =>
          cases ok
          cases ob
          have oa : _ = V.ref dk.1 := oa
          subst oa
          exact F.run A outer s H args us _ Q E0 hr e0 hb r ⟨dk.1, dk.2, n, rfl, hd, h1, h2, fun x H' g1 g2 g3 g4 => kk _ _ H' (h3 x g1 g2) (.int x) ⟨g4, g3⟩⟩
    · exact hS.elim
/-! ### the law -/
structure LawOk (P : Program) (w : World) (K : PySem.W.Frag) (mg : Str → Option Value) (base : Heap) (k : Nat) (f : Addr) (fd : FuncData) (x : Str) : Prop where
  run : ∀ (A : Around) (outer : List PySem.Env) (s : Shared) (H : Hp) (args : Args) (u : Value) (a : Addr) (ns : List Int) (Q : VK), A.guards = some [] → Room k A → Env0 P w K mg base A outer s H → BindsTo s fd args [(x, u)] → RelV (.ref a) u → SqL K H a (ns.map V.int) → ns.length ≤ 63 → (∀ H', Q (.bl true) H') →
    codeAny (model P w) A (.call (.ref f) args) (CR CX0 outer P w H s Q E0) s
theorem LawOk.of {x0 qual x : Str} {st : Stmt} {s0 : Stmt} {rest : List Stmt} {N : List Str} {i : Nat} (F : Fun K x0 qual st f fd) (Sc : FnScope N [x] (defScope st)) {t : TQS} (hst : defBody st = s0 :: rest) (hN : N.length = i + 2)
    (h0 : ∀ (cdv : Value) (A : Around) (outer : List PySem.Env) (s : Shared) (H : Hp), A.guards = some [] → Room k (A.deeper (envOfC qual (defScope st) s.heap.objs.size f cdv)) →
      PS (cxOf CX0 P w K mg base N qual (defScope st) f cdv A outer s H E0).nox s0 (tAsg (tCall (spDeck K) [] E0 (tCons (tVar 0) tNil)) (gName 1)))
    (hbody : ∀ (cdv : Value) (A : Around) (outer : List PySem.Env) (s : Shared) (H : Hp), A.guards = some [] → Room k (A.deeper (envOfC qual (defScope st) s.heap.objs.size f cdv)) →
      QSs (cxOf CX0 P w K mg base N qual (defScope st) f cdv A outer s H E0).nox rest t)
    (hread : t { nx := fun _ => False, rt := fun y => y = .bool true } (.un :: .dk :: List.replicate i .un)) : LawOk P w K mg base (k + 1) f fd x := by
  obtain ⟨oc, od, kV, doc, pm, an, cdv, ct, osl, rfl, lk, hcd⟩ := F.ex
  refine ⟨fun A outer s H args u a ns Q hG hr e0 hb r hS hl kk => ?_⟩
  have KX : K.In s.heap := e0.mod.kin.keeps fun b o e => (e0.bs b o e).1
  have lim : s.heap.NoLimit := e0.mod.nolimit.keeps fun b o e => (e0.bs b o e).1
  have hkind : ∀ y ∈ [(x, u)], (defScope st).names.lookup y.1 = some .local ∨ ((defScope st).names.lookup y.1 = some .cell ∧ ((cellsFrom (s.heap.objs.size + 1) (defScope st).names []).lookup y.1).isSome = true) := fun y hy => by
    have : y = (x, u) := by simpa using hy
    subst this
    rcases Sc.par x (by simp) with q | q
    · exact .inl q
    · exact .inr ⟨q, PySem.W.cellsFrom_some _ _ _ (.inl q)⟩
  refine codeAny_call_function hr.depth (KX _ _ lk) rfl Sc.co Sc.gen rfl (PySem.W.codeRec_of KX hcd) (hb _ _ _ _ ?_)
  refine wpAny_newFunctionEnv_cells Sc.kind hkind fun env he s1 xx => ?_
  subst he
  refine ⟨lim.keeps xx.toInCall.keep, codeAny_func ?_⟩
  have ht : PSs (cxOf CX0 P w K mg base N qual (defScope st) f cdv A outer s H E0).nox rest (fun D σ H' => ∃ dk H1, upS K dk H1 t D σ H') := ⟨fun pins s' σ H' D I ⟨dk, H1, q⟩ => ((hbody cdv A outer s H hG (hr.deeper _)).run dk H1).run pins s' σ H' D I q⟩
  have hb2 := ((pss_cons (h0 cdv A outer s H hG (hr.deeper _)) ht).nox : PSs (cxOf CX0 P w K mg base N qual (defScope st) f cdv A outer s H E0) _ _)
  rw [hst]
  have I : Inv (cxOf CX0 P w K mg base N qual (defScope st) f cdv A outer s H E0) [] (L2.start N [.ref a]) H s1 := inv_start (vs := [.ref a]) (us := [u]) Sc hr.hd e0 rfl (.cons r .nil) xx
  have es : L2.start N [V.ref a] = some (.ref a) :: none :: List.replicate i none := by
    unfold L2.start
    rw [hN]
    show some (V.ref a) :: List.replicate (i + 2 - 1) none = _
    rw [show i + 2 - 1 = i + 1 by omega, List.replicate_succ]
  refine wpAny_mono (hb2.run [] s1 (L2.start N [.ref a]) H { nx := fun _ H' => Q .non H', rt := Q } I ?_) (fun fl s' hs => ?_) fun e s' hs => hs
  · rw [es]
    refine ⟨.ref a, rfl, a, ns, rfl, hS, hl, fun d c H' nd nc dok sm => ?_⟩
    obtain ⟨ne, cs, m, z, g1, g2, g3⟩ := id dok
    refine ⟨(d, c), H', .un :: .dk :: List.replicate i .un, _, ?_, hread, ⟨fun _ _ _ z => z.elim, fun y v H2 hy fz _ => ?_, fun _ _ _ z => z.elim, fun _ _ _ z => z.elim⟩⟩
    · have sl : ∀ (j : Nat) (s : Sl), (Sl.un :: .dk :: List.replicate i Sl.un)[j]? = some s → s.isOwn = false ∧ (j ≠ 1 → s = .un) ∧ (j = 1 → s = .dk) := fun j s e => by
        match j with
        | 0 => simp at e; subst e; simp [Sl.isOwn]
        | 1 => simp at e; subst e; simp [Sl.isOwn]
        | j + 2 =>
          simp only [List.getElem?_cons_succ] at e
          rw [List.getElem?_replicate] at e
          split at e
          · cases e; simp [Sl.isOwn]
          · cases e
      refine ⟨by simp, fun j s e => ?_, fun j l b ⟨s, e, o, _⟩ => ?_, dok, ?_, ?_, fun b o e _ _ => e⟩
      · obtain ⟨q1, q2, q3⟩ := sl j s e
        by_cases hj : j = 1
        · rw [q3 hj, hj]; rfl
        · rw [q2 hj]; exact True.intro
      · rw [(sl j s e).1] at o; cases o
      · show H' d ≠ none
        rw [g1]; intro z; cases z
      · show H' c ≠ none
        rw [g2]; intro z; cases z
    · have hy : y = .bool true := hy
      subst hy
      cases fz
      exact kk H2
  have fin : ∀ {σ' : L2.St} {H' : Hp} {v : V} {u : Value}, Inv (cxOf CX0 P w K mg base N qual (defScope st) f cdv A outer s H E0) [] σ' H' s' → RelV v u → Q v H' → CE outer P w H s Q u s' :=
    fun {σ' H' v u} J rv q => ⟨v, H', J.os, J.bare, J.base, J.hok, rv, q⟩
  cases fl with
  | ret u =>
    obtain ⟨v, σ', H', J, rv, q⟩ := hs
    exact fin J rv q
  | next =>
    obtain ⟨σ', H', J, q⟩ := hs
    exact fin (v := V.non) (u := Value.none) J rfl q
  | brk =>
    obtain ⟨_, _, _, q⟩ := hs
    exact False.elim q
  | cont =>
    obtain ⟨_, _, _, q⟩ := hs
    exact False.elim q
end
theorem law_callG {P : Program} {w : World} {K : PySem.W.Frag} {mg mb : Str → Option Value} {k : Nat} {fa a : Addr} {fd : FuncData} {x : Str} {s₁ : Shared} {vs : List Value} {ns : List Int}
    (KX : K.In s₁.heap) (hns : s₁.heap.Ns mainGlobals mg) (hb : s₁.heap.Ns builtinsNs mb) (hbb : ∀ x : Str, x ≠ "__name__" → mb x = bootBuiltins x) (hlim : s₁.heap.NoLimit) (hg : s₁.gens = #[])
    (ha : s₁.heap.get? a = some { cls := .type "list", data := .seq vs.toArray }) (hi : IntsAre vs ns) (hl : ns.length ≤ 63) (hr : Room k callerA)
    (F : ∀ base : Heap, K.In base → base.Ns mainGlobals mg → LawOk P w K mg base k fa fd x) (hbind : ∀ (s : Shared) (u : Value), BindsTo s fd ⟨[u], []⟩ [(x, u)]) :
    codeAny (model P w) callerA (.call (.ref fa) ⟨[.ref a], []⟩) (fun r s' => r = .ok (.ret (.bool true)) ∧ OldK s₁.heap s'.heap ∧ s'.os = s₁.os ∧ AllBare s'.gens) s₁ := by
  have rv := vals_ints hi
  have lenV := hi.length
  have core : ∀ H : Hp, Only H → SqL K H a (ns.map V.int) → HOk P w H s₁.heap → (∀ b, H b ≠ none → b = a) → (H a ≠ none → K.lookup a = none) →
      codeAny (model P w) callerA (.call (.ref fa) ⟨[.ref a], []⟩) (fun r s' => r = .ok (.ret (.bool true)) ∧ OldK s₁.heap s'.heap ∧ s'.os = s₁.os ∧ AllBare s'.gens) s₁ := by
    intro H hO hS hok hA hK
    have base_of : ∀ {b : Addr} {o : Obj}, s₁.heap.get? b = some o → H b = none → (hidT s₁.heap H).get? b = some o := fun e n => hidT_get e n
    have noA : ∀ {b : Addr} {o : Obj} {es : Array DictEntry} {ep : Nat}, s₁.heap.get? b = some o → o.data = .dict es ep → H b = none := fun {b o es ep} e d => by
      cases q : H b with
      | none => rfl
      | some u =>
        have e' : b = a := hA b (by rw [q]; simp)
        subst e'
        rw [ha] at e; cases e
        have d' : Data.seq vs.toArray _ = Data.dict es ep := d
        cases d'
    have nsK : ∀ {b : Addr} {m : Str → Option Value}, s₁.heap.Ns b m → (hidT s₁.heap H).Ns b m := fun {b m} ⟨o, es, ep, e, d, r⟩ => ⟨o, es, ep, base_of e (noA e d), d, r⟩
    have hKb : K.In (hidT s₁.heap H) := fun b o e => base_of (KX b o e) (by
      cases q : H b with
      | none => rfl
      | some u =>
        have e' : b = a := hA b (by rw [q]; simp)
        subst e'
        rw [hK (by rw [q]; simp)] at e; cases e)
    have hM : Mod K mg (hidT s₁.heap H) := ⟨hKb, nsK hns, ⟨mb, nsK hb, hbb⟩, let ⟨mc, h1, h2⟩ := hlim; ⟨mc, nsK h1, h2⟩⟩
    have e0 : Env0 P w K mg (hidT s₁.heap H) callerA [] s₁ H := ⟨rfl, hM, fun b o e => of_hidT e, Nat.le_of_eq (hidT_size _ _), trivial, fun b hb => absurd (show b ∈ ([] : List Addr) from hb) (by simp), hok, .of_eq hg⟩
    refine codeAny_mono ((F _ hKb (nsK hns)).run callerA [] s₁ H ⟨[.ref a], []⟩ (.ref a) a ns (fun v _ => v = .bl true) rfl hr e0 (hbind s₁ (.ref a)) rfl hS hl fun _ => rfl) fun r s' h => ?_
    cases r with
    | error e => exact False.elim h
    | ok fl =>
      cases fl with
      | next => exact False.elim h
      | brk => exact False.elim h
      | cont => exact False.elim h
      | ret u =>
        obtain ⟨v, H', os, bare, un, hok', r', q⟩ := h
        have q' : v = .bl true := q
        subst q'
        obtain rfl : u = Value.bool true := r'
        refine ⟨rfl, OldK.of_keep fun b o e => ?_, os, bare⟩
        cases q : H b with
        | none => exact un.keep b o e q (by intro z; exact absurd (show b ∈ ([] : List Addr) from z) (by simp)) (by simp)
        | some u =>
          rcases hO b with z | ⟨ob, xs, z⟩
          · rw [q] at z; cases z
          · have z2 := un.frzs b ob _ z
            obtain ⟨e1, _⟩ := hok b _ z
            obtain ⟨e2, _⟩ := hok' b _ z2
            rw [e] at e1; cases e1
            exact e2
  have hlz : ns.length ≤ sizeLine := Nat.le_trans hl (by decide)
  cases hk : K.lookup a with
  | some o =>
    have e := KX a o hk
    rw [ha] at e
    cases e
    refine core (fun _ => none) (fun _ => .inl rfl) (.inr ⟨_, vs.toArray, _, hk, rfl, rfl, rfl, by rw [List.size_toArray, lenV]; exact hlz, by simpa using rv⟩) (fun b u z => by have z' : (none : Option HO) = some u := z; cases z') (fun b z => absurd rfl z) fun z => absurd rfl z
  | none =>
    refine core (fun b => if b = a then some (.frz { cls := .type "list", data := .seq vs.toArray } (.lst (ns.map V.int))) else none) (fun b => ?_) (.inl (.inr ⟨{ cls := .type "list", data := .seq vs.toArray }, if_pos rfl⟩)) (fun b u z => ?_) (fun b z => ?_) fun _ => hk
    · by_cases hb : b = a
      · exact .inr ⟨_, _, if_pos hb⟩
      · exact .inl (if_neg hb)
    · by_cases hb : b = a
      · have z' := (if_pos hb).symm.trans z
        cases z'
        subst hb
        exact ⟨ha, by rw [List.length_map]; exact hlz, vs, _, rv, ha⟩
      · have z' := (if_neg hb).symm.trans z
        cases z'
    · by_cases hb : b = a
      · exact hb
      · exact absurd (if_neg hb) z
theorem walk_ofG {l : PySem.W.OpenLaw} {k : Nat} {q : Program} {loose : List Str} {XP : (Str → Option Value) → Heap → Prop} {YP : World → Heap → Prop} {d : DefRec} {K : Params → PySem.W.Frag} {x : Str}
    (hn : l.most = some 63) (hdf : d.params.defaults = []) (hr : Room k callerA)
    (hY : ∀ (w : World) (h : Heap), YP w h → (K w.params).In h)
    (F : ∀ (w : World) (mg : Str → Option Value) (fa : Addr) (h : Heap), (K w.params).In h → h.Ns mainGlobals mg → mg d.name = some (.ref fa) →
      ∃ fd : FuncData, (∀ (s : Shared) (u : Value), BindsTo s fd ⟨[u], []⟩ [(x, u)]) ∧
        ∀ base : Heap, (K w.params).In base → base.Ns mainGlobals mg → LawOk l.prog w (K w.params) mg base k fa fd x) :
    PySem.W.WalkO q loose XP YP l.row.toRowW d [] (fun f vs => PySem.call f vs) := by
  refine Att.attach_call hn hdf fun w s₀ s₁ mg mb fa o pm cd doc a vs ns G Y ho hd hcd hmg hobj hints hlen hg => ?_
  have KX := hY w _ Y
  obtain ⟨fd, hb, hF⟩ := F w mg fa _ KX G.T.g hmg
  exact law_callG KX G.T.g G.T.b G.T.builtins G.T.nolimit hg hobj hints hlen hr hF hb
end Q
end P11
section P12
namespace Q
open PySem PySem.Spec PyProof.Rows L2 HT

section
variable {X : Cx} {pos p : Pos} {e a b : Expr} {es : List Expr} {te ta tb : TQ} {t : TQL} {x : Str} {id T : String} {r : V → List V → Hp → VK → Prop}
/-! ### things that one slot alone holds -/
def tLenN (i : Nat) : TQ := fun ρ R => match ρ[i]? with
  | some (.own xs) => R (.int (xs.length : Nat)) ρ
  | some (.d x) => lenD [x] fun z => R z ρ
  | _ => False
theorem q_lenN (i : Nat) (hg : Gl X "len") (hm : X.mg "len" = none) (hN : X.N[i]? = some x := by rfl) (hv : Vis X.env.scope x := by first | exact Or.inl rfl | exact Or.inr (Or.inl rfl) | exact Or.inr (Or.inr rfl)) (hd : (x == ("__debug__" : Str)) = false := by decide)
    (hcd : (x == ("__classdict__" : Str)) = false := by decide) (hs : starEach [.Name x p] X.env = (false, eval (.Name x p) X.env) :: starEach [] X.env := by rfl) : QE X (.Call (.Name "len" pos) [.Name x p] [] pos') (tLenN i) :=
  ⟨fun dk H0 => PE.imp (pe_callB (call_len_seq.or call_len_str) hg hm PySem.boot_len (pa_cons (pe_var hN hv hd hcd) pa_nil hs) (he := hs)) fun σ H Q ⟨ρ, R, rel, h, k⟩ => by
    unfold tLenN at h
    split at h
    · rename_i xs e
      obtain ⟨a, vs, h1, h2, h3, h4⟩ := rel.sl i _ e
      refine ⟨_, h1, .inl ⟨a, vs, rfl, .inl (SqL.of h2), ?_⟩⟩
      rw [h3.length]
      exact k _ ρ _ H h (.int _) rel (Ex.refl H)
    · rename_i y e
      obtain ⟨v, h1, h2⟩ := rel.sl i _ e
      exact ⟨v, h1, br_len [y] [v] H Q _ (.one h2) h fun z w H' hz fz sm => k z ρ w H' hz fz (rel.same sm) (ex_same sm)⟩
    · exact h.elim⟩
def setQ : Option Sl → Bool
  | some .un => false
  | none => false
  | _ => true
theorem Rel.isSet {K : PySem.W.Frag} {dk : Dk} {H0 H : Hp} {ρ : En} {σ : L2.St} {i : Nat} (r : Rel K dk H0 ρ σ H) (h : setQ ρ[i]? = true) : ∃ v, σ[i]? = some (some v) := by
  cases e : ρ[i]? with
  | none => rw [e] at h; cases h
  | some s =>
    have q := r.sl i s e
    cases s with
    | un => rw [e] at h; cases h
    | d x => obtain ⟨v, h1, _⟩ := q; exact ⟨v, h1⟩
    | own x => obtain ⟨a, v, h1, _⟩ := q; exact ⟨_, h1⟩
    | owd x => obtain ⟨a, v, h1, _⟩ := q; exact ⟨_, h1⟩
    | dk => exact ⟨_, q⟩
def tIxN (i : Nat) (ti : TQ) : TQ := fun ρ R => setQ ρ[i]? = true ∧ ti ρ fun y ρ1 => match ρ1[i]? with
  | some (.own xs) => ixD (.list xs) y fun z => R z ρ1
  | some (.d x) => ixD x y fun z => R z ρ1
  | _ => False
theorem q_ixN (i : Nat) (hb : QE X b tb) (hN : X.N[i]? = some x := by rfl) (hv : Vis X.env.scope x := by first | exact Or.inl rfl | exact Or.inr (Or.inl rfl) | exact Or.inr (Or.inr rfl)) (hd : (x == ("__debug__" : Str)) = false := by decide)
    (hcd : (x == ("__classdict__" : Str)) = false := by decide) (hs : PlainIx b := by intro _ _; rfl) : QE X (.Subscript (.Name x p) b pos) (tIxN i tb) := by
  refine ⟨fun dk H0 => PE.imp (pe_ix ix_seq (pe_var hN hv hd hcd) (hb.run dk H0) hs) fun σ H Q ⟨ρ, R, rel, ⟨hset, h⟩, k⟩ => ?_⟩
  -- the name's value: whatever it is, it is what the slot holds behind the index
  have key : ∀ v, σ[i]? = some (some v) → (up X.K dk H0 tb) σ H fun y H2 => rIx X.K v y H2 Q := fun v hv => ⟨ρ, _, rel, h, fun y ρ1 u H1 hy fz rel1 ex1 => by
    have hy : (match ρ1[i]? with | some (.own xs) => ixD (.list xs) y fun z => R z ρ1 | some (.d x) => ixD x y fun z => R z ρ1 | _ => False) := hy
    split at hy
    · rename_i xs e
      obtain ⟨a, vs, h1, h2, h3, h4⟩ := rel1.sl i _ e
      rw [hv] at h1
      cases h1
      cases fz <;> first | exact hy.elim | skip
      obtain ⟨z, hz, c⟩ := hy
      obtain ⟨w, hw, fw⟩ := atI_fz h3 hz
      exact .inl ⟨_, _, _, w, rfl, rfl, SqL.of h2, hw, k z ρ1 w H1 c fw rel1 ex1⟩
    · rename_i x e
      obtain ⟨v', h1, h2⟩ := rel1.sl i _ e
      rw [hv] at h1
      cases h1
      exact br_ix x y _ u H1 Q _ h2 fz hy fun z w H' hz fz' sm => k z ρ1 w H' hz fz' (rel1.same sm) (ex1.trans (ex_same sm))
    · exact hy.elim⟩
  obtain ⟨v, e⟩ := rel.isSet hset
  exact ⟨v, e, key v e⟩
/-- methods of an own list -/
abbrev CM := List PyData → List PyData → (PyData → List PyData → Prop) → Prop
abbrev BrM (K : PySem.W.Frag) (r : V → List V → Hp → VK → Prop) (C : CM) : Prop := ∀ a xs vs ds ws H Q R, H a = some (.lst vs) → FzAll K H vs xs → FzAll K H ws ds → C xs ds R → (∀ z xs' v vs', R z xs' → Fz K H v z → FzAll K H vs' xs' → Q v (upd H a (.lst vs'))) → r (.ref a) ws H Q
def ownL : Option Sl → Bool
  | some (.own _) => true
  | _ => false
def tOwnM (i : Nat) (C : CM) (t : TQL) : TQ := fun ρ R => ownL ρ[i]? = true ∧ t ρ fun ds ρ1 => match ρ1[i]? with
  | some (.own xs) => C xs ds fun z xs' => R z (ρ1.set i (.own xs'))
  | _ => False
theorem own_at {K : PySem.W.Frag} {dk : Dk} {H0 H : Hp} {ρ : En} {σ : L2.St} {i : Nat} (r : Rel K dk H0 ρ σ H) (h : ownL ρ[i]? = true) : ∃ a vs, σ[i]? = some (some (.ref a)) ∧ H a = some (.lst vs) := by
  cases e : ρ[i]? with
  | none => rw [e] at h; cases h
  | some s =>
    cases s with
    | own x => obtain ⟨a, v, h1, h2, _⟩ := r.sl i _ e; exact ⟨a, v, h1, h2⟩
    | _ => rw [e] at h; cases h
theorem up_ownM {K : PySem.W.Frag} {dk : Dk} {H0 : Hp} {i : Nat} {C : CM} (br : BrM K r C) {σ : L2.St} {H : Hp} {Q : VK} {ρ : En} {R : PyData → En → Prop} (rel : Rel K dk H0 ρ σ H) (k : ∀ x ρ' v H', R x ρ' → Fz K H' v x → Rel K dk H0 ρ' σ H' → Ex H H' → Q v H')
    {a : Addr} (hσ : σ[i]? = some (some (.ref a))) {ds : List PyData} {ρ1 : En} {ws : List V} {H1 : Hp} (hds : match ρ1[i]? with | some (.own xs) => C xs ds fun z xs' => R z (ρ1.set i (.own xs')) | _ => False) (fz : FzAll K H1 ws ds) (rel1 : Rel K dk H0 ρ1 σ H1) (ex1 : Ex H H1) : r (.ref a) ws H1 Q := by
  split at hds
  · rename_i xs e
    obtain ⟨b, vs, h1, h2, h3, h4⟩ := rel1.sl i _ e
    rw [hσ] at h1
    cases h1
    refine br a xs vs ds ws H1 Q _ h2 h3 fz hds fun z xs' v vs' hr fv fvs => ?_
    obtain ⟨r2, ex2⟩ := rel1.put ⟨_, e, rfl, hσ⟩ (.lst vs') (.own xs') fun ex => ⟨a, vs', hσ, upd_same, fvs.mono ex, h4⟩
    exact k z _ v _ hr (fv.mono ex2) r2 (ex1.trans ex2)
  · exact hds.elim
theorem q_ownM {T id : String} {name : Str} {apos cpos : Pos} (i : Nat) {C : CM} (slot : Slot "list" name id) (hty : typeOf (.builtin id) = pure (.type "method_descriptor")) (hm : MtR X id r) (br : BrM X.K r C) (ha : QDs X (e :: es) t)
    (hN : X.N[i]? = some x := by rfl) (hv : Vis X.env.scope x := by first | exact Or.inl rfl | exact Or.inr (Or.inl rfl) | exact Or.inr (Or.inr rfl)) (hd : (x == ("__debug__" : Str)) = false := by decide) (hcd : (x == ("__classdict__" : Str)) = false := by decide)
    (hbase : attributeBase (.Name x p) name X.env (eval (.Name x p) X.env) = eval (.Name x p) X.env := by rfl)
    (hfew : ((backTo cpos (starEach (e :: es) X.env)).all (fun x => !x.1) && (backToKw cpos (keywordEach [] X.env)).all (fun x => x.1.isSome)
      && decide ((e :: es).length + ([] : List Keyword).length + (if ([] : List Keyword).isEmpty then 0 else 1) < 30)) = true := by rfl)
    (hline : (apos.endLine == cpos.line) = true := by rfl) (hs : starEach (e :: es) X.env = (false, eval e X.env) :: starEach es X.env := by rfl) (hplain : (backTo cpos (starEach es X.env)).any (·.1) = false := by rfl) :
    QE X (.Call (.Attribute (.Name x p) name apos) (e :: es) [] cpos) (tOwnM i C t) :=
  ⟨fun dk H0 => PE.imp (pe_bm PySem.F.plainAttrs_list slot hty hm (pe_var hN hv hd hcd) (ha.run dk H0) hbase hfew hline hs hplain) fun σ H Q ⟨ρ, R, rel, ⟨ho, h⟩, k⟩ => by
    obtain ⟨a, vs, h1, h2⟩ := own_at rel ho
    exact ⟨_, h1, .inl ⟨rfl, _, SqL.of h2⟩, ρ, _, rel, h, fun ds ρ1 ws H1 hds fz rel1 ex1 => up_ownM br rel k h1 hds fz rel1 ex1⟩⟩
theorem q_ownM0 {T id : String} {name : Str} {apos cpos : Pos} (i : Nat) {C : CM} (slot : Slot "list" name id) (hty : typeOf (.builtin id) = pure (.type "method_descriptor")) (hm : MtR X id r) (br : BrM X.K r C)
    (hN : X.N[i]? = some x := by rfl) (hv : Vis X.env.scope x := by first | exact Or.inl rfl | exact Or.inr (Or.inl rfl) | exact Or.inr (Or.inr rfl)) (hd : (x == ("__debug__" : Str)) = false := by decide) (hcd : (x == ("__classdict__" : Str)) = false := by decide)
    (hbase : attributeBase (.Name x p) name X.env (eval (.Name x p) X.env) = eval (.Name x p) X.env := by rfl) (hline : (apos.endLine == cpos.line) = true := by rfl) :
    QE X (.Call (.Attribute (.Name x p) name apos) [] [] cpos) (tOwnM i C dNil) :=
  ⟨fun dk H0 => PE.imp (pe_bm0 PySem.F.plainAttrs_list slot hty hm (pe_var hN hv hd hcd) hbase hline) fun σ H Q ⟨ρ, R, rel, ⟨ho, h⟩, k⟩ => by
    obtain ⟨a, vs, h1, h2⟩ := own_at rel ho
    exact ⟨_, h1, .inl ⟨rfl, _, SqL.of h2⟩, up_ownM br rel k h1 h .nil rel (Ex.refl H)⟩⟩
def appC : CM := fun xs ds R => match ds with
  | [y] => xs.length ≤ 1000000 ∧ R .none (xs ++ [y])
  | _ => False
theorem lt_line {n : Nat} (h : n ≤ 1000000) : n < sizeLine := by rw [sizeLine_eq]; omega
theorem br_app {K : PySem.W.Frag} : BrM K rAppend appC := by
  intro a xs vs ds ws H Q R h1 f fw c k
  unfold appC at c
  split at c
  · obtain ⟨w, rfl, fy⟩ := fz1 fw
    exact ⟨a, vs, w, rfl, rfl, h1, by rw [f.length]; exact lt_line c.1, k _ _ _ _ c.2 .non (f.append (.one fy))⟩
  · exact c.elim
theorem q_append {apos cpos : Pos} (i : Nat) (ha : QE X e te) (hN : X.N[i]? = some x := by rfl) (hv : Vis X.env.scope x := by first | exact Or.inl rfl | exact Or.inr (Or.inl rfl) | exact Or.inr (Or.inr rfl)) (hd : (x == ("__debug__" : Str)) = false := by decide) (hcd : (x == ("__classdict__" : Str)) = false := by decide)
    (hbase : attributeBase (.Name x p) "append" X.env (eval (.Name x p) X.env) = eval (.Name x p) X.env := by rfl)
    (hfew : ((backTo cpos (starEach [e] X.env)).all (fun x => !x.1) && (backToKw cpos (keywordEach [] X.env)).all (fun x => x.1.isSome)
      && decide (([e] : List Expr).length + ([] : List Keyword).length + (if ([] : List Keyword).isEmpty then 0 else 1) < 30)) = true := by rfl)
    (hline : (apos.endLine == cpos.line) = true := by rfl) (hs : starEach [e] X.env = (false, eval e X.env) :: starEach [] X.env := by rfl) :
    QE X (.Call (.Attribute (.Name x p) "append" apos) [e] [] cpos) (tOwnM i appC (dCons te dNil)) :=
  q_ownM (T := "list") i PySem.F.slot_list_append PySem.F.type_list_append mt_append br_app (qd_cons ha qd_nil hs) hN hv hd hcd hbase hfew hline hs rfl
def popC : CM := fun xs ds R => match ds with
  | [] => ∃ y, xs[xs.length - 1]? = some y ∧ R y xs.dropLast
  | [.int k] => 0 ≤ k ∧ k ≤ 1000000 ∧ ∃ y, xs[k.toNat]? = some y ∧ R y (xs.eraseIdx k.toNat)
  | _ => False
theorem dropLast_fz {K : PySem.W.Frag} {H : Hp} {vs : List V} {xs : List PyData} (f : FzAll K H vs xs) : FzAll K H vs.dropLast xs.dropLast := by
  rw [List.dropLast_eq_take, List.dropLast_eq_take, f.length]
  exact f.take _
theorem br_pop {K : PySem.W.Frag} : BrM K (fun x vs H Q => rPop x vs H Q ∨ rPopAt x vs H Q) popC := by
  intro a xs vs ds ws H Q R h1 f fw c k
  unfold popC at c
  split at c
  · cases fw
    obtain ⟨y, hy, c⟩ := c
    obtain ⟨v, hv, fv⟩ := f.at hy
    rw [← f.length] at hv
    exact .inl ⟨a, vs, v, rfl, rfl, h1, hv, k _ _ _ _ c fv (dropLast_fz f)⟩
  · rename_i j
    obtain ⟨w, rfl, fy⟩ := fz1 fw
    cases fy
    obtain ⟨h0, h2, y, hy, c⟩ := c
    obtain ⟨v, hv, fv⟩ := f.at hy
    have hlt := (List.getElem?_eq_some_iff.mp hv).1
    have sq : seqIndex? j vs.length = some j.toNat := by
      have : ixN vs.length j = some j.toNat := by
        unfold ixN
        rw [if_pos h0, if_pos (by omega)]
      exact (ixN_seq this).1
    exact .inr ⟨a, vs, j, j.toNat, v, rfl, rfl, h1, by omega, by omega, sq, hv, k _ _ _ _ c fv (f.erase _)⟩
  · exact c.elim
theorem q_pop1 {apos cpos : Pos} (i : Nat) (ha : QE X e te) (hN : X.N[i]? = some x := by rfl) (hv : Vis X.env.scope x := by first | exact Or.inl rfl | exact Or.inr (Or.inl rfl) | exact Or.inr (Or.inr rfl)) (hd : (x == ("__debug__" : Str)) = false := by decide) (hcd : (x == ("__classdict__" : Str)) = false := by decide)
    (hbase : attributeBase (.Name x p) "pop" X.env (eval (.Name x p) X.env) = eval (.Name x p) X.env := by rfl)
    (hfew : ((backTo cpos (starEach [e] X.env)).all (fun x => !x.1) && (backToKw cpos (keywordEach [] X.env)).all (fun x => x.1.isSome)
      && decide (([e] : List Expr).length + ([] : List Keyword).length + (if ([] : List Keyword).isEmpty then 0 else 1) < 30)) = true := by rfl)
    (hline : (apos.endLine == cpos.line) = true := by rfl) (hs : starEach [e] X.env = (false, eval e X.env) :: starEach [] X.env := by rfl) :
    QE X (.Call (.Attribute (.Name x p) "pop" apos) [e] [] cpos) (tOwnM i popC (dCons te dNil)) :=
  q_ownM (T := "list") i PySem.F.slot_list_pop PySem.F.type_list_pop (MtR.or (X := X) mt_pop mt_popAt) br_pop (qd_cons ha qd_nil hs) hN hv hd hcd hbase hfew hline hs rfl
theorem q_pop0 {apos cpos : Pos} (i : Nat) (hN : X.N[i]? = some x := by rfl) (hv : Vis X.env.scope x := by first | exact Or.inl rfl | exact Or.inr (Or.inl rfl) | exact Or.inr (Or.inr rfl)) (hd : (x == ("__debug__" : Str)) = false := by decide) (hcd : (x == ("__classdict__" : Str)) = false := by decide)
    (hbase : attributeBase (.Name x p) "pop" X.env (eval (.Name x p) X.env) = eval (.Name x p) X.env := by rfl) (hline : (apos.endLine == cpos.line) = true := by rfl) :
    QE X (.Call (.Attribute (.Name x p) "pop" apos) [] [] cpos) (tOwnM i popC dNil) :=
  q_ownM0 (T := "list") i PySem.F.slot_list_pop PySem.F.type_list_pop (MtR.or (X := X) mt_pop mt_popAt) br_pop hN hv hd hcd hbase hline
end
end Q
end P12
section P13
namespace Q
open PySem PySem.Spec PyProof.Rows L2 HT

/-! ### xs.extend(ys), ys frozen -/
theorem extend_tup (l : Addr) (items : Array Value) (n : Nat) (b : Addr) (dd : Option Addr) (sl : Array (Option Value)) (items2 : Array Value) (n2 : Nat) (hs0 : ¬(!items.isEmpty && Builtin.List.listTooLong (items.size + items2.size)) = true) (hs1 : items.size ≤ sizeLine) (hs2 : items.size + items2.size ≤ sizeLine + 1) :
    Meets (Builtin.«list.extend» ⟨[.ref l, .ref b], []⟩) (fun _ R s => s.heap.get? l = some { cls := .type "list", dict := none, data := .seq items n, slots := #[] } ∧ s.heap.get? b = some { cls := .type "tuple", dict := dd, data := .seq items2 n2, slots := sl } ∧ R (.ok (.ret Value.none)) { s with heap := s.heap.update l (Obj.mapSeq fun x => x ++ items2), toks := s.toks }) :=
  .of_wp fun prog w A R s h => by
    obtain ⟨hp, g, d, tk, os⟩ := s; obtain ⟨hl, hb, h⟩ := h; have f1 := AutoSeq1.idx_int; have f2 := AutoSeq1.sub_tuple_tuple; have f3 := AutoSeq1.sub_list_list; have f4 := AutoSeq1.sub_tuple_list; have f5 := AutoSeq1.sub_list_tuple;
    have hz' : (items ++ items2).size ≤ sizeLine + 1 := by rw [Array.size_append]; exact hs2
    wp_walk using (wpAny_updateSeq hl rfl (hz := hs1) (_hz' := hz')), AutoSeq1.wpAny_loadPart' hl, AutoSeq1.wpAny_loadPart' hb; exact ⟨_, rfl, h⟩
section
variable {X : Cx} {pos p : Pos} {e a b : Expr} {es : List Expr} {te ta tb : TQ} {t : TQL} {x : Str} {pins : List (Addr × Obj)} {σ : L2.St} {H : Hp} {s : Shared}
theorem frzL {a : Addr} {o : Obj} {vs : List V} (I : Inv X pins σ H s) (h : H a = some (.frz o (.lst vs))) : vs.length ≤ sizeLine ∧ ∃ its n, Vals vs its ∧ vs.length = its.length ∧ s.heap.get? a = some { cls := .type "list", data := .seq its.toArray n } := by
  obtain ⟨_, z, its, n, r, e⟩ := I.hok a _ h
  exact ⟨z, its, n, r, r.length, e⟩
def rExtF (K : PySem.W.Frag) : V → List V → Hp → VK → Prop := fun x vs H Q => ∃ l b xs zs, x = .ref l ∧ vs = [.ref b] ∧ H l = some (.lst xs) ∧ ((∃ o, H b = some (.frz o (.lst zs))) ∨ SqT K H b zs) ∧ xs.length + zs.length ≤ sizeLine ∧ Q .non (upd H l (.lst (xs ++ zs)))
theorem mt_extF : MtM X "list.extend" (rExtF X.K) := by
  intro pins s σ H x vs v us Q I rx rv h
  obtain ⟨l, b, xs, zs, rfl, rfl, hH, hB, hz, q⟩ := h
  cases rx
  obtain ⟨u, rfl, ru⟩ := rv.one
  cases ru
  obtain ⟨z, its, n, r, hl, e⟩ := I.lstM hH
  have fin : ∀ its2 : List Value, Vals zs its2 → EP X pins σ Q Value.none { s with heap := s.heap.update l (Obj.mapSeq fun x => x ++ its2.toArray), toks := s.toks } := fun its2 r2 => by
    refine ⟨.non, _, I.lset (its' := its ++ its2) hH e (by simp) (r.append r2) ?_, rfl, q⟩
    rw [List.length_append]
    omega
  rcases hB with ⟨o, hB⟩ | hB
  · obtain ⟨z2, its2, n2, r2, hl2, e2⟩ := frzL I hB
    have hsz : its.toArray.size + its2.toArray.size ≤ sizeLine := by rw [List.size_toArray, List.size_toArray]; omega
    have hlong : ¬ (!its.toArray.isEmpty && Builtin.List.listTooLong (its.toArray.size + its2.toArray.size)) = true := by
      rw [notLongL hsz, Bool.and_false]
      exact Bool.false_ne_true
    exact call_meets F.slot_list_extend ⟨_, e, rfl⟩ F.entry_list_extend (F.args_list_extend_2 _ _)
      (AutoSeq1.list_extend_list_list_0 l its.toArray n b its2.toArray n2 hlong (by rw [List.size_toArray]; omega) (by omega)) ⟨e, e2, fin its2 r2⟩
  · obtain ⟨its2, r2, ⟨ob, e2, hc, n2, hd⟩, _⟩ := I.tuple hB
    have hl2 := r2.length
    have hsz : its.toArray.size + its2.toArray.size ≤ sizeLine := by rw [List.size_toArray, List.size_toArray]; omega
    have hlong : ¬ (!its.toArray.isEmpty && Builtin.List.listTooLong (its.toArray.size + its2.toArray.size)) = true := by
      rw [notLongL hsz, Bool.and_false]
      exact Bool.false_ne_true
    obtain ⟨cls, dd, data, sls⟩ := ob
    simp only at hc hd
    subst hc hd
    exact call_meets F.slot_list_extend ⟨_, e, rfl⟩ F.entry_list_extend (F.args_list_extend_2 _ _)
      (extend_tup l its.toArray n b dd sls its2.toArray n2 hlong (by rw [List.size_toArray]; omega) (by omega)) ⟨e, e2, fin its2 r2⟩
def extC : CM := fun xs ds R => match ds with
  | [.list ys] => xs.length + ys.length ≤ 1000000 ∧ R .none (xs ++ ys)
  | [.tuple ys] => xs.length + ys.length ≤ 1000000 ∧ R .none (xs ++ ys)
  | _ => False
theorem br_ext {K : PySem.W.Frag} : BrM K (rExtF K) extC := by
  intro a xs vs ds ws H Q R h1 f fw c k
  unfold extC at c
  split at c
  · obtain ⟨w, rfl, fy⟩ := fz1 fw
    cases fy with
    | lst q t => exact ⟨a, _, vs, _, rfl, rfl, h1, .inl ⟨_, q⟩, by rw [f.length, t.length]; exact Nat.le_of_lt (lt_line c.1), k _ _ _ _ c.2 .non (f.append t)⟩
  · obtain ⟨w, rfl, fy⟩ := fz1 fw
    cases fy with
    | tup q t => exact ⟨a, _, vs, _, rfl, rfl, h1, .inr q, by rw [f.length, t.length]; exact Nat.le_of_lt (lt_line c.1), k _ _ _ _ c.2 .non (f.append t)⟩
  · exact c.elim
theorem q_extend {apos cpos : Pos} (i : Nat) (ha : QE X e te) (hN : X.N[i]? = some x := by rfl) (hv : Vis X.env.scope x := by first | exact Or.inl rfl | exact Or.inr (Or.inl rfl) | exact Or.inr (Or.inr rfl)) (hd : (x == ("__debug__" : Str)) = false := by decide) (hcd : (x == ("__classdict__" : Str)) = false := by decide)
    (hbase : attributeBase (.Name x p) "extend" X.env (eval (.Name x p) X.env) = eval (.Name x p) X.env := by rfl)
    (hfew : ((backTo cpos (starEach [e] X.env)).all (fun x => !x.1) && (backToKw cpos (keywordEach [] X.env)).all (fun x => x.1.isSome)
      && decide (([e] : List Expr).length + ([] : List Keyword).length + (if ([] : List Keyword).isEmpty then 0 else 1) < 30)) = true := by rfl)
    (hline : (apos.endLine == cpos.line) = true := by rfl) (hs : starEach [e] X.env = (false, eval e X.env) :: starEach [] X.env := by rfl) :
    QE X (.Call (.Attribute (.Name x p) "extend" apos) [e] [] cpos) (tOwnM i extC (dCons te dNil)) :=
  q_ownM (T := "list") i PySem.F.slot_list_extend PySem.F.type_list_extend mt_extF br_ext (qd_cons ha qd_nil hs) hN hv hd hcd hbase hfew hline hs rfl
/-! ### xs + ys, xs * n of frozen lists -/
def rCatF : R2 := fun x y H Q => ∃ l b ol ob xs zs, x = .ref l ∧ y = .ref b ∧ H l = some (.frz ol (.lst xs)) ∧ H b = some (.frz ob (.lst zs)) ∧ xs.length + zs.length ≤ sizeLine ∧ ∀ p, H p = none → Q (.ref p) (upd H p (.lst (xs ++ zs)))
theorem op_catF : OpR X (binaryOp .Add) rCatF := by
  intro pins s σ H x y v u Q I rx ry h
  obtain ⟨l, b, ol, ob, xs, zs, rfl, rfl, hH, hB, hz, q⟩ := h
  cases rx
  cases ry
  obtain ⟨z, its, n, r, hl, e⟩ := frzL I hH
  obtain ⟨z2, its2, n2, r2, hl2, e2⟩ := frzL I hB
  refine PySem.P.add_list e e2 ?_ (by rw [List.size_toArray, List.size_toArray]; omega)
  have ea : its.toArray ++ its2.toArray = (its ++ its2).toArray := by simp
  rw [ea]
  exact ⟨.ref _, _, I.lnew (t' := s.toks) (r.append r2) (by rw [List.length_append]; omega), rfl, q _ I.fresh⟩
/-- a + b: whole numbers, texts, tuples, lists -/
def addF : C2 := fun x y R => match x, y with
  | .int i, .int j => R (.int (i + j))
  | .str i, .str j => i.length + j.length ≤ sizeLine ∧ R (.str (i ++ j))
  | .tuple xs, .tuple ys => xs.length + ys.length ≤ 1000000 ∧ R (.tuple (xs ++ ys))
  | .list xs, .list ys => xs.length + ys.length ≤ 1000000 ∧ R (.list (xs ++ ys))
  | _, _ => False
theorem le_line {n : Nat} (h : n ≤ 1000000) : n ≤ sizeLine := Nat.le_of_lt (lt_line h)
theorem q_addF (ha : QE X a ta) (hb : QE X b tb) : QE X (.BinOp a .Add b pos) (t2 addF ta tb) := by
  refine ⟨fun dk H0 => PE.imp (pe_fz (pe_op (op_add.or (op_add_str.or (op_catA.or op_catF))) (ha.run dk H0) (hb.run dk H0))) fun σ H Q ⟨ρ, R, rel, h, k⟩ =>
    ⟨ρ, _, rel, h, fun x ρ1 v H1 hx fz rel1 ex1 => ⟨ρ1, _, rel1, hx, fun y ρ2 u H2 hy fz2 rel2 ex2 => ?_⟩⟩⟩
  have ex := ex1.trans ex2
  have h1 := fz.mono ex2
  have hy : addF x y fun z => R z ρ2 := hy
  cases h1 with
  | int i => cases fz2 <;> first | exact hy.elim | exact .inl ⟨_, _, rfl, rfl, .inl (k _ _ _ H2 hy (.int _) rel2 ex)⟩
  | str i => cases fz2 <;> first | exact hy.elim | exact .inr (.inl ⟨_, _, rfl, rfl, hy.1, .inl (k _ _ _ H2 hy.2 (.str _) rel2 ex)⟩)
  | @tup a0 xs ds q t =>
    cases fz2 with
    | @tup b0 ys es q2 t2 =>
      have l1 := t.length
      have l2 := t2.length
      refine .inr (.inr (.inl ⟨a0, b0, xs, ys, rfl, rfl, q, q2, by rw [l1, l2]; exact le_line hy.1, fun e => .inl ?_, fun _ e => .inl ?_, fun _ _ p hp => .inl ?_⟩))
      · subst e
        have e' : ds = [] := List.eq_nil_of_length_eq_zero (by rw [← l1]; rfl)
        subst e'
        exact k _ _ _ H2 hy.2 (.tup q2 t2) rel2 ex
      · subst e
        have e' : es = [] := List.eq_nil_of_length_eq_zero (by rw [← l2]; rfl)
        subst e'
        refine k _ _ _ H2 hy.2 ?_ rel2 ex
        rw [List.append_nil]
        exact .tup q t
      · have sm := same_upd (H := H2) (p := p) (o := .tup (xs ++ ys)) hp
        exact k _ _ _ _ hy.2 (.tup (.inl (.inl upd_same)) ((t.append t2).mono (ex_same sm))) (rel2.same sm) (ex.trans (ex_same sm))
    | _ => exact hy.elim
  | @lst a0 o0 xs ds q t =>
    cases fz2 with
    | @lst b0 o1 ys es q2 t2 =>
      refine .inr (.inr (.inr ⟨a0, b0, _, _, xs, ys, rfl, rfl, q, q2, by rw [t.length, t2.length]; exact le_line hy.1, fun p hp => .inr ⟨p, _, rfl, upd_same, fun od => ?_⟩⟩))
      obtain ⟨f, sm⟩ := frz_new hp (t.append t2) od
      exact k _ _ _ _ hy.2 f (rel2.same sm) (ex.trans (ex_same sm))
    | _ => exact hy.elim
  | _ => cases fz2 <;> exact hy.elim
def rRepF : R2 := fun x y H Q => ∃ l k o xs, x = .ref l ∧ y = .int k ∧ H l = some (.frz o (.lst xs)) ∧ -(2 ^ 63) ≤ k ∧ k < 2 ^ 63 ∧ xs.length * k.toNat ≤ sizeLine ∧
  ∀ p, H p = none → Q (.ref p) (upd H p (.lst (List.replicate k.toNat xs).flatten))
theorem op_repF : OpR X (binaryOp .Mult) rRepF := by
  intro pins s σ H x y v u Q I rx ry h
  obtain ⟨l, k, o, xs, rfl, rfl, hH, h1, h2, hz, q⟩ := h
  cases rx
  obtain ⟨t, rfl⟩ := ry
  obtain ⟨z, its, n, r, hl, e⟩ := frzL I hH
  have hlen : its.toArray.size * k.toNat ≤ sizeLine := by rw [List.size_toArray, ← hl]; exact hz
  have hcap : ¬ its.toArray.size * k.toNat > (2 ^ 63 - 1) / 8 := by
    have : (sizeLine : Nat) ≤ (2 ^ 63 - 1) / 8 := by decide
    omega
  have hfit : ¬ (!Builtin.List.listFitsIndex k) = true := by
    rw [fitsIndex_both h1 h2]
    exact Bool.false_ne_true
  have hlong : ¬ Builtin.List.listTooLong (its.toArray.size * k.toNat) = true := by
    rw [notLongL hlen]
    exact Bool.false_ne_true
  have hnew : List.foldl (fun x1 x2 => x1 ++ x2) #[] (List.replicate (if its.toArray.isEmpty = true then 0 else k.toNat) its.toArray) = (List.replicate k.toNat its).flatten.toArray := by
    have f0 : ∀ m : Nat, List.foldl (fun x1 x2 => x1 ++ x2) #[] (List.replicate m its.toArray) = (List.replicate m its).flatten.toArray := fun m => by
      have := foldl_rep its m []
      rw [List.nil_append] at this
      exact this
    rw [f0]
    cases its with
    | nil => simp
    | cons a r' => rw [if_neg (by simp)]
  refine wpAny_binaryOp_repeat_ref (T := "list") (U := "int") (by decide) ⟨_, e, rfl⟩ (fun s' => typeIs_int s' k t) noFill_list_mul F.fills_int_mul F.slot_int_rmul repeat_list F.slot_int_index.lookup
    (call_meets F.slot_int_rmul (typeIs_int s k t) F.entry_int_rmul (F.args_int_rmul_2 _ _) (int___rmul___int_list k t l its.toArray n)
      ⟨e, rfl, ⟨_, e, rfl⟩, call_meets F.slot_list_mul ⟨_, e, rfl⟩ F.entry_list_mul (F.args_list_mul_2 _ _) (AutoListH.list___mul___list_int_3 l its.toArray n k t hfit hcap hlong) ⟨e, ?_⟩⟩)
  rw [hnew]
  exact ⟨.ref _, _, I.lnew (t' := s.toks) (r.rep k.toNat) (by rw [PyProof.Rows.lm_len_rep_flat, Nat.mul_comm]; exact hz), rfl, q _ I.fresh⟩
/-- [x] * n: a new list -/
def repC (x y : PyData) (R : List PyData → Prop) : Prop := match x, y with
  | .list xs, .int n => n ≤ 100000 ∧ -100000 ≤ n ∧ xs.length ≤ 100 ∧ R (List.replicate n.toNat xs).flatten
  | _, _ => False
def tRepL (ta tb : TQ) : TQL := fun ρ R => ta ρ fun x ρ1 => tb ρ1 fun y ρ2 => repC x y fun xs => R xs ρ2
theorem ql_rep (ha : QE X a ta) (hb : QE X b tb) : QL X (.BinOp a .Mult b pos) (tRepL ta tb) := by
  refine ⟨fun dk H0 => PE.imp (pe_op op_repF (ha.run dk H0) (hb.run dk H0)) fun σ H Q ⟨ρ, R, rel, h, k⟩ =>
    ⟨ρ, _, rel, h, fun x ρ1 v H1 hx fz rel1 ex1 => ⟨ρ1, _, rel1, hx, fun y ρ2 u H2 hy fz2 rel2 ex2 => ?_⟩⟩⟩
  have hy : repC x y fun xs => R xs ρ2 := hy
  have h1 := fz.mono ex2
  cases h1 with
  | @lst a0 o0 xs ds q t =>
    cases fz2 with
    | int n =>
      obtain ⟨c1, c2, c3, c⟩ := hy
      refine ⟨_, n, _, _, rfl, rfl, q, by omega, by omega, ?_, fun p hp => ?_⟩
      · rw [t.length, sizeLine_eq]
        have : n.toNat ≤ 100000 := by omega
        calc _ ≤ 100 * 100000 := Nat.mul_le_mul c3 this
          _ ≤ _ := by decide
      · have sm := same_upd (H := H2) (p := p) (o := .lst (List.replicate n.toNat xs).flatten) hp
        exact k _ ρ2 p _ _ c upd_same ((t.rep _).mono (ex_same sm)) (rel2.fresh0 hp) (rel2.freshOwn hp) (rel2.same sm) (ex1.trans (ex2.trans (ex_same sm)))
    | _ => exact hy.elim
  | _ => cases fz2 <;> exact hy.elim
/-- x[k] = e of an own list -/
def ixOwn (s : Option Sl) (y : PyData) (R : List PyData → Int → Prop) : Prop := match s, y with
  | some (.own xs), .int k => R xs k
  | _, _ => False
def sSetIx (i : Nat) (te ti : TQ) : TQS := fun R ρ => setQ ρ[i]? = true ∧ te ρ fun x ρ1 => ti ρ1 fun y ρ2 => ixOwn ρ2[i]? y fun xs k => 0 ≤ k ∧ k < (xs.length : Int) ∧ R.nx (ρ2.set i (.own (xs.set k.toNat x)))
theorem qs_setIx {ti : TQ} {tpos spos : Pos} (i : Nat) (he : QE X e te) (hb : QE X b ti) (hN : X.N[i]? = some x := by rfl) (hv : Vis X.env.scope x := by first | exact Or.inl rfl | exact Or.inr (Or.inl rfl) | exact Or.inr (Or.inr rfl)) (hd : (x == ("__debug__" : Str)) = false := by decide) (hcd : (x == ("__classdict__" : Str)) = false := by decide)
    (hs : swapsWithSole [.Subscript (.Name x p) b tpos] e spos.line X.env = pure false := by rfl) (hw : swappedStores [.Subscript (.Name x p) b tpos] e X.env = pure none := by rfl)
    (h1 : (assignEach [.Subscript (.Name x p) b tpos] X.env).map (·.2) = [assign (.Subscript (.Name x p) b tpos) X.env] := by rfl)
    (ha : ∀ v, assign (.Subscript (.Name x p) b tpos) X.env v = (do
      let ov ← holding [v] (eval (.Name x p) X.env)
      let iv ← holding [v, ov] (eval b X.env)
      standAt tpos
      holding [v, ov, iv] (setItem ov iv v)
      release [v, ov, iv] []) := by intro _; rfl) :
    QS X (.Assign [.Subscript (.Name x p) b tpos] e spos) (sSetIx i te ti) := by
  refine ⟨fun dk H0 => PS.imp (ps_asg (he.run dk H0) (pg_sub (pe_var hN hv hd hcd) (hb.run dk H0) set_list ha) hs hw h1) fun D σ H ⟨ρ, R, rel, ⟨hset, h⟩, k⟩ => ⟨ρ, _, rel, h, fun y ρ1 v H1 hy fz rel1 ex1 => ?_⟩⟩
  obtain ⟨ov, eo⟩ := rel.isSet hset
  refine ⟨ov, eo, ρ1, _, rel1, hy, fun z ρ2 u H2 hz fz2 rel2 ex2 => ?_⟩
  have hz : ixOwn ρ2[i]? z fun xs k => 0 ≤ k ∧ k < (xs.length : Int) ∧ R.nx (ρ2.set i (.own (xs.set k.toNat y))) := hz
  cases e : ρ2[i]? with
  | none => rw [e] at hz; exact hz.elim
  | some s =>
    rw [e] at hz
    cases s with
    | own xs =>
      cases fz2 with
      | int kk =>
        obtain ⟨a, vs, g1, g2, g3, g4⟩ := rel2.sl i _ e
        rw [eo] at g1
        cases g1
        obtain ⟨c1, c2, c⟩ := hz
        refine ⟨a, vs, kk, kk.toNat, rfl, rfl, g2, ?_, ?_⟩
        · unfold ixN
          rw [if_pos c1, if_pos (by rw [g3.length]; exact c2)]
        · obtain ⟨r2, ex3⟩ := rel2.put ⟨_, e, rfl, eo⟩ (.lst (vs.set kk.toNat v)) (.own (xs.set kk.toNat y)) fun ex => ⟨a, _, eo, upd_same, ((g3.set (fz.mono ex2) _).mono ex), g4⟩
          exact k.nx _ σ _ c r2 (ex1.trans (ex2.trans ex3))
      | _ => exact hz.elim
    | _ => cases fz2 <;> exact hz.elim
end
end Q
end P13
section P14
namespace Q
open PySem PySem.Spec PyProof.Rows L2 HT

/-! ### own dicts -/
def valD (kvs : List (Key × PyData)) (k : Key) : Option PyData := (kvs.find? fun kv => decide (kv.1 = k)).map (·.2)
def putD (kvs : List (Key × PyData)) (k : Key) (v : PyData) : List (Key × PyData) :=
  if (kvs.any fun kv => decide (kv.1 = k)) = true then kvs.map (fun kv => if kv.1 = k then (kv.1, v) else kv) else kvs ++ [(k, v)]
def keyD : PyData → Option Key
  | .int i => some (.inl i)
  | .str x => some (.inr x)
  | _ => none
section
variable {K : PySem.W.Frag} {H : Hp}
theorem FzKV.length : ∀ {ws : List (Key × V)} {kvs : List (Key × PyData)}, FzKV K H ws kvs → ws.length = kvs.length
  | _, _, .nil => rfl
  | _, _, .cons _ t => by rw [List.length_cons, List.length_cons, FzKV.length t]
theorem FzKV.val {k : Key} : ∀ {ws : List (Key × V)} {kvs : List (Key × PyData)}, FzKV K H ws kvs → (valV ws k = none ∧ valD kvs k = none) ∨ ∃ v x, valV ws k = some v ∧ valD kvs k = some x ∧ Fz K H v x
  | _, _, .nil => .inl ⟨rfl, rfl⟩
  | _, _, .cons (k := k') (v := v) (d := d) h t => by
    by_cases e : k' = k
    · refine .inr ⟨v, d, ?_, ?_, h⟩
      · simp [valV, List.find?_cons, e]
      · simp [valD, List.find?_cons, e]
    · rcases FzKV.val (k := k) t with ⟨q1, q2⟩ | ⟨w, y, q1, q2, q3⟩
      · refine .inl ⟨?_, ?_⟩
        · rw [← q1]; simp [valV, List.find?_cons, e]
        · rw [← q2]; simp [valD, List.find?_cons, e]
      · refine .inr ⟨w, y, ?_, ?_, q3⟩
        · rw [← q1]; simp [valV, List.find?_cons, e]
        · rw [← q2]; simp [valD, List.find?_cons, e]
theorem FzKV.any {k : Key} : ∀ {ws : List (Key × V)} {kvs : List (Key × PyData)}, FzKV K H ws kvs → (ws.any fun kv => decide (kv.1 = k)) = (kvs.any fun kv => decide (kv.1 = k))
  | _, _, .nil => rfl
  | _, _, .cons h t => by rw [List.any_cons, List.any_cons, FzKV.any t]
theorem FzKV.append : ∀ {ws ws' : List (Key × V)} {kvs kvs' : List (Key × PyData)}, FzKV K H ws kvs → FzKV K H ws' kvs' → FzKV K H (ws ++ ws') (kvs ++ kvs')
  | _, _, _, _, .nil, s => s
  | _, _, _, _, .cons h t, s => .cons h (FzKV.append t s)
theorem FzKV.upd {k : Key} {v : V} {x : PyData} (f : Fz K H v x) : ∀ {ws : List (Key × V)} {kvs : List (Key × PyData)}, FzKV K H ws kvs → FzKV K H (ws.map fun kv => if kv.1 = k then (kv.1, v) else kv) (kvs.map fun kv => if kv.1 = k then (kv.1, x) else kv)
  | _, _, .nil => .nil
  | _, _, .cons (k := k') h t => by
    rw [List.map_cons, List.map_cons]
    by_cases e : k' = k
    · simp only [e, if_true]
      exact .cons f (FzKV.upd f t)
    · simp only [e, if_false]
      exact .cons h (FzKV.upd f t)
theorem FzKV.put {k : Key} {v : V} {x : PyData} (f : Fz K H v x) {ws : List (Key × V)} {kvs : List (Key × PyData)} (h : FzKV K H ws kvs) : FzKV K H (putK ws k v) (putD kvs k x) := by
  unfold putK putD
  rw [h.any]
  split
  · exact h.upd f
  · exact h.append (.cons f .nil)
end
def dOwn (s : Option Sl) (y : PyData) (R : List (Key × PyData) → Key → Prop) : Prop := match s, keyD y with
  | some (.owd kvs), some k => R kvs k
  | _, _ => False
theorem dOwn_at {K : PySem.W.Frag} {dk : Dk} {H0 H : Hp} {ρ : En} {σ : L2.St} {i : Nat} {y : PyData} {u : V} {R : List (Key × PyData) → Key → Prop} (rel : Rel K dk H0 ρ σ H) (f : Fz K H u y) (h : dOwn ρ[i]? y R) :
    ∃ a ws kvs k, ρ[i]? = some (.owd kvs) ∧ σ[i]? = some (some (.ref a)) ∧ H a = some (.dK ws) ∧ FzKV K H ws kvs ∧ H0 a = none ∧ u = kV k ∧ R kvs k := by
  unfold dOwn at h
  cases e : ρ[i]? with
  | none => rw [e] at h; exact h.elim
  | some s =>
    rw [e] at h
    cases s with
    | owd kvs =>
      obtain ⟨a, ws, h1, h2, h3, h4⟩ := rel.sl i _ e
      cases f with
      | int j => exact ⟨a, ws, kvs, .inl j, rfl, h1, h2, h3, h4, rfl, h⟩
      | str j => exact ⟨a, ws, kvs, .inr j, rfl, h1, h2, h3, h4, rfl, h⟩
      | _ => exact h.elim
    | _ => exact h.elim
section
variable {X : Cx} {pos p : Pos} {e a b : Expr} {es : List Expr} {te ta tb tk : TQ} {t : TQP} {x : Str}
def pDn (t : TQP) : TQP := fun ρ R => t ρ fun ss ρ2 => R (.owd [] :: ss) ρ2
theorem qp_dn {dpos : Pos} (ht : QPs X es t) (hs : starEach (.Dict [] [] dpos :: es) X.env = (false, eval (.Dict [] [] dpos) X.env) :: starEach es X.env := by rfl) : QPs X (.Dict [] [] dpos :: es) (pDn t) := by
  refine ⟨fun dk H0 => ?_⟩
  have ht' : PA X es (fun σ H Q => ∃ H1, upP X.K dk H1 t σ H Q) := ⟨fun pos pins s σ H Q I ⟨H1, q⟩ => (ht.run dk H1).run pos pins s σ H Q I q⟩
  refine PA.imp (pa_cons pe_dnewK ht' hs) fun σ H Q ⟨ρ, R, rel0, h, k⟩ => fun p hp => ?_
  have sm := same_upd (o := .dK []) hp
  have rel := rel0.same sm
  have n0 := rel0.fresh0 hp
  have no := rel0.freshOwn hp
  have e1 : upd H p (.dK []) p = some (.dK []) := upd_same
  refine ⟨reb ρ σ (upd H p (.dK [])), ρ, _, rel.reb, h, fun ss ρ2 ws H2 hxs ps rel2 ex2 => ?_⟩
  have dn1 : p ≠ dk.1 := fun z => rel.dk1 (by rw [← z]; exact n0)
  have dn2 : p ≠ dk.2 := fun z => rel.dk2 (by rw [← z]; exact n0)
  obtain ⟨e2, no2⟩ := rel.flight rel2 e1 no dn1 dn2
  refine k _ ρ2 (.ref p :: ws) H2 hxs (.cons ⟨p, [], rfl, e2, .nil, n0⟩ (fun a _ z => ?_) (ps.back rel)) (rel.back rel2) ((ex_same sm).trans ex2)
  cases z
  refine ⟨no2, fun j s' h1 h2 => ?_⟩
  cases ho : s'.isOwn with
  | false => rfl
  | true =>
    have := ps.none0 j s' p h1 h2 ho
    rw [reb_not no, e1] at this
    cases this
def sDn (i : Nat) : TQS := fun R ρ => R.nx (ρ.set i (.owd []))
theorem qs_dn (i : Nat) {x : Str} {pos' dpos : Pos} (hN : X.N.Nodup) (hi : X.N[i]? = some x := by rfl) (hx : Loc X.env.scope x := by first | exact Or.inl rfl | exact Or.inr rfl) (hs : swapsWith (.Dict [] [] dpos) (some (.Name x pos')) pos.line X.env = pure false := by rfl)
    (hf : X.fn x = true ∨ X.env.scope.names.lookup x = some .local := by first | exact .inl rfl | exact .inr rfl) : QS X (.Assign [.Name x pos'] (.Dict [] [] dpos) pos) (sDn i) :=
  ⟨fun dk H0 => PS.imp (ps_set hN hi hx pe_dnewK hs hf) fun D σ H ⟨ρ, R, rel0, h, k⟩ => fun p hp => by
    have sm := same_upd (o := .dK []) hp
    exact k.nx _ _ _ h ((rel0.same sm).set ⟨p, [], rfl, upd_same, .nil, rel0.fresh0 hp⟩ fun a _ z => by cases z; exact rel0.freshOwn hp) (ex_same sm)⟩
def sSetD (i : Nat) (te tk : TQ) : TQS := fun R ρ => setQ ρ[i]? = true ∧ te ρ fun x ρ1 => tk ρ1 fun y ρ2 => dOwn ρ2[i]? y fun kvs κ => kvs.length ≤ 1000000 ∧ R.nx (ρ2.set i (.owd (putD kvs κ x)))
theorem qs_setD {tpos spos : Pos} (i : Nat) (hu : X.A.units + 64 < cLine) (he : QE X e te) (hb : QE X b tk) (hN : X.N[i]? = some x := by rfl) (hv : Vis X.env.scope x := by first | exact Or.inl rfl | exact Or.inr (Or.inl rfl) | exact Or.inr (Or.inr rfl)) (hd : (x == ("__debug__" : Str)) = false := by decide) (hcd : (x == ("__classdict__" : Str)) = false := by decide)
    (hs : swapsWith e (some (.Subscript (.Name x p) b tpos)) spos.line X.env = pure false := by rfl) : QS X (.Assign [.Subscript (.Name x p) b tpos] e spos) (sSetD i te tk) := by
  refine ⟨fun dk H0 => PS.imp (ps_dput (by omega) (pe_var hN hv hd hcd) (hb.run dk H0) (he.run dk H0) hs) fun D σ H ⟨ρ, R, rel, ⟨hset, h⟩, k⟩ => ⟨ρ, _, rel, h, fun y ρ1 v H1 hy fz rel1 ex1 => ?_⟩⟩
  obtain ⟨ov, eo⟩ := rel.isSet hset
  refine ⟨ov, eo, ρ1, _, rel1, hy, fun z ρ2 u H2 hz fz2 rel2 ex2 => ?_⟩
  obtain ⟨a, ws, kvs, κ, e, g1, g2, g3, g4, rfl, c1, c⟩ := dOwn_at rel2 fz2 hz
  rw [eo] at g1
  cases g1
  obtain ⟨r2, ex3⟩ := rel2.put ⟨_, e, rfl, eo⟩ (.dK (putK ws κ v)) (.owd (putD kvs κ y)) fun ex => ⟨a, _, eo, upd_same, (g3.put (fz.mono ex2)).mono ex, g4⟩
  exact ⟨a, _, rfl, DPut.k g2 (by rw [g3.length]; exact lt_line c1), k.nx _ σ _ c r2 (ex1.trans (ex2.trans ex3))⟩
def tDgetN (i : Nat) (tk : TQ) : TQ := fun ρ R => setQ ρ[i]? = true ∧ tk ρ fun y ρ1 => dOwn ρ1[i]? y fun kvs κ => ∃ x, valD kvs κ = some x ∧ R x ρ1
theorem DGet.of {H : Hp} {a : Addr} {ws : List (Key × V)} {k : Key} {o : Option V} (h : H a = some (.dK ws)) (e : valV ws k = o) : DGet H a (kV k) o := by rw [← e]; exact DGet.k h
theorem q_dgetN (i : Nat) (hu : X.A.units + 64 < cLine) (hb : QE X b tk) (hN : X.N[i]? = some x := by rfl) (hv : Vis X.env.scope x := by first | exact Or.inl rfl | exact Or.inr (Or.inl rfl) | exact Or.inr (Or.inr rfl)) (hd : (x == ("__debug__" : Str)) = false := by decide) (hcd : (x == ("__classdict__" : Str)) = false := by decide)
    (hs : NoSl b := by intro _ _; rfl) : QE X (.Subscript (.Name x p) b pos) (tDgetN i tk) :=
  ⟨fun dk H0 => PE.imp (pe_dget (by omega) (pe_var hN hv hd hcd) (hb.run dk H0) hs) fun σ H Q ⟨ρ, R, rel, ⟨hset, h⟩, k⟩ => by
    obtain ⟨ov, eo⟩ := rel.isSet hset
    refine ⟨ov, eo, ρ, _, rel, h, fun z ρ2 u H2 hz fz2 rel2 ex2 => ?_⟩
    obtain ⟨a, ws, kvs, κ, e, g1, g2, g3, g4, rfl, y, c1, c⟩ := dOwn_at rel2 fz2 hz
    rw [eo] at g1
    cases g1
    rcases g3.val (k := κ) with ⟨q1, q2⟩ | ⟨v, y', q1, q2, q3⟩
    · rw [q2] at c1; cases c1
    · rw [q2] at c1; cases c1
      exact ⟨a, v, rfl, DGet.of g2 q1, k _ ρ2 v H2 c q3 rel2 ex2⟩⟩
def tDinN (i : Nat) (neg : Bool) (tk : TQ) : TQ := fun ρ R => setQ ρ[i]? = true ∧ tk ρ fun y ρ1 => dOwn ρ1[i]? y fun kvs κ => R (.bool (if neg then !(valD kvs κ).isSome else (valD kvs κ).isSome)) ρ1
theorem din_read {K : PySem.W.Frag} {dk : Dk} {H0 : Hp} {i : Nat} {neg : Bool} {σ : L2.St} {H : Hp} {Q : VK} (h : up K dk H0 (tDinN i neg tk) σ H Q) : up K dk H0 tk σ H fun y H1 => ∃ v, σ[i]? = some (some v) ∧ ∃ a o, v = .ref a ∧ DGet H1 a y o ∧ Q (.bl (if neg then !o.isSome else o.isSome)) H1 := by
  obtain ⟨ρ, R, rel, ⟨hset, h⟩, k⟩ := h
  refine ⟨ρ, _, rel, h, fun z ρ2 u H2 hz fz2 rel2 ex2 => ?_⟩
  obtain ⟨a, ws, kvs, κ, e, g1, g2, g3, g4, rfl, c⟩ := dOwn_at rel2 fz2 hz
  refine ⟨_, g1, a, _, rfl, DGet.of g2 rfl, ?_⟩
  have eq : (valV ws κ).isSome = (valD kvs κ).isSome := by
    rcases g3.val (k := κ) with ⟨q1, q2⟩ | ⟨v, y', q1, q2, q3⟩
    · rw [q1, q2]; rfl
    · rw [q1, q2]
      rfl
  rw [eq]
  exact k _ ρ2 _ H2 c (.bl _) rel2 ex2
theorem q_dinN (i : Nat) (hu : X.A.units + 64 < cLine) (hb : QE X b tk) (hN : X.N[i]? = some x := by rfl) (hv : Vis X.env.scope x := by first | exact Or.inl rfl | exact Or.inr (Or.inl rfl) | exact Or.inr (Or.inr rfl)) (hd : (x == ("__debug__" : Str)) = false := by decide) (hcd : (x == ("__classdict__" : Str)) = false := by decide)
    (hm : behindInMarks .In (.Name x p) = false := by rfl) : QE X (.Compare b [.In] [.Name x p] pos) (tDinN i false tk) :=
  ⟨fun dk H0 => PE.imp (pe_cmp (pc_din (by omega) (hb.run dk H0) (pe_var hN hv hd hcd)) hm) fun σ H Q h => din_read h⟩
theorem q_dninN (i : Nat) (hu : X.A.units + 64 < cLine) (hb : QE X b tk) (hN : X.N[i]? = some x := by rfl) (hv : Vis X.env.scope x := by first | exact Or.inl rfl | exact Or.inr (Or.inl rfl) | exact Or.inr (Or.inr rfl)) (hd : (x == ("__debug__" : Str)) = false := by decide) (hcd : (x == ("__classdict__" : Str)) = false := by decide)
    (hm : behindInMarks .NotIn (.Name x p) = false := by rfl) : QE X (.Compare b [.NotIn] [.Name x p] pos) (tDinN i true tk) :=
  ⟨fun dk H0 => PE.imp (pe_cmp (pc_dnotin (by omega) (hb.run dk H0) (pe_var hN hv hd hcd)) hm) fun σ H Q h => din_read h⟩
end
/-! ### one kind is not another: len(set(x)) of a tuple of whole numbers -/
end Q
end P14
section P15
namespace Q
open PySem PySem.Spec PyProof.Rows L2 HT

/-! ### len(set(x)) of a tuple of whole numbers -/
def lenSetT : CA := fun ds R => match ds with
  | [.tuple xs] => ∃ ns : List Int, xs = ns.map .int ∧ ns.length ≤ 4000 ∧ ∀ ks : List Int, ks.Nodup → (∀ k, k ∈ ks ↔ k ∈ ns) → R (.int (ks.length : Nat))
  | _ => False
section
variable {X : Cx} {pos p : Pos} {e a b : Expr} {es : List Expr} {te ta tb : TQ} {x : Str}
theorem ints_vals : ∀ {ns : List Int} {us : List Value}, Vals (ns.map V.int) us → IntsAre us ns
  | [], _, h => by cases h; exact .nil
  | n :: ns, _, h => by
    cases h with
    | cons r t =>
      obtain ⟨k, rfl⟩ := r
      exact .cons n k (ints_vals t)
theorem pe_lenSetT {a : Expr} {ta : TE} {p p2 q pos : Pos} (hg : Gl X "len") (hm : X.mg "len" = none) (hg2 : Gl X "set") (hm2 : X.mg "set" = none) (ha : PE X a ta) (hc : X.calm = true := by rfl)
    (na : starEach [a] X.env = (false, eval a X.env) :: starEach [] X.env := by rfl) : PE X (.Call (.Name "len" p) [.Call (.Name "set" p2) [a] [] q] [] pos)
      (fun σ H Q => ta σ H fun x H1 => ∃ (l : Addr) (ns : List Int), x = .ref l ∧ SqT X.K H1 l (ns.map V.int) ∧ ns.length ≤ 4000 ∧ ∀ ks : List Int, ks.Nodup → (∀ k, k ∈ ks ↔ k ∈ ns) → Q (.int (ks.length : Nat)) H1) := by
  refine ⟨fun pins s σ H Q I h => ?_⟩
  refine Call_ (ld_blt I hg hm boot_len ?_)
  refine PyProof.Rows.callWith_builtin1 (PyProof.Rows.args_cons ?_ rfl) rfl rfl
  refine Call_ (ld_blt I hg2 hm2 PyProof.Rows.boot_set ?_)
  refine PyProof.Rows.callWith_type1 (PyProof.Rows.args_cons (thn (ha.run pins s σ H _ I h) fun v s1 ⟨x, H1, I1, r1, q1⟩ => PyProof.Rows.args_nil ?_) na) na rfl
  obtain ⟨l, ns, rfl, hq, hl, q1⟩ := q1
  cases r1
  obtain ⟨its, r, pl, hz⟩ := I1.tuple hq
  have hlen : its.toArray.size = ns.length := by rw [List.size_toArray, ← r.length, List.length_map]
  have hi : IntsAre its.toArray.toList ns := by simpa using ints_vals r
  refine call_set_tupI ns (I1.ok.hd hc) (show s1.heap.IsTuple l its.toArray from pl) hi (by unfold scanBound; omega) fun h' tk c R1 hcn k => ?_
  refine PyProof.Rows.args_nil ?_
  obtain ⟨o, es, ep, t, ho, hex, hdt, g, nd, hm2, hb, hf, hn, hr, hl2⟩ := R1
  have I2 : Inv X pins σ H1 { s1 with heap := h', toks := tk } := I1.kept fun b o e => k b o e
  have hkl : (es.toList.map keyOf).length = c := by rw [List.length_map, Array.length_toList, hn]
  have q2 := q1 (es.toList.map keyOf) nd fun j => by
    rw [← hm2 j]
    simp
  rw [hkl] at q2
  exact call_len_set ho hex hdt hf (by rw [hn]; omega) ⟨.int c, H1, I2.tok _, ⟨_, by rw [hn]⟩, q2⟩
theorem q_lenSet {p2 q : Pos} (hg : Gl X "len") (hm : X.mg "len" = none) (hg2 : Gl X "set") (hm2 : X.mg "set" = none) (ha : QE X a ta) (hc : X.calm = true := by rfl)
    (na : starEach [a] X.env = (false, eval a X.env) :: starEach [] X.env := by rfl) : QE X (.Call (.Name "len" p) [.Call (.Name "set" p2) [a] [] q] [] pos) (tCA lenSetT (dCons ta dNil)) :=
  ⟨fun dk H0 => PE.imp (pe_lenSetT hg hm hg2 hm2 (ha.run dk H0) hc na) fun σ H Q ⟨ρ, R, rel, h, k⟩ => ⟨ρ, _, rel, h, fun x ρ1 v H1 hx fz rel1 ex1 => by
    have hx : lenSetT [x] fun z => R z ρ1 := hx
    cases fz with
    | tup q t =>
      obtain ⟨ns, rfl, hl, hr⟩ := hx
      have e := t.ints
      subst e
      exact ⟨_, ns, rfl, q, hl, fun ks h1 h2 => k _ ρ1 _ _ (hr ks h1 h2) (.int _) rel1 ex1⟩
    | _ => exact hx.elim⟩⟩
/-- a whole number of the module -/
theorem q_gint {n : Int} (hg : Gl X x) (hm : ∃ z, X.mg x = some (.int n z)) (hd : (x == ("__debug__" : Str)) = false := by decide) : QE X (.Name x pos) (tK (.int n)) := by
  obtain ⟨z, e⟩ := hm
  exact q_glob (v := .int n) hg e ⟨z, rfl⟩ (fun _ => .int n) hd
def tTupRg (te : TQ) : TQ := fun ρ R => rg1 te ρ fun xs ρ1 => R (.tuple xs) ρ1
end
/-! ### what the top leaves of a def -/
structure At (K : PySem.W.Frag) (mg : Str → Option Value) (x : Str) (ps : List Str) (st : Stmt) (f : Addr) (fd : FuncData) : Prop where
  F : Fun K x x st f fd
  m : mg x = some (.ref f)
  b : Binds K fd ps []
theorem kw_of {K : PySem.W.Frag} {x qual : Str} {st : Stmt} {f : Addr} {fd : FuncData} {ps ks : List Str} {n : Nat} {ix : List Nat} (F : Fun K x qual st f fd)
    (h : ∀ (kV doc pm : Value) (an : Option Addr) (cdv ct : Value) (us ws : List Value), us.length = n → ws.length = ks.length → bindArgs (PySem.W.fnOf x qual (defArgs st) (defBody st) (defScope st) .none kV doc pm an cdv ct) ⟨us, ks.zip ws⟩ = pure (ps.zip (pick ix (us ++ ws)))) :
    KwB K fd ps ks n ix := by
  obtain ⟨oc, od, kV, doc, pm, an, cdv, ct, osl, rfl, lk, hcd⟩ := F.ex
  exact fun s us ws _ h1 h2 => .of_eq (h kV doc pm an cdv ct us ws h1 h2)
/-! ### a block in a block -/
theorem lk_rel {env : PySem.Env} : ∀ {names : List (Str × NameKind)} {x : Str}, (names.lookup x = some .cell ∨ names.lookup x = some .free) →
    ((names.map fun (n, k) => if (k == NameKind.free && env.scope.kind == .function && env.kindOf n == some .cell) then (n, NameKind.cell) else (n, k)).lookup x = some .cell ∨
     (names.map fun (n, k) => if (k == NameKind.free && env.scope.kind == .function && env.kindOf n == some .cell) then (n, NameKind.cell) else (n, k)).lookup x = some .free)
  | [], x, h => by simp at h
  | (n, k) :: r, x, h => by
    have ih := @lk_rel env r x
    show List.lookup x ((if (k == NameKind.free && env.scope.kind == .function && env.kindOf n == some .cell) = true then (n, NameKind.cell) else (n, k)) :: _) = _ ∨ List.lookup x ((if (k == NameKind.free && env.scope.kind == .function && env.kindOf n == some .cell) = true then (n, NameKind.cell) else (n, k)) :: _) = _
    rw [List.lookup_cons] at h
    split
    · rw [List.lookup_cons]
      split
      · exact .inl rfl
      · rename_i e
        rw [e] at h
        exact ih h
    · rw [List.lookup_cons]
      split
      · rename_i e
        rw [e] at h
        exact h
      · rename_i e
        rw [e] at h
        exact ih h
theorem blkIn {X : Cx} {s : Shared} {H : Hp} {C : Addr} {cl : List (Str × Addr)} {fp : List Addr} {N : List Str} {scope1 scope2 : Scope} {own : List (Str × Nat)} (h : blkC N scope1 scope2 own = true) (hN : X.N = N := by rfl) :
    BlkOk (X.blk s H scope1 (compEnvC scope1 cl C X.env) fp).N (X.blk s H scope1 (compEnvC scope1 cl C X.env) fp).env.scope scope2 own := by
  have b := blkOk_by h
  subst hN
  refine ⟨b.kind, b.uniq, b.ix, fun y hy e => ?_, b.own⟩
  exact lk_rel (b.free y hy e)
end Q
end P15
section P16
namespace Q
open PySem PySem.Spec PyProof.Rows L2 HT
/-! ### readings: comprehensions -/
inductive F2 {α β : Type} (P : α → β → Prop) : List α → List β → Prop
  | nil : F2 P [] []
  | cons {a : α} {b : β} {as : List α} {bs : List β} : P a b → F2 P as bs → F2 P (a :: as) (b :: bs)
theorem comp_rel {g : TGQ} {tt : TQB} {te : TQ} {vs : List Nat} {ρ0 : En} {R : List PyData → En → Prop} (P : PyData → Option PyData → Prop) : ∀ (ds acc : List PyData),
    (∀ x, x ∈ ds → ∀ (Rk : PyData → En → Prop) (Rf : En → Prop), (∀ y ρ4, P x (some y) → wipeQ ρ4 vs = ρ0 → Rk y ρ4) → (∀ ρ3, P x none → wipeQ ρ3 vs = ρ0 → Rf ρ3) → g x ρ0 fun ρ2 => tt ρ2 fun b ρ3 => if b = true then te ρ3 Rk else Rf ρ3) →
    (∀ outs, F2 P ds outs → R (acc ++ outs.filterMap id) ρ0) → compQ g tt te vs ds acc ρ0 R
  | [], acc, _, hR => by
    have := hR [] .nil
    simpa [compQ] using this
  | x :: ds, acc, h, hR => by
    unfold compQ
    refine h x (by simp) _ _ (fun y ρ4 hp hw => ?_) (fun ρ3 hp hw => ?_)
    · show compQ g tt te vs ds (acc ++ [y]) (wipeQ ρ4 vs) R
      rw [hw]
      refine comp_rel P ds (acc ++ [y]) (fun z hz => h z (by simp [hz])) fun outs ho => ?_
      have := hR (some y :: outs) (.cons hp ho)
      simpa using this
    · show compQ g tt te vs ds acc (wipeQ ρ3 vs) R
      rw [hw]
      refine comp_rel P ds acc (fun z hz => h z (by simp [hz])) fun outs ho => ?_
      have := hR (none :: outs) (.cons hp ho)
      simpa using this
/-- every item gives f of it -/
theorem comp_map {g : TGQ} {te : TQ} {vs : List Nat} {ρ0 : En} {R : List PyData → En → Prop} (f : PyData → PyData) {ds : List PyData}
    (h : ∀ x, x ∈ ds → ∀ Rk : PyData → En → Prop, (∀ ρ4, wipeQ ρ4 vs = ρ0 → Rk (f x) ρ4) → g x ρ0 fun ρ2 => te ρ2 Rk) (hR : R (ds.map f) ρ0) : compQ g tY te vs ds [] ρ0 R := by
  refine comp_rel (fun x o => o = some (f x)) ds [] (fun x hx Rk Rf hk _ => ?_) fun outs ho => ?_
  · simp only [tY, if_true]
    exact h x hx Rk fun ρ4 hw => hk _ ρ4 rfl hw
  · have : outs.filterMap id = ds.map f := by
      clear hR h
      induction ho with
      | nil => rfl
      | cons hp _ ih => subst hp; simp [ih]
    rw [this]
    exact hR
/-- every item gives something of which P holds -/
theorem comp_any {g : TGQ} {te : TQ} {vs : List Nat} {ρ0 : En} {R : List PyData → En → Prop} (P : PyData → PyData → Prop) {ds : List PyData}
    (h : ∀ x, x ∈ ds → ∀ Rk : PyData → En → Prop, (∀ y ρ4, P x y → wipeQ ρ4 vs = ρ0 → Rk y ρ4) → g x ρ0 fun ρ2 => te ρ2 Rk) (hR : ∀ outs, F2 P ds outs → R outs ρ0) : compQ g tY te vs ds [] ρ0 R := by
  refine comp_rel (fun x o => ∃ y, o = some y ∧ P x y) ds [] (fun x hx Rk Rf hk _ => ?_) fun outs ho => ?_
  · simp only [tY, if_true]
    exact h x hx Rk fun y ρ4 hp hw => hk y ρ4 ⟨y, rfl, hp⟩ hw
  · have : F2 P ds (outs.filterMap id) := by
      clear hR h
      induction ho with
      | nil => exact .nil
      | cons hp _ ih => obtain ⟨y, rfl, hp⟩ := hp; exact .cons hp ih
    exact hR _ this
/-- the items of which p holds, each f of it -/
theorem comp_if {g : TGQ} {tt : TQB} {te : TQ} {vs : List Nat} {ρ0 : En} {R : List PyData → En → Prop} (p : PyData → Bool) (f : PyData → PyData) {ds : List PyData}
    (h : ∀ x, x ∈ ds → ∀ (Rk : PyData → En → Prop) (Rf : En → Prop), (∀ ρ4, p x = true → wipeQ ρ4 vs = ρ0 → Rk (f x) ρ4) → (∀ ρ3, p x = false → wipeQ ρ3 vs = ρ0 → Rf ρ3) → g x ρ0 fun ρ2 => tt ρ2 fun b ρ3 => if b = true then te ρ3 Rk else Rf ρ3)
    (hR : R ((ds.filter p).map f) ρ0) : compQ g tt te vs ds [] ρ0 R := by
  refine comp_rel (fun x o => o = if p x = true then some (f x) else none) ds [] (fun x hx Rk Rf hk hf => ?_) fun outs ho => ?_
  · refine h x hx Rk Rf (fun ρ4 e hw => hk _ ρ4 (by rw [e]; rfl) hw) fun ρ3 e hw => hf ρ3 (by rw [e]; rfl) hw
  · have : outs.filterMap id = (ds.filter p).map f := by
      clear hR h
      induction ho with
      | nil => rfl
      | @cons a b as bs hp _ ih =>
        subst hp
        cases e : p a with
        | true => simp [e]; simpa using ih
        | false => simp [e]; simpa using ih
    rw [this]
    exact hR
/-- filtered, each giving something of which P holds -/
theorem comp_ifAny {g : TGQ} {tt : TQB} {te : TQ} {vs : List Nat} {ρ0 : En} {R : List PyData → En → Prop} (p : PyData → Bool) (P : PyData → PyData → Prop) {ds : List PyData}
    (h : ∀ x, x ∈ ds → ∀ (Rk : PyData → En → Prop) (Rf : En → Prop), (∀ y ρ4, p x = true → P x y → wipeQ ρ4 vs = ρ0 → Rk y ρ4) → (∀ ρ3, p x = false → wipeQ ρ3 vs = ρ0 → Rf ρ3) → g x ρ0 fun ρ2 => tt ρ2 fun b ρ3 => if b = true then te ρ3 Rk else Rf ρ3)
    (hR : ∀ outs, F2 P (ds.filter p) outs → R outs ρ0) : compQ g tt te vs ds [] ρ0 R := by
  refine comp_rel (fun x o => (p x = false ∧ o = none) ∨ (p x = true ∧ ∃ y, o = some y ∧ P x y)) ds [] (fun x hx Rk Rf hk hf => ?_) fun outs ho => ?_
  · exact h x hx Rk Rf (fun y ρ4 e hp hw => hk _ ρ4 (.inr ⟨e, y, rfl, hp⟩) hw) fun ρ3 e hw => hf ρ3 (.inl ⟨e, rfl⟩) hw
  · refine hR _ ?_
    clear hR h
    induction ho with
    | nil => exact .nil
    | @cons a b as bs hp _ ih =>
      rcases hp with ⟨e, rfl⟩ | ⟨e, y, rfl, hp⟩
      · simpa [e] using ih
      · simp only [List.filter_cons, e, if_true, List.filterMap_cons, id]
        exact .cons hp ih
theorem F2.length {α β : Type} {P : α → β → Prop} {as : List α} {bs : List β} (h : F2 P as bs) : as.length = bs.length := by
  induction h with
  | nil => rfl
  | cons _ _ ih => simp [ih]
theorem F2.imp {α β : Type} {P Q : α → β → Prop} (w : ∀ a b, P a b → Q a b) {as : List α} {bs : List β} (h : F2 P as bs) : F2 Q as bs := by
  induction h with
  | nil => exact .nil
  | cons a _ ih => exact .cons (w _ _ a) ih
/-- all things are ints of which p holds -/
theorem F2.ints {α : Type} {p : Int → Prop} {as : List α} {bs : List PyData} (h : F2 (fun _ y => ∃ i : Int, y = .int i ∧ p i) as bs) : ∃ ns : List Int, bs = ns.map .int ∧ ns.length = as.length ∧ ∀ i, i ∈ ns → p i := by
  induction h with
  | nil => exact ⟨[], rfl, rfl, by simp⟩
  | cons a _ ih =>
    obtain ⟨ns, rfl, hl, hp⟩ := ih
    obtain ⟨i, rfl, hi⟩ := a
    exact ⟨i :: ns, rfl, by simp [hl], fun j hj => by
      rcases List.mem_cons.mp hj with rfl | hj
      · exact hi
      · exact hp j hj⟩
end Q
end P16
section P17
namespace Q
open PySem PySem.Spec PyProof.Rows L2 HT
/-! ### small data: their texts are short -/
theorem len_app (a b : Str) : (a ++ b).length = a.length + b.length := by
  show (a.cps ++ b.cps).size = _
  rw [Array.size_append]; rfl
theorem ok_app {a b : Str} (h : PyData.strOk a = true) (h' : PyData.strOk b = true) : PyData.strOk (a ++ b) = true := by
  unfold PyData.strOk at h h' ⊢
  show (a.cps ++ b.cps).all _ = true
  rw [Array.all_append, h, h']; rfl
theorem join_len {sep : Str} {B : Nat} : ∀ {ts : List Str}, (∀ t, t ∈ ts → t.length ≤ B) → (sep.join ts).length ≤ ts.length * (B + sep.length)
  | [], _ => by show 0 ≤ _; omega
  | [a], h => by
    have := h a (by simp)
    show a.length ≤ _
    simp; omega
  | a :: b :: r, h => by
    have h1 := h a (by simp)
    have ih := join_len (sep := sep) (ts := b :: r) fun t ht => h t (by simp at ht ⊢; exact .inr ht)
    show (a ++ sep ++ sep.join (b :: r)).length ≤ _
    rw [len_app, len_app]
    simp only [List.length_cons] at ih ⊢
    rw [Nat.add_mul (r.length + 1) 1 _]
    omega
theorem join_ok {sep : Str} (hs : PyData.strOk sep = true) : ∀ {ts : List Str}, (∀ t, t ∈ ts → PyData.strOk t = true) → PyData.strOk (sep.join ts) = true
  | [], _ => by show PyData.strOk Str.empty = true; decide +kernel
  | [a], h => h a (by simp)
  | a :: b :: r, h => by
    have ih := join_ok hs (ts := b :: r) fun t ht => h t (by simp at ht ⊢; exact .inr ht)
    exact ok_app (ok_app (h a (by simp)) hs) ih
structure Tn (k B : Nat) (d : PyData) : Prop where
  sh : d.showable = true
  lay : d.canLay0 = true
  dp : d.depth ≤ k
  sz : d.shown.length ≤ B
  ok : PyData.strOk d.shown = true
theorem Tn.rep {k B : Nat} {d : PyData} (h : Tn k B d) (hk : k ≤ 60) (hB : B ≤ 10000000) : RepOk d := ⟨h.sh, h.lay, Nat.le_trans h.dp hk, by have := h.sz; rw [sizeLine_eq]; omega⟩
theorem Tn.shaped {k B : Nat} {d : PyData} (h : Tn k B d) (hk : k ≤ 60) : SeqAt.shaped d = true := by
  unfold SeqAt.shaped
  rw [h.lay, Bool.true_and, decide_eq_true_eq]
  have := h.dp
  omega
theorem Tn.text {k B : Nat} {d : PyData} (h : Tn k B d) : SeqAt.shaped (.str d.shown) = true := by
  unfold SeqAt.shaped
  simp [PyData.canLay0, PyData.depth, h.ok]
theorem Tn.mono {k B k' B' : Nat} {d : PyData} (h : Tn k B d) (hk : k ≤ k') (hB : B ≤ B') : Tn k' B' d := ⟨h.sh, h.lay, Nat.le_trans h.dp hk, Nat.le_trans h.sz hB, h.ok⟩
theorem tn_nat : ∀ n : Nat, n < 1000 → (Str.ofString (toString (n : Int))).length ≤ 3 ∧ PyData.strOk (Str.ofString (toString (n : Int))) = true ∧ decide (((n : Int)).natAbs.log2 < 1920) = true := by decide +kernel
theorem tn_neg : ∀ n : Nat, n < 1000 → (Str.ofString (toString (-(n : Int)))).length ≤ 4 ∧ PyData.strOk (Str.ofString (toString (-(n : Int)))) = true ∧ decide ((-(n : Int)).natAbs.log2 < 1920) = true := by decide +kernel
theorem tn_int {i : Int} (h1 : -1000 < i) (h2 : i < 1000) : Tn 0 4 (.int i) := by
  by_cases h : 0 ≤ i
  · obtain ⟨n, rfl⟩ := Int.eq_ofNat_of_zero_le h
    obtain ⟨a, b, c⟩ := tn_nat n (by omega)
    exact ⟨by simpa only [PyData.showable] using c, by simp [PyData.canLay0], by simp [PyData.depth], by rw [PyData.shown]; exact Nat.le_trans a (by decide), by rw [PyData.shown]; exact b⟩
  · obtain ⟨n, hn⟩ := Int.eq_ofNat_of_zero_le (a := -i) (by omega)
    have e : i = -(n : Int) := by omega
    subst e
    obtain ⟨a, b, c⟩ := tn_neg n (by omega)
    exact ⟨by simpa only [PyData.showable] using c, by simp [PyData.canLay0], by simp [PyData.depth], by rw [PyData.shown]; exact a, by rw [PyData.shown]; exact b⟩
theorem tn_bool {b : Bool} : Tn 0 5 (.bool b) := by
  cases b <;> exact ⟨by simp [PyData.showable], by simp [PyData.canLay0], by simp [PyData.depth], by simp only [PyData.shown]; decide +kernel, by simp only [PyData.shown]; decide +kernel⟩
theorem tn_none : Tn 0 4 .none := ⟨by simp [PyData.showable], by simp [PyData.canLay0], by simp [PyData.depth], by simp only [PyData.shown]; decide +kernel, by simp only [PyData.shown]; decide +kernel⟩
theorem shAll {xs : List PyData} : (∀ x, x ∈ xs → x.showable = true) → PyData.showableAll xs = true := by
  induction xs with
  | nil => intro; simp [PyData.showableAll]
  | cons x xs ih => intro h; simp [PyData.showableAll, h x (by simp), ih fun y hy => h y (by simp [hy])]
theorem layAll {xs : List PyData} : (∀ x, x ∈ xs → x.canLay0 = true) → PyData.canLayAll0 xs = true := by
  induction xs with
  | nil => intro; simp [PyData.canLayAll0]
  | cons x xs ih => intro h; simp [PyData.canLayAll0, h x (by simp), ih fun y hy => h y (by simp [hy])]
theorem dpAll {k : Nat} {xs : List PyData} : (∀ x, x ∈ xs → x.depth ≤ k) → PyData.depthAll xs ≤ k := by
  induction xs with
  | nil => intro; simp [PyData.depthAll]
  | cons x xs ih =>
    intro h
    rw [PyData.depthAll]
    exact Nat.max_le.mpr ⟨h x (by simp), ih fun y hy => h y (by simp [hy])⟩
theorem shownAll_eq (xs : List PyData) : PyData.shownAll xs = xs.map PyData.shown := by
  induction xs with
  | nil => simp [PyData.shownAll]
  | cons x xs ih => simp [PyData.shownAll, ih]
theorem tn_tup {k B n : Nat} {xs : List PyData} (h : ∀ x, x ∈ xs → Tn k B x) (hn : xs.length ≤ n) : Tn (k + 1) (n * (B + 2) + 3) (.tuple xs) := by
  refine ⟨by rw [PyData.showable]; exact shAll fun x hx => (h x hx).sh, by rw [PyData.canLay0]; exact layAll fun x hx => (h x hx).lay, by rw [PyData.depth]; exact Nat.succ_le_succ (dpAll fun x hx => (h x hx).dp), ?_, ?_⟩
  · rw [PyData.shown, shownAll_eq]
    unfold tupleText
    rw [len_app, len_app]
    have a := join_len (sep := Str.ofString ", ") (B := B) (ts := xs.map PyData.shown) fun t ht => by
      obtain ⟨x, hx, rfl⟩ := List.mem_map.mp ht
      exact (h x hx).sz
    rw [List.length_map] at a ⊢
    have e1 : (Str.ofString ", ").length = 2 := by decide +kernel
    have e2 : (Str.ofString "(").length = 1 := by decide +kernel
    have e3 : (Str.ofString (if (xs.length == 1) = true then ",)" else ")")).length ≤ 2 := by split <;> decide +kernel
    rw [e1] at a
    have m : xs.length * (B + 2) ≤ n * (B + 2) := Nat.mul_le_mul_right _ hn
    omega
  · rw [PyData.shown, shownAll_eq]
    unfold tupleText
    refine ok_app (ok_app (by decide +kernel) (join_ok (by decide +kernel) fun t ht => ?_)) ?_
    · obtain ⟨x, hx, rfl⟩ := List.mem_map.mp ht
      exact (h x hx).ok
    · split <;> decide +kernel
theorem tn_tup2 {k B : Nat} {x y : PyData} (hx : Tn k B x) (hy : Tn k B y) : Tn (k + 1) (2 * (B + 2) + 3) (.tuple [x, y]) := tn_tup (fun z hz => by
  rcases List.mem_cons.mp hz with rfl | hz
  · exact hx
  · rw [List.mem_singleton] at hz; subst hz; exact hy) (Nat.le_refl _)
theorem tn_ints {ns : List Int} {n : Nat} (h : ∀ i, i ∈ ns → -1000 < i ∧ i < 1000) (hn : ns.length ≤ n) : Tn 1 (n * 6 + 3) (.tuple (ns.map .int)) :=
  tn_tup (k := 0) (B := 4) (fun x hx => by obtain ⟨i, hi, rfl⟩ := List.mem_map.mp hx; exact tn_int (h i hi).1 (h i hi).2) (by rw [List.length_map]; exact hn)
/-! ### values that are equal -/
theorem eqv_int {i j : Int} : PyData.eqv (.int i) (.int j) = decide (i = j) := by simp [PyData.eqv]; rfl
theorem eqv_strs {a : Str} : PyData.eqv (.str a) (.str a) = true := by simp [PyData.eqv]
theorem sh_int {i : Int} : SeqAt.shaped (.int i) = true := by unfold SeqAt.shaped; simp [PyData.canLay0, PyData.depth]
theorem eqvAll_ints : ∀ ns : List Int, PyData.eqvAll (ns.map .int) (ns.map .int) = true
  | [] => by simp [PyData.eqvAll]
  | n :: ns => by simp [PyData.eqvAll, PyData.eqv, eqvAll_ints ns]
theorem eqv_ints {ns : List Int} : PyData.eqv (.list (ns.map .int)) (.list (ns.map .int)) = true := by rw [PyData.eqv]; exact eqvAll_ints ns
theorem eqv_tup0 {x : PyData} {xs : List PyData} : PyData.eqv (.tuple (x :: xs)) (.tuple []) = false := by simp [PyData.eqv, PyData.eqvAll]
theorem lay_ints : ∀ ns : List Int, PyData.canLayAll0 (ns.map .int) = true := fun ns => layAll fun x hx => by obtain ⟨i, _, rfl⟩ := List.mem_map.mp hx; simp [PyData.canLay0]
theorem dep_ints : ∀ ns : List Int, PyData.depthAll (ns.map .int) ≤ 0 := fun ns => dpAll fun x hx => by obtain ⟨i, _, rfl⟩ := List.mem_map.mp hx; simp [PyData.depth]
theorem sh_lstI {ns : List Int} : SeqAt.shaped (.list (ns.map .int)) = true := by
  unfold SeqAt.shaped
  rw [PyData.canLay0, PyData.depth, lay_ints, Bool.true_and, decide_eq_true_eq]
  have := dep_ints ns
  omega
theorem sh_tupI {ns : List Int} : SeqAt.shaped (.tuple (ns.map .int)) = true := by
  unfold SeqAt.shaped
  rw [PyData.canLay0, PyData.depth, lay_ints, Bool.true_and, decide_eq_true_eq]
  have := dep_ints ns
  omega
end Q
end P17
section P18
namespace Q
open PySem PySem.Spec PyProof.Rows L2 HT
section
variable {X : Cx} {pos : Pos} {tg e a b : Expr} {te ta tb : TQ} {x : Str}
/-! ### a & b -/
def bandI := cI fun i j => .int (Builtin.bitAnd i j)
theorem q_band (ha : QE X a ta) (hb : QE X b tb) : QE X (.BinOp a .BitAnd b pos) (t2 bandI ta tb) := q_op op_and (br_I0 fun _ _ _ => .int _) ha hb
theorem band1 (i : Int) : Builtin.bitAnd i 1 = i % 2 := bitAnd_m1 i
/-! ### tuple * n -/
theorem tuple_mul1 (l : Addr) (items : Array Value) (n : Nat) (dd : Option Addr) (sl : Array (Option Value)) (u : Tok) :
    Meets (Builtin.«tuple.__mul__» ⟨[.ref l, .int 1 u], []⟩) (fun _ R s => s.heap.get? l = some { cls := .type "tuple", dict := dd, data := .seq items n, slots := sl } ∧
      R (.ok (.ret (Value.ref l))) s) :=
  .of_wp fun prog w A R s h => by
    obtain ⟨hp, g, d, tk, os⟩ := s
    obtain ⟨hl, h⟩ := h
    have f1 := AutoSeq1.idx_int
    have c1 : (items.isEmpty || (1 : Int) == 1) = true := by simp
    wp_walk using wpAny_loadPart' hl
    exact ⟨_, rfl, h⟩
def rRep1 (K : PySem.W.Frag) : R2 := fun x y H Q => ∃ l xs, x = .ref l ∧ y = .int 1 ∧ SqT K H l xs ∧ Q (.ref l) H
theorem op_rep1 : OpR X (binaryOp .Mult) (rRep1 X.K) := by
  intro pins s σ H x y v u Q I rx ry h
  obtain ⟨l, xs, rfl, rfl, hT, q⟩ := h
  cases rx
  obtain ⟨t, rfl⟩ := ry
  obtain ⟨its, r, ⟨⟨cls, dd, data, sl⟩, ho, hc, n, hd⟩, hs⟩ := I.tuple hT
  simp only at hc hd
  subst hc hd
  refine wpAny_binaryOp_repeat_ref (T := "tuple") (U := "int") (by decide) ⟨_, ho, rfl⟩ (fun s' => typeIs_int s' 1 t) noFill_tuple_mul F.fills_int_mul F.slot_int_rmul repeat_tuple F.slot_int_index.lookup
    (call_meets F.slot_int_rmul (typeIs_int s 1 t) F.entry_int_rmul (F.args_int_rmul_2 _ _) (int_rmul_tuple 1 t l its.toArray n dd sl)
      ⟨ho, rfl, ⟨_, ho, rfl⟩, call_meets F.slot_tuple_mul ⟨_, ho, rfl⟩ F.entry_tuple_mul (F.args_tuple_mul_2 _ _) (tuple_mul1 l its.toArray n dd sl t) ⟨ho, ?_⟩⟩)
  exact ⟨.ref l, _, I, rfl, q⟩
def mulF : C2 := fun x y R => match x, y with
  | .int i, .int j => CMul i j ∧ R (.int (i * j))
  | .tuple xs, .int k => xs ≠ [] ∧ 1 ≤ k ∧ k ≤ 1000 ∧ xs.length ≤ 1000 ∧ R (.tuple (List.replicate k.toNat xs).flatten)
  | _, _ => False
theorem br_mulF : Br2 X.K (fun x y H Q => (∃ i j, x = .int i ∧ y = .int j ∧ CMul i j ∧ Q (.int (i * j)) H) ∨ rRepT X.K x y H Q ∨ rRep1 X.K x y H Q) mulF := by
  intro x y v u H Q R h1 h2 c k
  cases h1 with
  | int i => cases h2 <;> first | exact c.elim | exact .inl ⟨_, _, rfl, rfl, c.1, k _ _ H c.2 (.int _) (Same.refl H)⟩
  | @tup a0 xs ds q t =>
    cases h2 with
    | int n =>
      obtain ⟨c1, c2, c3, c4, c5⟩ := c
      have l1 := t.length
      by_cases h : n = 1
      · subst h
        refine .inr (.inr ⟨a0, xs, rfl, rfl, q, k _ _ H c5 ?_ (Same.refl H)⟩)
        have : (List.replicate (1 : Int).toNat ds).flatten = ds := by simp
        rw [this]
        exact .tup q t
      · refine .inr (.inl ⟨a0, n, xs, rfl, rfl, q, fun z => ?_, by omega, c3, by omega, fun p hp => ?_⟩)
        · subst z
          exact c1 (List.eq_nil_of_length_eq_zero l1.symm)
        · have sm := same_upd (H := H) (p := p) (o := .tup (List.replicate n.toNat xs).flatten) hp
          exact k _ _ _ c5 (.tup (.inl (.inl upd_same)) ((t.rep _).mono (ex_same sm))) sm
    | _ => exact c.elim
  | _ => cases h2 <;> exact c.elim
theorem q_mulF (ha : QE X a ta) (hb : QE X b tb) : QE X (.BinOp a .Mult b pos) (t2 mulF ta tb) := q_op (op_mul.or (op_repT.or op_rep1)) br_mulF ha hb
/-! ### zip of two tuples -/
def zipD (xs ys : List PyData) : List PyData := List.zipWith (fun x y => .tuple [x, y]) xs ys
theorem zipD_length (xs ys : List PyData) : (zipD xs ys).length = min xs.length ys.length := by simp [zipD]
theorem wd_zipT {K : PySem.W.Frag} {a b : Addr} {vs ws : List V} {ds es : List PyData} : WalkD K (RZ.ItzT K a b) (zipD ds es) (fun H => G2 K a vs ds H ∧ G2 K b ws es H) := by
  refine ⟨fun i H hi ⟨⟨q, f⟩, q2, f2⟩ => ?_, fun H ⟨⟨q, f⟩, q2, f2⟩ => ?_, fun i H x H' hi ⟨⟨q, f⟩, q2, f2⟩ y => ?_, fun H H' ⟨⟨q, f⟩, q2, f2⟩ ex => ⟨⟨ex.sqT q, f.mono ex⟩, ex.sqT q2, f2.mono ex⟩⟩
  · rw [zipD_length] at hi
    have l1 := f.length
    have l2 := f2.length
    exact ⟨vs, ws, vs[i]'(by omega), ws[i]'(by omega), q, q2, by simp, by simp⟩
  · refine ⟨vs, ws, q, q2, ?_⟩
    rw [zipD_length, f.length, f2.length]
    omega
  · obtain ⟨T, z, u, rfl, hT, rfl, hz, hu⟩ := y
    obtain ⟨d, hd, fd⟩ := f.get (hz vs q)
    obtain ⟨d2, hd2, fd2⟩ := f2.get (hu ws q2)
    have sm := same_upd (o := .tup [z, u]) hT
    refine ⟨.tuple [d, d2], ?_, .tup (.inl (.inl upd_same)) (.cons (fd.mono (ex_same sm)) (.cons (fd2.mono (ex_same sm)) .nil)), sm⟩
    unfold zipD
    rw [List.getElem?_zipWith, hd, hd2]
def itZ (x y : PyData) (R : List PyData → Prop) : Prop := match x, y with
  | .tuple ds, .tuple es => ds.length ≤ 1000000 ∧ R (zipD ds es)
  | _, _ => False
def iZip (ta tb : TQ) : TQL := fun ρ R => ta ρ fun x ρ1 => tb ρ1 fun y ρ2 => itZ x y fun ds => R ds ρ2
theorem qi_zip {p tpos : Pos} {elts : List Expr} {kk : Nat} (hg : Gl X "zip") (hm : X.mg "zip" = none) (ha : QE X a ta) (hb : QE X b tb)
    (hs : starEach [a, b] X.env = (false, eval a X.env) :: starEach [b] X.env := by rfl) (hs2 : starEach [b] X.env = (false, eval b X.env) :: starEach [] X.env := by rfl) (hpl : (backTo pos (starEach [b] X.env)).any (·.1) = false := by rfl) :
    QI X (.Tuple elts kk tpos) (.Call (.Name "zip" p) [a, b] [] pos) (iZip ta tb) := by
  refine ⟨fun dk H0 => PI.imp (RZ.pi_zipA hg hm (pa_cons (ha.run dk H0) (pa_cons (hb.run dk H0) pa_nil hs2) hs) hs hpl) fun σ H Q ⟨ρ, R, rel, h, k⟩ => ?_⟩
  refine ⟨ρ, _, rel, h, fun x ρ1 v H1 hx fz rel1 ex1 => ⟨ρ1, _, rel1, hx, fun y ρ2 u H2 hy fz2 rel2 ex2 => ?_⟩⟩
  have hy : itZ x y fun ds => R ds ρ2 := hy
  have fz' := fz.mono ex2
  cases fz' with
  | tup q t =>
    cases fz2 with
    | @tup b0 ws es q2 t2 =>
      refine ⟨_, b0, _, ws, rfl, .inr ⟨q, q2, ?_⟩⟩
      refine k _ ρ2 _ (fun H => G2 X.K _ _ _ H ∧ G2 X.K b0 ws es H) H2 hy.2 ?_ wd_zipT ⟨⟨q, t⟩, q2, t2⟩ rel2 (ex1.trans ex2)
      rw [zipD_length]
      have := le_line hy.1
      omega
    | _ => exact hy.elim
  | _ => cases fz2 <;> exact hy.elim
/-! ### a tuple of the module -/
theorem q_gtup {ds : List PyData} (hg : Gl X x) (hm : ∃ a, X.mg x = some (.ref a) ∧ ∀ H, Fz X.K H (.ref a) (.tuple ds)) (hd : (x == ("__debug__" : Str)) = false := by decide) : QE X (.Name x pos) (tK (.tuple ds)) := by
  obtain ⟨a, e, f⟩ := hm
  exact q_glob (v := .ref a) hg e rfl f hd
theorem q_gstr {z : Str} (hg : Gl X x) (hm : ∃ t, X.mg x = some (.str z t)) (hd : (x == ("__debug__" : Str)) = false := by decide) : QE X (.Name x pos) (tK (.str z)) := by
  obtain ⟨t, e⟩ := hm
  exact q_glob (v := .str z) hg e ⟨t, rfl⟩ (fun _ => .str z) hd
end
theorem strs_of {K : PySem.W.Frag} {H : Hp} : ∀ zs : List Str, FzAll K H (zs.map V.str) (zs.map PyData.str)
  | [] => .nil
  | z :: zs => .cons (.str z) (strs_of zs)
theorem gtup_of {K : PySem.W.Frag} {p : Addr} {od : Option Addr} {its : Array Value} {n : Nat} {sl : Array (Option Value)} {zs : List Str} (l : K.lookup p = some ⟨.type "tuple", od, .seq its n, sl⟩) (hz : its.size ≤ 1000) (r : Vals (zs.map V.str) its.toList) : ∀ H, Fz K H (.ref p) (.tuple (zs.map .str)) :=
  fun H => .tup (.inr ⟨_, its, n, l, rfl, rfl, by rw [sizeLine_eq]; omega, r⟩) (strs_of zs)
end Q
end P18
section P19
open PySem PySem.Spec PyProof.Rows L2 HT Q
namespace T43
def top (i : Nat) : Stmt := PySem.Challenge.pw_lotthrows_k43_whole_codes_in_their_row.main.body.getD i (.Pass ⟨0, 0, 0, 0⟩)
end T43
namespace T43
section
def t_is_integer : TQS := (sRet (vAnd (isD isInt (tV 0)) (vNot (isD isBool (tV 0)))))
def t_is_between (S_is_integer : PSpec) : TQS := (sRet (vAnd (tCallQ S_is_integer (aD (tV 0) aNil)) (chI (fun i j => decide (i ≤ j)) (fun i j => decide (i ≤ j)) (tV 1) (tV 0) (tV 2))))
def t_is_desk_value : TQS := (sSeq (sIf (qOr (qNot (tB (isD isTup (tV 0)))) (qNot (tB (chI (fun i j => decide (i ≤ j)) (fun i j => decide (i ≤ j)) (tK (.int 1)) (tLenN 0) (tK (.int 6)))))) (sRet (tK (.bool false))) sNil)
  (sRet (tCA allD (dCons (tFz (tLcQ (iQ (tV 0)) (gN 1) tY (vAnd (isD isStr (tV 1)) (t2 (inD false) (tV 1) (tK (.tuple [.str "tray", .str "pile"])))) [1])) dNil))))
def t_sign_of_place : TQS := (sRet (qIf (tB (t2 eqD (tV 0) (tK (.str "tray")))) (tK (.int 1)) (t1 negI (tK (.int 1)))))
def t_are_desks_value (S_is_desk_value : PSpec) : TQS := (sRet (vAnd (isD isTup (tV 0)) (vAnd (t2 leI (tLenN 0) (tK (.int 12))) (tCA allD (dCons (tFz (tLcQ (iQ (tV 0)) (gN 1) tY (tCallQ S_is_desk_value (aD (tV 1) aNil)) [1])) dNil)))))
def t_is_code_value (S_is_between : PSpec) : TQS := (sSeq (sIf (qOr (qNot (tB (isD isTup (tV 1)))) (tB (t2 neD (tLenN 1) (tLenN 0)))) (sRet (tK (.bool false))) sNil)
  (sRet (tCA allD (dCons (tFz (tLcQ (iZip (tV 0) (tV 1)) (gT 2 (gsCons (gN 2) (gsCons (gN 3) gsNil))) tY (tCallQ S_is_between (aD (tV 3) (aD (tK (.int 0)) (aD (t2 subI (tLenN 2) (tK (.int 1))) aNil)))) [2, 3])) dNil))))
def t_raw_sign (S_sign_of_place : PSpec) : TQS := (sSeq (sSet 2 (tK (.int 1)))
  (sSeq (sFor (iZip (tV 0) (tV 1)) (gT 2 (gsCons (gN 3) (gsCons (gN 4) gsNil))) (sSet 2 (t2 mulF (tV 2) (tCallQ S_sign_of_place (aD (tIxN 3 (tV 4)) aNil)))))
  (sRet (tV 2))))
def t_many_codes : TQS := (sSeq (sSet 1 (tK (.int 1)))
  (sSeq (sFor (iQ (tV 0)) (gN 2) (sSet 1 (t2 mulF (tV 1) (tLenN 2))))
  (sRet (tV 1))))
def t_raw_code_at (S_many_codes : PSpec) : TQS := (sSeq (sPar2 2 3 (pO (tLstQ dNil) (pD (tCallQ S_many_codes (aD (tV 0) aNil)) pNil)))
  (sSeq (sFor (iQ (t1 revD (tV 0))) (gN 4) (sSeq (sSet 3 (t2 fdivI (tV 3) (tLenN 4)))
  (sSeq (sPar2 5 1 (pD (t2 fdivI (tV 1) (tV 3)) (pD (t2 modI (tV 1) (tV 3)) pNil)))
  (sSeq (sIf (tB (t2 eqD (tIxN 4 (tV 5)) (tK (.str "pile")))) (sSet 1 (t2 subI (t2 subI (tV 3) (tK (.int 1))) (tV 1))) sNil)
  (sExpr (tOwnM 2 appC (dCons (tV 5) dNil)))))))
  (sRet (tCA tupD (dCons (t1 revD (tV 2)) dNil)))))
def t_raw_position : TQS := (sSeq (sAsg (tTupQ (dCons (tK (.int 0)) (dCons (tK (.int 1)) dNil))) (gT 2 (gsCons (gN 2) (gsCons (gN 3) gsNil))))
  (sSeq (sFor (iZip (tV 0) (tV 1)) (gT 2 (gsCons (gN 4) (gsCons (gN 5) gsNil))) (sSeq (sIf (tB (t2 eqD (tIxN 4 (tV 5)) (tK (.str "pile")))) (sSet 2 (t2 subI (t2 subI (tV 3) (tK (.int 1))) (tV 2))) sNil)
  (sPar2 2 3 (pD (t2 addF (t2 mulF (tV 5) (tV 3)) (tV 2)) (pD (t2 mulF (tV 3) (tLenN 4)) pNil)))))
  (sRet (tV 2))))
def t_need_desks (S_are_desks_value : PSpec) : TQS := (sIf (qNot (tB (tCallQ S_are_desks_value (aD (tV 0) aNil)))) sNever sNil)
def t_need_code (S_need_desks : PSpec) (S_is_code_value : PSpec) : TQS := (sSeq (sExpr (tCallQ S_need_desks (aD (tV 0) aNil)))
  (sIf (qNot (tB (tCallQ S_is_code_value (aD (tV 0) (aD (tV 1) aNil))))) sNever sNil))
def t_sign_of (S_need_code : PSpec) (S_raw_sign : PSpec) : TQS := (sSeq (sExpr (tCallQ S_need_code (aD (tV 0) (aD (tV 1) aNil))))
  (sRet (tCallQ S_raw_sign (aD (tV 0) (aD (tV 1) aNil)))))
def t_is_ahead (S_need_code : PSpec) (S_raw_position : PSpec) : TQS := (sSeq (sExpr (tCallQ S_need_code (aD (tV 0) (aD (tV 1) aNil))))
  (sSeq (sExpr (tCallQ S_need_code (aD (tV 0) (aD (tV 2) aNil))))
  (sRet (t2 ltI (tCallQ S_raw_position (aD (tV 0) (aD (tV 1) aNil))) (tCallQ S_raw_position (aD (tV 0) (aD (tV 2) aNil)))))))
def t_codes_number (S_need_desks : PSpec) (S_many_codes : PSpec) : TQS := (sSeq (sExpr (tCallQ S_need_desks (aD (tV 0) aNil)))
  (sRet (tCallQ S_many_codes (aD (tV 0) aNil))))
def t_code_at (S_need_desks : PSpec) (S_is_between : PSpec) (S_many_codes : PSpec) (S_raw_code_at : PSpec) : TQS := (sSeq (sExpr (tCallQ S_need_desks (aD (tV 0) aNil)))
  (sSeq (sIf (qNot (tB (tCallQ S_is_between (aD (tV 1) (aD (tK (.int 0)) (aD (t2 subI (tCallQ S_many_codes (aD (tV 0) aNil)) (tK (.int 1))) aNil)))))) sNever sNil)
  (sRet (tCallQ S_raw_code_at (aD (tV 0) (aD (tV 1) aNil))))))
def t_position_of (S_need_code : PSpec) (S_raw_position : PSpec) : TQS := (sSeq (sExpr (tCallQ S_need_code (aD (tV 0) (aD (tV 1) aNil))))
  (sRet (tCallQ S_raw_position (aD (tV 0) (aD (tV 1) aNil)))))
def t__law_pick (S__law_draw : PSpec) : TQS := (sRet (tIxN 1 (tCallQ S__law_draw (aK 0 (aD (tLenN 1) aNil)))))
def t__law_is_integer : TQS := (sRet (vAnd (isD isInt (tV 0)) (vAnd (vNot (isD isBool (tV 0))) (chI (fun i j => decide (i ≤ j)) (fun i j => decide (i ≤ j)) (tV 1) (tV 0) (tV 2)))))
def t__law_desk (S__law_draw : PSpec) : TQS := (sSeq (sPar2 2 3 (pD (t2 addF (tK (.int 1)) (tCallQ S__law_draw (aK 0 (aD (tV 1) aNil)))) (pD (tCallQ S__law_draw (aK 0 (aD (tK (.int 5)) aNil))) pNil)))
  (sSeq (sIf (tB (t2 ltI (tV 3) (tK (.int 2)))) (sRet (t2 mulF (tTupQ (dCons (t2 ixD (tTupQ (dCons (tK (.str "tray")) (dCons (tK (.str "pile")) dNil))) (tV 3)) dNil)) (tV 2))) sNil)
  (sRet (tCA tupD (dCons (tFz (tLcQ (rg1 (tV 2)) (gN 4) tY (t2 ixD (tTupQ (dCons (tK (.str "tray")) (dCons (tK (.str "pile")) dNil))) (tCallQ S__law_draw (aK 0 (aD (tK (.int 2)) aNil)))) [4])) dNil)))))
def t__law_desks (S__law_desk : PSpec) (S__law_draw : PSpec) (S__law_pick : PSpec) : TQS := (sSeq (sPar3 3 4 5 (pO (tLstQ dNil) (pD (tK (.int 1)) (pD (tCallQ S__law_desk (aK 0 (aD (tK (.int 6)) aNil))) pNil))))
  (sSeq (sSet 6 (t2 eqD (tCallQ S__law_draw (aK 0 (aD (tK (.int 3)) aNil))) (tK (.int 0))))
  (sSeq (sFor (rg1 (tCallQ S__law_draw (aK 0 (aD (t2 addF (tV 1) (tK (.int 1))) aNil)))) (gN 7) (sSeq (sSet 8 (qIf (tB (tV 6)) (tV 5) (tCallQ S__law_desk (aK 0 (aD (tCallQ S__law_pick (aK 0 (aD (tFz (tLstQ (dCons (tK (.int 2)) (dCons (tK (.int 3)) (dCons (tK (.int 2)) (dCons (tK (.int 6)) dNil)))))) aNil))) aNil)))))
  (sIf (tB (t2 leI (t2 mulF (tV 4) (tLenN 8)) (tV 2))) (sSeq (sExpr (tOwnM 3 appC (dCons (tV 8) dNil)))
  (sSet 4 (t2 mulF (tV 4) (tLenN 8)))) sNil)))
  (sRet (tCA tupD (dCons (tV 3) dNil))))))
def t__law_code (S__law_draw : PSpec) : TQS := (sRet (tCA tupD (dCons (tFz (tLcQ (iQ (tV 1)) (gN 2) tY (tCallQ S__law_draw (aK 0 (aD (tLenN 2) aNil))) [2])) dNil)))
def t__law_sign : TQS := (sSeq (sSet 2 (tCA lenD (dCons (tFz (tLcQ (iZip (tV 0) (tV 1)) (gT 2 (gsCons (gN 3) (gsCons (gN 4) gsNil))) (tB (t2 eqD (tIxN 3 (tV 4)) (tK (.str "pile")))) (tK (.int 1)) [3, 4])) dNil)))
  (sRet (qIf (tB (t2 eqD (t2 bandI (tV 2) (tK (.int 1))) (tK (.int 0)))) (tK (.int 1)) (t1 negI (tK (.int 1))))))
def t__law_position : TQS := (sSeq (sAsg (tTupQ (dCons (tK (.int 0)) (dCons (tK (.int 1)) dNil))) (gT 2 (gsCons (gN 2) (gsCons (gN 3) gsNil))))
  (sSeq (sFor (iZip (tV 0) (tV 1)) (gT 2 (gsCons (gN 4) (gsCons (gN 5) gsNil))) (sSeq (sSet 2 (t2 addF (t2 mulF (tV 5) (tV 3)) (qIf (tB (t2 eqD (tIxN 4 (tV 5)) (tK (.str "tray")))) (tV 2) (t2 subI (t2 subI (tV 3) (tK (.int 1))) (tV 2)))))
  (sSet 3 (t2 mulF (tV 3) (tLenN 4)))))
  (sRet (tV 2))))
def t__law_is_code (S__law_is_integer : PSpec) : TQS := (sSeq (sIf (qOr (qNot (tB (isD isTup (tV 1)))) (tB (t2 neD (tLenN 1) (tLenN 0)))) (sRet (tK (.bool false))) sNil)
  (sRet (t2 eqD (tFz (tLcQ (iZip (tV 0) (tV 1)) (gT 2 (gsCons (gN 2) (gsCons (gN 3) gsNil))) (qNot (tB (tCallQ S__law_is_integer (aD (tV 3) (aD (tK (.int 0)) (aD (t2 subI (tLenN 2) (tK (.int 1))) aNil)))))) (tK (.int 1)) [2, 3])) (tFz (tLstQ dNil)))))
def t__law_is_less (S__law_sign : PSpec) : TQS := (sSeq (sSetL 3 (tLcQ (rg1 (tLenN 0)) (gN 4) (tB (t2 neD (tIxN 1 (tV 4)) (tIxN 2 (tV 4)))) (tV 4) [4]))
  (sSeq (sIf (tB (t2 eqD (tV 3) (tFz (tLstQ dNil)))) (sRet (tK (.bool false))) sNil)
  (sSeq (sSet 4 (tIxN 3 (t1 negI (tK (.int 1)))))
  (sSeq (sIf (tB (t2 eqD (tCallQ S__law_sign (aD (tSlQ (tV 0) (oSome (t2 addF (tV 4) (tK (.int 1)))) oNone) (aD (tSlQ (tV 1) (oSome (t2 addF (tV 4) (tK (.int 1)))) oNone) aNil))) (tK (.int 1)))) (sRet (t2 ltI (tIxN 1 (tV 4)) (tIxN 2 (tV 4)))) sNil)
  (sRet (t2 gtI (tIxN 1 (tV 4)) (tIxN 2 (tV 4))))))))
def t__law_near (S__law_draw : PSpec) : TQS := (sSeq (sIf (tB (t2 eqD (tV 1) (tTupQ dNil))) (sRet (tV 2)) sNil)
  (sSeq (sSet 3 (tCallQ S__law_draw (aK 0 (aD (tLenN 1) aNil))))
  (sRet (t2 addF (t2 addF (tSlQ (tV 2) oNone (oSome (tV 3))) (tTupQ (dCons (tCallQ S__law_draw (aK 0 (aD (tCA lenD (dCons (tIxN 1 (tV 3)) dNil)) aNil))) dNil))) (tSlQ (tV 2) (oSome (t2 addF (tV 3) (tK (.int 1)))) oNone)))))
def t__law_are_right (S__law_is_less : PSpec) (S_is_ahead : PSpec) (S_position_of : PSpec) (S__law_position : PSpec) (S_sign_of : PSpec) (S__law_sign : PSpec) : TQS := (sSeq (sSet 3 (tTupQ (dCons (tCallQ S__law_is_less (aD (tV 0) (aD (tV 1) (aD (tV 2) aNil)))) (dCons (tCallQ S__law_is_less (aD (tV 0) (aD (tV 2) (aD (tV 1) aNil)))) dNil))))
  (sSeq (sIf (tB (t2 neD (tCA reprD (dCons (tTupQ (dCons (tCallQ S_is_ahead (aD (tV 0) (aD (tV 1) (aD (tV 2) aNil)))) (dCons (tCallKQ S_is_ahead [2, 1, 0] aNil (aD (tV 1) (aD (tV 2) (aD (tV 0) aNil)))) dNil))) dNil)) (tCA reprD (dCons (tV 3) dNil)))) (sRet (tK (.bool false))) sNil)
  (sSeq (sSet 4 (tTupQ (dCons (tCallQ S_position_of (aD (tV 0) (aD (tV 1) aNil))) (dCons (tCallKQ S_position_of [1, 0] aNil (aD (tV 2) (aD (tV 0) aNil))) dNil))))
  (sSeq (sIf (tB (t2 neD (tCA reprD (dCons (tV 4) dNil)) (tCA reprD (dCons (tTupQ (dCons (tCallQ S__law_position (aD (tV 0) (aD (tV 1) aNil))) (dCons (tCallQ S__law_position (aD (tV 0) (aD (tV 2) aNil))) dNil))) dNil)))) (sRet (tK (.bool false))) sNil)
  (sSeq (sIf (tB (t2 neD (tTupQ (dCons (t2 ltI (tIxN 4 (tK (.int 0))) (tIxN 4 (tK (.int 1)))) (dCons (t2 ltI (tIxN 4 (tK (.int 1))) (tIxN 4 (tK (.int 0)))) dNil))) (tV 3))) (sRet (tK (.bool false))) sNil)
  (sRet (t2 eqD (tCA reprD (dCons (tTupQ (dCons (tCallQ S_sign_of (aD (tV 0) (aD (tV 1) aNil))) (dCons (tCallKQ S_sign_of [1, 0] aNil (aD (tV 2) (aD (tV 0) aNil))) dNil))) dNil)) (tCA reprD (dCons (tTupQ (dCons (tCallQ S__law_sign (aD (tV 0) (aD (tV 1) aNil))) (dCons (tCallQ S__law_sign (aD (tV 0) (aD (tV 2) aNil))) dNil))) dNil)))))))))
def t_law (S__law_desks : PSpec) (S_codes_number : PSpec) (S_code_at : PSpec) (S_position_of : PSpec) (S__law_code : PSpec) (S__law_draw : PSpec) (S__law_near : PSpec) (S__law_are_right : PSpec) (S_is_ahead : PSpec) (S__law_is_code : PSpec) : TQS := (sSeq (sFor (rg1 (tK (.int 3))) (gN 2) (sSeq (sSet 3 (tCallQ S__law_desks (aK 1 (aD (tK (.int 12)) (aD (t2 powI (tK (.int 10)) (tK (.int 10))) aNil)))))
  (sSeq (sSet 4 (tCallQ S_codes_number (aD (tV 3) aNil)))
  (sSeq (sPar2 5 6 (pD (tCallQ S_code_at (aD (tV 3) (aD (tK (.int 0)) aNil))) (pD (tCallKQ S_code_at [1, 0] aNil (aD (t2 subI (tV 4) (tK (.int 1))) (aD (tV 3) aNil))) pNil)))
  (sSeq (sIf (qOr (tB (t2 neD (tCallQ S_position_of (aD (tV 3) (aD (tV 5) aNil))) (tK (.int 0)))) (tB (t2 neD (tCallQ S_position_of (aD (tV 3) (aD (tV 6) aNil))) (t2 subI (tV 4) (tK (.int 1)))))) (sRet (tK (.bool false))) sNil)
  (sFor (rg1 (tK (.int 4))) (gN 7) (sSeq (sSet 8 (tCallQ S__law_code (aK 1 (aD (tV 3) aNil))))
  (sSeq (sSet 9 (qIf (tB (t2 eqD (tCallQ S__law_draw (aK 1 (aD (tK (.int 2)) aNil))) (tK (.int 0)))) (tCallQ S__law_near (aK 1 (aD (tV 3) (aD (tV 8) aNil)))) (tCallQ S__law_code (aK 1 (aD (tV 3) aNil)))))
  (sSeq (sIf (qOr (qNot (tB (tCallQ S__law_are_right (aD (tV 3) (aD (tV 8) (aD (tV 9) aNil)))))) (qNot (tB (tCallQ S__law_are_right (aD (tV 3) (aD (tV 5) (aD (tV 8) aNil))))))) (sRet (tK (.bool false))) sNil)
  (sSeq (sIf (qOr (tB (t2 (isB true) (tCallQ S_is_ahead (aD (tV 3) (aD (tV 8) (aD (tV 5) aNil)))) (tK (.bool false)))) (tB (t2 (isB true) (tCallQ S_is_ahead (aD (tV 3) (aD (tV 6) (aD (tV 9) aNil)))) (tK (.bool false))))) (sRet (tK (.bool false))) sNil)
  (sSeq (sSet 10 (tCallQ S_position_of (aD (tV 3) (aD (tV 8) aNil))))
  (sSeq (sIf (qOr (tB (t2 neD (tCA reprD (dCons (tCallQ S_code_at (aD (tV 3) (aD (tV 10) aNil))) dNil)) (tCA reprD (dCons (tV 8) dNil)))) (tB (t2 (isB true) (tCallQ S_is_ahead (aD (tV 3) (aD (tV 8) (aD (tV 8) aNil)))) (tK (.bool false))))) (sRet (tK (.bool false))) sNil)
  (sIf (tB (t2 ltI (t2 addF (tV 10) (tK (.int 1))) (tV 4))) (sSeq (sSet 11 (tCallQ S_code_at (aD (tV 3) (aD (t2 addF (tV 10) (tK (.int 1))) aNil))))
  (sSeq (sIf (qOr (qNot (tB (tCallQ S__law_is_code (aD (tV 3) (aD (tV 11) aNil))))) (qNot (tB (tCallQ S__law_are_right (aD (tV 3) (aD (tV 8) (aD (tV 11) aNil))))))) (sRet (tK (.bool false))) sNil)
  (sIf (tB (t2 (isB true) (tCallQ S_is_ahead (aD (tV 3) (aD (tV 8) (aD (tV 11) aNil)))) (tK (.bool true)))) (sRet (tK (.bool false))) sNil))) sNil)))))))))))))
  (sRet (tK (.bool true))))
end
section
variable {P : Program} {w : World} {K : PySem.W.Frag} {mg : Str → Option Value} {base : Heap}
structure Txt (K : PySem.W.Frag) (mg : Str → Option Value) : Prop where
  b_len : mg "len" = none
  b_tuple : mg "tuple" = none
  b_range : mg "range" = none
  b_all : mg "all" = none
  b_max : mg "max" = none
  b_int : mg "int" = none
  b_isinstance : mg "isinstance" = none
  b_repr : mg "repr" = none
  b_bool : mg "bool" = none
  b_str : mg "str" = none
  b_zip : mg "zip" = none
  c_MOST_PLACES : ∃ z, mg "MOST_PLACES" = some (.int 6 z)
  c_MOST_DESKS : ∃ z, mg "MOST_DESKS" = some (.int 12 z)
  c_PLACES : ∃ a, mg "PLACES" = some (.ref a) ∧ ∀ H, Fz K H (.ref a) (.tuple [.str "tray", .str "pile"])
abbrev N_is_integer : List Str := ["thing"]
theorem sc_is_integer : FnScope N_is_integer ["thing"] (defScope (top 3)) := ⟨rfl, rfl, rfl, by decide +kernel, rfl, by decide +kernel, by decide +kernel⟩
abbrev N_is_between : List Str := ["thing", "least", "most"]
theorem sc_is_between : FnScope N_is_between ["thing", "least", "most"] (defScope (top 4)) := ⟨rfl, rfl, rfl, by decide +kernel, rfl, by decide +kernel, by decide +kernel⟩
abbrev N_is_desk_value : List Str := ["thing", "place"]
theorem sc_is_desk_value : FnScope N_is_desk_value ["thing"] (defScope (top 5)) := ⟨rfl, rfl, rfl, by decide +kernel, rfl, by decide +kernel, by decide +kernel⟩
abbrev N_sign_of_place : List Str := ["place"]
theorem sc_sign_of_place : FnScope N_sign_of_place ["place"] (defScope (top 12)) := ⟨rfl, rfl, rfl, by decide +kernel, rfl, by decide +kernel, by decide +kernel⟩
abbrev N_are_desks_value : List Str := ["thing", "desk"]
theorem sc_are_desks_value : FnScope N_are_desks_value ["thing"] (defScope (top 15)) := ⟨rfl, rfl, rfl, by decide +kernel, rfl, by decide +kernel, by decide +kernel⟩
abbrev N_is_code_value : List Str := ["desks", "thing", "desk", "place"]
theorem sc_is_code_value : FnScope N_is_code_value ["desks", "thing"] (defScope (top 16)) := ⟨rfl, rfl, rfl, by decide +kernel, rfl, by decide +kernel, by decide +kernel⟩
abbrev N_raw_sign : List Str := ["desks", "code", "found", "desk", "place"]
theorem sc_raw_sign : FnScope N_raw_sign ["desks", "code"] (defScope (top 17)) := ⟨rfl, rfl, rfl, by decide +kernel, rfl, by decide +kernel, by decide +kernel⟩
abbrev N_many_codes : List Str := ["desks", "found", "desk"]
theorem sc_many_codes : FnScope N_many_codes ["desks"] (defScope (top 18)) := ⟨rfl, rfl, rfl, by decide +kernel, rfl, by decide +kernel, by decide +kernel⟩
abbrev N_raw_code_at : List Str := ["desks", "n", "found", "size", "desk", "place"]
theorem sc_raw_code_at : FnScope N_raw_code_at ["desks", "n"] (defScope (top 19)) := ⟨rfl, rfl, rfl, by decide +kernel, rfl, by decide +kernel, by decide +kernel⟩
abbrev N_raw_position : List Str := ["desks", "code", "found", "size", "desk", "place"]
theorem sc_raw_position : FnScope N_raw_position ["desks", "code"] (defScope (top 20)) := ⟨rfl, rfl, rfl, by decide +kernel, rfl, by decide +kernel, by decide +kernel⟩
abbrev N_need_desks : List Str := ["desks"]
theorem sc_need_desks : FnScope N_need_desks ["desks"] (defScope (top 22)) := ⟨rfl, rfl, rfl, by decide +kernel, rfl, by decide +kernel, by decide +kernel⟩
abbrev N_need_code : List Str := ["desks", "code"]
theorem sc_need_code : FnScope N_need_code ["desks", "code"] (defScope (top 23)) := ⟨rfl, rfl, rfl, by decide +kernel, rfl, by decide +kernel, by decide +kernel⟩
abbrev N_sign_of : List Str := ["desks", "code"]
theorem sc_sign_of : FnScope N_sign_of ["desks", "code"] (defScope (top 24)) := ⟨rfl, rfl, rfl, by decide +kernel, rfl, by decide +kernel, by decide +kernel⟩
abbrev N_is_ahead : List Str := ["desks", "one", "other"]
theorem sc_is_ahead : FnScope N_is_ahead ["desks", "one", "other"] (defScope (top 25)) := ⟨rfl, rfl, rfl, by decide +kernel, rfl, by decide +kernel, by decide +kernel⟩
abbrev N_codes_number : List Str := ["desks"]
theorem sc_codes_number : FnScope N_codes_number ["desks"] (defScope (top 26)) := ⟨rfl, rfl, rfl, by decide +kernel, rfl, by decide +kernel, by decide +kernel⟩
abbrev N_code_at : List Str := ["desks", "n"]
theorem sc_code_at : FnScope N_code_at ["desks", "n"] (defScope (top 27)) := ⟨rfl, rfl, rfl, by decide +kernel, rfl, by decide +kernel, by decide +kernel⟩
abbrev N_position_of : List Str := ["desks", "code"]
theorem sc_position_of : FnScope N_position_of ["desks", "code"] (defScope (top 28)) := ⟨rfl, rfl, rfl, by decide +kernel, rfl, by decide +kernel, by decide +kernel⟩
abbrev N__law_deck : List Str := ["_law_script", "_law_law_number", "_law_mixed", "_law_cell"]
theorem sc__law_deck : FnScope N__law_deck ["_law_script", "_law_law_number"] (defScope (top 30)) := ⟨rfl, rfl, rfl, by decide +kernel, rfl, by decide +kernel, by decide +kernel⟩
abbrev N__law_draw : List Str := ["_law_deck_here", "_law_below", "_law_figure", "_law_cell"]
theorem sc__law_draw : FnScope N__law_draw ["_law_deck_here", "_law_below"] (defScope (top 31)) := ⟨rfl, rfl, rfl, by decide +kernel, rfl, by decide +kernel, by decide +kernel⟩
abbrev N__law_pick : List Str := ["_law_deck_here", "_law_some"]
theorem sc__law_pick : FnScope N__law_pick ["_law_deck_here", "_law_some"] (defScope (top 32)) := ⟨rfl, rfl, rfl, by decide +kernel, rfl, by decide +kernel, by decide +kernel⟩
abbrev N__law_is_integer : List Str := ["_law_thing", "_law_low", "_law_high"]
theorem sc__law_is_integer : FnScope N__law_is_integer ["_law_thing", "_law_low", "_law_high"] (defScope (top 33)) := ⟨rfl, rfl, rfl, by decide +kernel, rfl, by decide +kernel, by decide +kernel⟩
abbrev N__law_desk : List Str := ["_law_deck_here", "_law_most", "_law_many", "_law_way", "_law_go"]
theorem sc__law_desk : FnScope N__law_desk ["_law_deck_here", "_law_most"] (defScope (top 34)) := ⟨rfl, rfl, rfl, by decide +kernel, rfl, by decide +kernel, by decide +kernel⟩
abbrev N__law_desks : List Str := ["_law_deck_here", "_law_many", "_law_limit", "_law_found", "_law_codes", "_law_first", "_law_is_one", "_law_go", "_law_desk_here"]
theorem sc__law_desks : FnScope N__law_desks ["_law_deck_here", "_law_many", "_law_limit"] (defScope (top 35)) := ⟨rfl, rfl, rfl, by decide +kernel, rfl, by decide +kernel, by decide +kernel⟩
abbrev N__law_code : List Str := ["_law_deck_here", "_law_desks_here", "_law_desk_here"]
theorem sc__law_code : FnScope N__law_code ["_law_deck_here", "_law_desks_here"] (defScope (top 36)) := ⟨rfl, rfl, rfl, by decide +kernel, rfl, by decide +kernel, by decide +kernel⟩
abbrev N__law_sign : List Str := ["_law_desks_here", "_law_code_here", "_law_many", "_law_desk_here", "_law_place"]
theorem sc__law_sign : FnScope N__law_sign ["_law_desks_here", "_law_code_here"] (defScope (top 37)) := ⟨rfl, rfl, rfl, by decide +kernel, rfl, by decide +kernel, by decide +kernel⟩
abbrev N__law_position : List Str := ["_law_desks_here", "_law_code_here", "_law_found", "_law_many", "_law_desk_here", "_law_place"]
theorem sc__law_position : FnScope N__law_position ["_law_desks_here", "_law_code_here"] (defScope (top 38)) := ⟨rfl, rfl, rfl, by decide +kernel, rfl, by decide +kernel, by decide +kernel⟩
abbrev N__law_is_code : List Str := ["_law_desks_here", "_law_thing", "_law_desk_here", "_law_place"]
theorem sc__law_is_code : FnScope N__law_is_code ["_law_desks_here", "_law_thing"] (defScope (top 39)) := ⟨rfl, rfl, rfl, by decide +kernel, rfl, by decide +kernel, by decide +kernel⟩
abbrev N__law_is_less : List Str := ["_law_desks_here", "_law_one", "_law_other", "_law_spots", "_law_at"]
theorem sc__law_is_less : FnScope N__law_is_less ["_law_desks_here", "_law_one", "_law_other"] (defScope (top 40)) := ⟨rfl, rfl, rfl, by decide +kernel, rfl, by decide +kernel, by decide +kernel⟩
abbrev N__law_near : List Str := ["_law_deck_here", "_law_desks_here", "_law_code_here", "_law_at"]
theorem sc__law_near : FnScope N__law_near ["_law_deck_here", "_law_desks_here", "_law_code_here"] (defScope (top 41)) := ⟨rfl, rfl, rfl, by decide +kernel, rfl, by decide +kernel, by decide +kernel⟩
abbrev N__law_are_right : List Str := ["_law_desks_here", "_law_one", "_law_other", "_law_due", "_law_places"]
theorem sc__law_are_right : FnScope N__law_are_right ["_law_desks_here", "_law_one", "_law_other"] (defScope (top 42)) := ⟨rfl, rfl, rfl, by decide +kernel, rfl, by decide +kernel, by decide +kernel⟩
abbrev N_law : List Str := ["_law_script", "_law_deck_here", "_law_turn", "_law_desks_here", "_law_many", "_law_first", "_law_last", "_law_go", "_law_one", "_law_other", "_law_at", "_law_near_here"]
theorem sc_law : FnScope N_law ["_law_script"] (defScope (top 43)) := ⟨rfl, rfl, rfl, by decide +kernel, rfl, by decide +kernel, by decide +kernel⟩
theorem kw_is_ahead_0_other_one_desks {f : Addr} {fd : FuncData} (F : Fun K "is_ahead" "is_ahead" (top 25) f fd) : KwB K fd ["desks", "one", "other"] ["other", "one", "desks"] 0 [2, 1, 0] := kw_of F fun _ _ _ _ _ _ us ws h1 h2 => match us, ws, h1, h2 with | [], [_, _, _], _, _ => rfl
theorem kw_position_of_0_code_desks {f : Addr} {fd : FuncData} (F : Fun K "position_of" "position_of" (top 28) f fd) : KwB K fd ["desks", "code"] ["code", "desks"] 0 [1, 0] := kw_of F fun _ _ _ _ _ _ us ws h1 h2 => match us, ws, h1, h2 with | [], [_, _], _, _ => rfl
theorem kw_sign_of_0_code_desks {f : Addr} {fd : FuncData} (F : Fun K "sign_of" "sign_of" (top 24) f fd) : KwB K fd ["desks", "code"] ["code", "desks"] 0 [1, 0] := kw_of F fun _ _ _ _ _ _ us ws h1 h2 => match us, ws, h1, h2 with | [], [_, _], _, _ => rfl
theorem kw_code_at_0_n_desks {f : Addr} {fd : FuncData} (F : Fun K "code_at" "code_at" (top 27) f fd) : KwB K fd ["desks", "n"] ["n", "desks"] 0 [1, 0] := kw_of F fun _ _ _ _ _ _ us ws h1 h2 => match us, ws, h1, h2 with | [], [_, _], _, _ => rfl
theorem dv_is_integer (T : Txt K mg) {S : PSpec}
    {f : Addr} {fd : FuncData} (F : Fun K "is_integer" "is_integer" (top 3) f fd) (len : ∀ as R, S as R → as.length = 1)
    (hread : ∀ as R, S as R → (t_is_integer) { nx := fun _ => R .none, rt := R } (enOf as 0)) : FnG P w K mg base 1 f fd ["thing"] S :=
  FnG.of F sc_is_integer len (t := t_is_integer) (fun cdv A outer s H hG hr => by
    have hu := hr.units
    exact (qss_one (qs_ret (q_and (q_isi kb_int (by rfl) (by rfl) T.b_isinstance (by rfl) T.b_int (qv 0)) (q_one (q_not (q_isi kb_bool (by rfl) (by rfl) T.b_isinstance (by rfl) T.b_bool (qv 0)))))))) hread
theorem dv_is_between (T : Txt K mg)
    {f_is_integer : Addr} {fd_is_integer : FuncData} {S_is_integer : PSpec} (A_is_integer : At K mg "is_integer" ["thing"] (top 3) f_is_integer fd_is_integer) (G_is_integer : FnG P w K mg base 1 f_is_integer fd_is_integer ["thing"] S_is_integer) {S : PSpec}
    {f : Addr} {fd : FuncData} (F : Fun K "is_between" "is_between" (top 4) f fd) (len : ∀ as R, S as R → as.length = 3)
    (hread : ∀ as R, S as R → (t_is_between S_is_integer) { nx := fun _ => R .none, rt := R } (enOf as 0)) : FnG P w K mg base 2 f fd ["thing", "least", "most"] S :=
  FnG.of F sc_is_between len (t := t_is_between S_is_integer) (fun cdv A outer s H hG hr => by
    have hu := hr.units
    exact (qss_one (qs_ret (q_and (q_call G_is_integer hG (hr.mono (by decide)) (by rfl) A_is_integer.m A_is_integer.F.kp A_is_integer.b (qa_d (qv 0) qa_nil)) (q_one (q_chain op_le op_le (qv 1) (qv 0) (qv 2))))))) hread
theorem dv_is_desk_value (T : Txt K mg) {S : PSpec}
    {f : Addr} {fd : FuncData} (F : Fun K "is_desk_value" "is_desk_value" (top 5) f fd) (len : ∀ as R, S as R → as.length = 1)
    (hread : ∀ as R, S as R → (t_is_desk_value) { nx := fun _ => R .none, rt := R } (enOf as 1)) : FnG P w K mg base 1 f fd ["thing"] S :=
  FnG.of F sc_is_desk_value len (t := t_is_desk_value) (fun cdv A outer s H hG hr => by
    have hu := hr.units
    exact (qss_cons (qs_if (QW.qt (qw_or (qt_not (q_tst (q_isi kb_tup (by rfl) (by rfl) T.b_isinstance (by rfl) T.b_tuple (qv 0)))) (qw_or1 (qt_not (q_tchain op_le op_le q_int (q_lenN 0 (by rfl) T.b_len) (q_gint (by rfl) T.c_MOST_PLACES)))))) (qss_one (qs_ret q_bl)) qss_nil)
      (qss_one (qs_ret (q_all rfl (by rfl) T.b_all (q_frz (ql_lc (own := [("place", 1)]) rfl sc_is_desk_value.nd (qi_e (qv 0)) (blkOk_by (own := [("place", 1)]) (N := N_is_desk_value) (sc := defScope (top 5)) (by decide +kernel)) (fun _ _ _ _ _ => (qg_name 1 sc_is_desk_value.nd)) (by decide) (fun _ _ _ _ _ => qts_nil) (fun _ _ _ _ _ => (q_and (q_isi kb_str (by rfl) (by rfl) T.b_isinstance (by rfl) T.b_str (qv 1)) (q_one (q_in (qv 1) (q_gtup (by rfl) T.c_PLACES)))))))))))) hread
theorem dv_sign_of_place (T : Txt K mg) {S : PSpec}
    {f : Addr} {fd : FuncData} (F : Fun K "sign_of_place" "sign_of_place" (top 12) f fd) (len : ∀ as R, S as R → as.length = 1)
    (hread : ∀ as R, S as R → (t_sign_of_place) { nx := fun _ => R .none, rt := R } (enOf as 0)) : FnG P w K mg base 1 f fd ["place"] S :=
  FnG.of F sc_sign_of_place len (t := t_sign_of_place) (fun cdv A outer s H hG hr => by
    have hu := hr.units
    exact (qss_one (qs_ret (q_ifExp (q_teq hu (qv 0) q_str) q_int (q_neg q_int))))) hread
theorem dv_are_desks_value (T : Txt K mg)
    {f_is_desk_value : Addr} {fd_is_desk_value : FuncData} {S_is_desk_value : PSpec} (A_is_desk_value : At K mg "is_desk_value" ["thing"] (top 5) f_is_desk_value fd_is_desk_value) (G_is_desk_value : FnG P w K mg base 1 f_is_desk_value fd_is_desk_value ["thing"] S_is_desk_value) {S : PSpec}
    {f : Addr} {fd : FuncData} (F : Fun K "are_desks_value" "are_desks_value" (top 15) f fd) (len : ∀ as R, S as R → as.length = 1)
    (hread : ∀ as R, S as R → (t_are_desks_value S_is_desk_value) { nx := fun _ => R .none, rt := R } (enOf as 1)) : FnG P w K mg base 2 f fd ["thing"] S :=
  FnG.of F sc_are_desks_value len (t := t_are_desks_value S_is_desk_value) (fun cdv A outer s H hG hr => by
    have hu := hr.units
    exact (qss_one (qs_ret (q_and (q_isi kb_tup (by rfl) (by rfl) T.b_isinstance (by rfl) T.b_tuple (qv 0)) (q_and (q_le (q_lenN 0 (by rfl) T.b_len) (q_gint (by rfl) T.c_MOST_DESKS)) (q_one (q_all rfl (by rfl) T.b_all (q_frz (ql_lc (own := [("desk", 1)]) rfl sc_are_desks_value.nd (qi_e (qv 0)) (blkOk_by (own := [("desk", 1)]) (N := N_are_desks_value) (sc := defScope (top 15)) (by decide +kernel)) (fun _ _ _ _ _ => (qg_name 1 sc_are_desks_value.nd)) (by decide) (fun _ _ _ _ _ => qts_nil) (fun _ _ _ _ _ => (q_call G_is_desk_value hG (hr.mono (by decide)) (by rfl) A_is_desk_value.m A_is_desk_value.F.kp A_is_desk_value.b (qa_d (qv 1) qa_nil)))))))))))) hread
theorem dv_is_code_value (T : Txt K mg)
    {f_is_between : Addr} {fd_is_between : FuncData} {S_is_between : PSpec} (A_is_between : At K mg "is_between" ["thing", "least", "most"] (top 4) f_is_between fd_is_between) (G_is_between : FnG P w K mg base 2 f_is_between fd_is_between ["thing", "least", "most"] S_is_between) {S : PSpec}
    {f : Addr} {fd : FuncData} (F : Fun K "is_code_value" "is_code_value" (top 16) f fd) (len : ∀ as R, S as R → as.length = 2)
    (hread : ∀ as R, S as R → (t_is_code_value S_is_between) { nx := fun _ => R .none, rt := R } (enOf as 2)) : FnG P w K mg base 3 f fd ["desks", "thing"] S :=
  FnG.of F sc_is_code_value len (t := t_is_code_value S_is_between) (fun cdv A outer s H hG hr => by
    have hu := hr.units
    exact (qss_cons (qs_if (QW.qt (qw_or (qt_not (q_tst (q_isi kb_tup (by rfl) (by rfl) T.b_isinstance (by rfl) T.b_tuple (qv 1)))) (qw_or1 (q_tne hu (q_lenN 1 (by rfl) T.b_len) (q_lenN 0 (by rfl) T.b_len))))) (qss_one (qs_ret q_bl)) qss_nil)
      (qss_one (qs_ret (q_all rfl (by rfl) T.b_all (q_frz (ql_lc (own := [("desk", 2), ("place", 3)]) rfl sc_is_code_value.nd (qi_zip (by rfl) T.b_zip (qv 0) (qv 1)) (blkOk_by (own := [("desk", 2), ("place", 3)]) (N := N_is_code_value) (sc := defScope (top 16)) (by decide +kernel)) (fun _ _ _ _ _ => (qg_tup rfl (qgs_cons (qg_name 2 sc_is_code_value.nd) (qgs_cons (qg_name 3 sc_is_code_value.nd) qgs_nil)))) (by decide) (fun _ _ _ _ _ => qts_nil) (fun _ _ _ _ _ => (q_call G_is_between hG (hr.mono (by decide)) (by rfl) A_is_between.m A_is_between.F.kp A_is_between.b (qa_d (qv 3) (qa_d q_int (qa_d (q_sub (q_lenN 2 (by rfl) T.b_len) q_int) qa_nil)))))))))))) hread
theorem dv_raw_sign (T : Txt K mg)
    {f_sign_of_place : Addr} {fd_sign_of_place : FuncData} {S_sign_of_place : PSpec} (A_sign_of_place : At K mg "sign_of_place" ["place"] (top 12) f_sign_of_place fd_sign_of_place) (G_sign_of_place : FnG P w K mg base 1 f_sign_of_place fd_sign_of_place ["place"] S_sign_of_place) {S : PSpec}
    {f : Addr} {fd : FuncData} (F : Fun K "raw_sign" "raw_sign" (top 17) f fd) (len : ∀ as R, S as R → as.length = 2)
    (hread : ∀ as R, S as R → (t_raw_sign S_sign_of_place) { nx := fun _ => R .none, rt := R } (enOf as 3)) : FnG P w K mg base 2 f fd ["desks", "code"] S :=
  FnG.of F sc_raw_sign len (t := t_raw_sign S_sign_of_place) (fun cdv A outer s H hG hr => by
    have hu := hr.units
    exact (qss_cons (qs_set 2 sc_raw_sign.nd q_int)
      (qss_cons (qs_for PassesOwn.never rfl (qi_zip (by rfl) T.b_zip (qv 0) (qv 1)) (qg_tup rfl (qgs_cons (qg_name 3 sc_raw_sign.nd) (qgs_cons (qg_name 4 sc_raw_sign.nd) qgs_nil))) (qss_one (qs_set 2 sc_raw_sign.nd (q_mulF (qv 2) (q_call G_sign_of_place hG (hr.mono (by decide)) (by rfl) A_sign_of_place.m A_sign_of_place.F.kp A_sign_of_place.b (qa_d (q_ixN 3 (qv 4)) qa_nil))))))
      (qss_one (qs_ret (qv 2)))))) hread
theorem dv_many_codes (T : Txt K mg) {S : PSpec}
    {f : Addr} {fd : FuncData} (F : Fun K "many_codes" "many_codes" (top 18) f fd) (len : ∀ as R, S as R → as.length = 1)
    (hread : ∀ as R, S as R → (t_many_codes) { nx := fun _ => R .none, rt := R } (enOf as 2)) : FnG P w K mg base 1 f fd ["desks"] S :=
  FnG.of F sc_many_codes len (t := t_many_codes) (fun cdv A outer s H hG hr => by
    have hu := hr.units
    exact (qss_cons (qs_set 1 sc_many_codes.nd q_int)
      (qss_cons (qs_for PassesOwn.never rfl (qi_e (qv 0)) (qg_name 2 sc_many_codes.nd) (qss_one (qs_set 1 sc_many_codes.nd (q_mulF (qv 1) (q_lenN 2 (by rfl) T.b_len)))))
      (qss_one (qs_ret (qv 1)))))) hread
theorem dv_raw_code_at (T : Txt K mg)
    {f_many_codes : Addr} {fd_many_codes : FuncData} {S_many_codes : PSpec} (A_many_codes : At K mg "many_codes" ["desks"] (top 18) f_many_codes fd_many_codes) (G_many_codes : FnG P w K mg base 1 f_many_codes fd_many_codes ["desks"] S_many_codes) {S : PSpec}
    {f : Addr} {fd : FuncData} (F : Fun K "raw_code_at" "raw_code_at" (top 19) f fd) (len : ∀ as R, S as R → as.length = 2)
    (hread : ∀ as R, S as R → (t_raw_code_at S_many_codes) { nx := fun _ => R .none, rt := R } (enOf as 4)) : FnG P w K mg base 2 f fd ["desks", "n"] S :=
  FnG.of F sc_raw_code_at len (t := t_raw_code_at S_many_codes) (fun cdv A outer s H hG hr => by
    have hu := hr.units
    exact (qss_cons (qs_par2 2 3 rfl sc_raw_code_at.nd (qp_o (ql_lst qd_nil) (qp_d (q_call G_many_codes hG (hr.mono (by decide)) (by rfl) A_many_codes.m A_many_codes.F.kp A_many_codes.b (qa_d (qv 0) qa_nil)) qp_nil)))
      (qss_cons (qs_for PassesOwn.never rfl (qi_e (q_rev (qv 0))) (qg_name 4 sc_raw_code_at.nd) (qss_cons (qs_set 3 sc_raw_code_at.nd (q_fdiv (qv 3) (q_lenN 4 (by rfl) T.b_len)))
      (qss_cons (qs_par2 5 1 rfl sc_raw_code_at.nd (qp_d (q_fdiv (qv 1) (qv 3)) (qp_d (q_mod (qv 1) (qv 3)) qp_nil)))
      (qss_cons (qs_if (q_teq hu (q_ixN 4 (qv 5)) q_str) (qss_one (qs_set 1 sc_raw_code_at.nd (q_sub (q_sub (qv 3) q_int) (qv 1)))) qss_nil)
      (qss_one (qs_expr (q_append 2 (qv 5))))))))
      (qss_one (qs_ret (q_tuple (by rfl) T.b_tuple (q_rev (qv 2)))))))) hread
theorem dv_raw_position (T : Txt K mg) {S : PSpec}
    {f : Addr} {fd : FuncData} (F : Fun K "raw_position" "raw_position" (top 20) f fd) (len : ∀ as R, S as R → as.length = 2)
    (hread : ∀ as R, S as R → (t_raw_position) { nx := fun _ => R .none, rt := R } (enOf as 4)) : FnG P w K mg base 1 f fd ["desks", "code"] S :=
  FnG.of F sc_raw_position len (t := t_raw_position) (fun cdv A outer s H hG hr => by
    have hu := hr.units
    exact (qss_cons (qs_asg (q_tup (qd_cons q_int (qd_cons q_int qd_nil))) (qg_tup rfl (qgs_cons (qg_name 2 sc_raw_position.nd) (qgs_cons (qg_name 3 sc_raw_position.nd) qgs_nil))))
      (qss_cons (qs_for PassesOwn.never rfl (qi_zip (by rfl) T.b_zip (qv 0) (qv 1)) (qg_tup rfl (qgs_cons (qg_name 4 sc_raw_position.nd) (qgs_cons (qg_name 5 sc_raw_position.nd) qgs_nil))) (qss_cons (qs_if (q_teq hu (q_ixN 4 (qv 5)) q_str) (qss_one (qs_set 2 sc_raw_position.nd (q_sub (q_sub (qv 3) q_int) (qv 2)))) qss_nil)
      (qss_one (qs_par2 2 3 rfl sc_raw_position.nd (qp_d (q_addF (q_mulF (qv 5) (qv 3)) (qv 2)) (qp_d (q_mulF (qv 3) (q_lenN 4 (by rfl) T.b_len)) qp_nil))))))
      (qss_one (qs_ret (qv 2)))))) hread
theorem dv_need_desks (T : Txt K mg)
    {f_are_desks_value : Addr} {fd_are_desks_value : FuncData} {S_are_desks_value : PSpec} (A_are_desks_value : At K mg "are_desks_value" ["thing"] (top 15) f_are_desks_value fd_are_desks_value) (G_are_desks_value : FnG P w K mg base 2 f_are_desks_value fd_are_desks_value ["thing"] S_are_desks_value) {S : PSpec}
    {f : Addr} {fd : FuncData} (F : Fun K "need_desks" "need_desks" (top 22) f fd) (len : ∀ as R, S as R → as.length = 1)
    (hread : ∀ as R, S as R → (t_need_desks S_are_desks_value) { nx := fun _ => R .none, rt := R } (enOf as 0)) : FnG P w K mg base 3 f fd ["desks"] S :=
  FnG.of F sc_need_desks len (t := t_need_desks S_are_desks_value) (fun cdv A outer s H hG hr => by
    have hu := hr.units
    exact (qss_one (qs_if (qt_not (q_tst (q_call G_are_desks_value hG (hr.mono (by decide)) (by rfl) A_are_desks_value.m A_are_desks_value.F.kp A_are_desks_value.b (qa_d (qv 0) qa_nil)))) (qss_one qs_never) qss_nil))) hread
theorem dv_need_code (T : Txt K mg)
    {f_need_desks : Addr} {fd_need_desks : FuncData} {S_need_desks : PSpec} (A_need_desks : At K mg "need_desks" ["desks"] (top 22) f_need_desks fd_need_desks) (G_need_desks : FnG P w K mg base 3 f_need_desks fd_need_desks ["desks"] S_need_desks)
    {f_is_code_value : Addr} {fd_is_code_value : FuncData} {S_is_code_value : PSpec} (A_is_code_value : At K mg "is_code_value" ["desks", "thing"] (top 16) f_is_code_value fd_is_code_value) (G_is_code_value : FnG P w K mg base 3 f_is_code_value fd_is_code_value ["desks", "thing"] S_is_code_value) {S : PSpec}
    {f : Addr} {fd : FuncData} (F : Fun K "need_code" "need_code" (top 23) f fd) (len : ∀ as R, S as R → as.length = 2)
    (hread : ∀ as R, S as R → (t_need_code S_need_desks S_is_code_value) { nx := fun _ => R .none, rt := R } (enOf as 0)) : FnG P w K mg base 4 f fd ["desks", "code"] S :=
  FnG.of F sc_need_code len (t := t_need_code S_need_desks S_is_code_value) (fun cdv A outer s H hG hr => by
    have hu := hr.units
    exact (qss_cons (qs_expr (q_call G_need_desks hG (hr.mono (by decide)) (by rfl) A_need_desks.m A_need_desks.F.kp A_need_desks.b (qa_d (qv 0) qa_nil)))
      (qss_one (qs_if (qt_not (q_tst (q_call G_is_code_value hG (hr.mono (by decide)) (by rfl) A_is_code_value.m A_is_code_value.F.kp A_is_code_value.b (qa_d (qv 0) (qa_d (qv 1) qa_nil))))) (qss_one qs_never) qss_nil)))) hread
theorem dv_sign_of (T : Txt K mg)
    {f_need_code : Addr} {fd_need_code : FuncData} {S_need_code : PSpec} (A_need_code : At K mg "need_code" ["desks", "code"] (top 23) f_need_code fd_need_code) (G_need_code : FnG P w K mg base 4 f_need_code fd_need_code ["desks", "code"] S_need_code)
    {f_raw_sign : Addr} {fd_raw_sign : FuncData} {S_raw_sign : PSpec} (A_raw_sign : At K mg "raw_sign" ["desks", "code"] (top 17) f_raw_sign fd_raw_sign) (G_raw_sign : FnG P w K mg base 2 f_raw_sign fd_raw_sign ["desks", "code"] S_raw_sign) {S : PSpec}
    {f : Addr} {fd : FuncData} (F : Fun K "sign_of" "sign_of" (top 24) f fd) (len : ∀ as R, S as R → as.length = 2)
    (hread : ∀ as R, S as R → (t_sign_of S_need_code S_raw_sign) { nx := fun _ => R .none, rt := R } (enOf as 0)) : FnG P w K mg base 5 f fd ["desks", "code"] S :=
  FnG.of F sc_sign_of len (t := t_sign_of S_need_code S_raw_sign) (fun cdv A outer s H hG hr => by
    have hu := hr.units
    exact (qss_cons (qs_expr (q_call G_need_code hG (hr.mono (by decide)) (by rfl) A_need_code.m A_need_code.F.kp A_need_code.b (qa_d (qv 0) (qa_d (qv 1) qa_nil))))
      (qss_one (qs_ret (q_call G_raw_sign hG (hr.mono (by decide)) (by rfl) A_raw_sign.m A_raw_sign.F.kp A_raw_sign.b (qa_d (qv 0) (qa_d (qv 1) qa_nil))))))) hread
theorem dv_is_ahead (T : Txt K mg)
    {f_need_code : Addr} {fd_need_code : FuncData} {S_need_code : PSpec} (A_need_code : At K mg "need_code" ["desks", "code"] (top 23) f_need_code fd_need_code) (G_need_code : FnG P w K mg base 4 f_need_code fd_need_code ["desks", "code"] S_need_code)
    {f_raw_position : Addr} {fd_raw_position : FuncData} {S_raw_position : PSpec} (A_raw_position : At K mg "raw_position" ["desks", "code"] (top 20) f_raw_position fd_raw_position) (G_raw_position : FnG P w K mg base 1 f_raw_position fd_raw_position ["desks", "code"] S_raw_position) {S : PSpec}
    {f : Addr} {fd : FuncData} (F : Fun K "is_ahead" "is_ahead" (top 25) f fd) (len : ∀ as R, S as R → as.length = 3)
    (hread : ∀ as R, S as R → (t_is_ahead S_need_code S_raw_position) { nx := fun _ => R .none, rt := R } (enOf as 0)) : FnG P w K mg base 5 f fd ["desks", "one", "other"] S :=
  FnG.of F sc_is_ahead len (t := t_is_ahead S_need_code S_raw_position) (fun cdv A outer s H hG hr => by
    have hu := hr.units
    exact (qss_cons (qs_expr (q_call G_need_code hG (hr.mono (by decide)) (by rfl) A_need_code.m A_need_code.F.kp A_need_code.b (qa_d (qv 0) (qa_d (qv 1) qa_nil))))
      (qss_cons (qs_expr (q_call G_need_code hG (hr.mono (by decide)) (by rfl) A_need_code.m A_need_code.F.kp A_need_code.b (qa_d (qv 0) (qa_d (qv 2) qa_nil))))
      (qss_one (qs_ret (q_lt (q_call G_raw_position hG (hr.mono (by decide)) (by rfl) A_raw_position.m A_raw_position.F.kp A_raw_position.b (qa_d (qv 0) (qa_d (qv 1) qa_nil))) (q_call G_raw_position hG (hr.mono (by decide)) (by rfl) A_raw_position.m A_raw_position.F.kp A_raw_position.b (qa_d (qv 0) (qa_d (qv 2) qa_nil))))))))) hread
theorem dv_codes_number (T : Txt K mg)
    {f_need_desks : Addr} {fd_need_desks : FuncData} {S_need_desks : PSpec} (A_need_desks : At K mg "need_desks" ["desks"] (top 22) f_need_desks fd_need_desks) (G_need_desks : FnG P w K mg base 3 f_need_desks fd_need_desks ["desks"] S_need_desks)
    {f_many_codes : Addr} {fd_many_codes : FuncData} {S_many_codes : PSpec} (A_many_codes : At K mg "many_codes" ["desks"] (top 18) f_many_codes fd_many_codes) (G_many_codes : FnG P w K mg base 1 f_many_codes fd_many_codes ["desks"] S_many_codes) {S : PSpec}
    {f : Addr} {fd : FuncData} (F : Fun K "codes_number" "codes_number" (top 26) f fd) (len : ∀ as R, S as R → as.length = 1)
    (hread : ∀ as R, S as R → (t_codes_number S_need_desks S_many_codes) { nx := fun _ => R .none, rt := R } (enOf as 0)) : FnG P w K mg base 4 f fd ["desks"] S :=
  FnG.of F sc_codes_number len (t := t_codes_number S_need_desks S_many_codes) (fun cdv A outer s H hG hr => by
    have hu := hr.units
    exact (qss_cons (qs_expr (q_call G_need_desks hG (hr.mono (by decide)) (by rfl) A_need_desks.m A_need_desks.F.kp A_need_desks.b (qa_d (qv 0) qa_nil)))
      (qss_one (qs_ret (q_call G_many_codes hG (hr.mono (by decide)) (by rfl) A_many_codes.m A_many_codes.F.kp A_many_codes.b (qa_d (qv 0) qa_nil)))))) hread
theorem dv_code_at (T : Txt K mg)
    {f_need_desks : Addr} {fd_need_desks : FuncData} {S_need_desks : PSpec} (A_need_desks : At K mg "need_desks" ["desks"] (top 22) f_need_desks fd_need_desks) (G_need_desks : FnG P w K mg base 3 f_need_desks fd_need_desks ["desks"] S_need_desks)
    {f_is_between : Addr} {fd_is_between : FuncData} {S_is_between : PSpec} (A_is_between : At K mg "is_between" ["thing", "least", "most"] (top 4) f_is_between fd_is_between) (G_is_between : FnG P w K mg base 2 f_is_between fd_is_between ["thing", "least", "most"] S_is_between)
    {f_many_codes : Addr} {fd_many_codes : FuncData} {S_many_codes : PSpec} (A_many_codes : At K mg "many_codes" ["desks"] (top 18) f_many_codes fd_many_codes) (G_many_codes : FnG P w K mg base 1 f_many_codes fd_many_codes ["desks"] S_many_codes)
    {f_raw_code_at : Addr} {fd_raw_code_at : FuncData} {S_raw_code_at : PSpec} (A_raw_code_at : At K mg "raw_code_at" ["desks", "n"] (top 19) f_raw_code_at fd_raw_code_at) (G_raw_code_at : FnG P w K mg base 2 f_raw_code_at fd_raw_code_at ["desks", "n"] S_raw_code_at) {S : PSpec}
    {f : Addr} {fd : FuncData} (F : Fun K "code_at" "code_at" (top 27) f fd) (len : ∀ as R, S as R → as.length = 2)
    (hread : ∀ as R, S as R → (t_code_at S_need_desks S_is_between S_many_codes S_raw_code_at) { nx := fun _ => R .none, rt := R } (enOf as 0)) : FnG P w K mg base 4 f fd ["desks", "n"] S :=
  FnG.of F sc_code_at len (t := t_code_at S_need_desks S_is_between S_many_codes S_raw_code_at) (fun cdv A outer s H hG hr => by
    have hu := hr.units
    exact (qss_cons (qs_expr (q_call G_need_desks hG (hr.mono (by decide)) (by rfl) A_need_desks.m A_need_desks.F.kp A_need_desks.b (qa_d (qv 0) qa_nil)))
      (qss_cons (qs_if (qt_not (q_tst (q_call G_is_between hG (hr.mono (by decide)) (by rfl) A_is_between.m A_is_between.F.kp A_is_between.b (qa_d (qv 1) (qa_d q_int (qa_d (q_sub (q_call G_many_codes hG (hr.mono (by decide)) (by rfl) A_many_codes.m A_many_codes.F.kp A_many_codes.b (qa_d (qv 0) qa_nil)) q_int) qa_nil)))))) (qss_one qs_never) qss_nil)
      (qss_one (qs_ret (q_call G_raw_code_at hG (hr.mono (by decide)) (by rfl) A_raw_code_at.m A_raw_code_at.F.kp A_raw_code_at.b (qa_d (qv 0) (qa_d (qv 1) qa_nil)))))))) hread
theorem dv_position_of (T : Txt K mg)
    {f_need_code : Addr} {fd_need_code : FuncData} {S_need_code : PSpec} (A_need_code : At K mg "need_code" ["desks", "code"] (top 23) f_need_code fd_need_code) (G_need_code : FnG P w K mg base 4 f_need_code fd_need_code ["desks", "code"] S_need_code)
    {f_raw_position : Addr} {fd_raw_position : FuncData} {S_raw_position : PSpec} (A_raw_position : At K mg "raw_position" ["desks", "code"] (top 20) f_raw_position fd_raw_position) (G_raw_position : FnG P w K mg base 1 f_raw_position fd_raw_position ["desks", "code"] S_raw_position) {S : PSpec}
    {f : Addr} {fd : FuncData} (F : Fun K "position_of" "position_of" (top 28) f fd) (len : ∀ as R, S as R → as.length = 2)
    (hread : ∀ as R, S as R → (t_position_of S_need_code S_raw_position) { nx := fun _ => R .none, rt := R } (enOf as 0)) : FnG P w K mg base 5 f fd ["desks", "code"] S :=
  FnG.of F sc_position_of len (t := t_position_of S_need_code S_raw_position) (fun cdv A outer s H hG hr => by
    have hu := hr.units
    exact (qss_cons (qs_expr (q_call G_need_code hG (hr.mono (by decide)) (by rfl) A_need_code.m A_need_code.F.kp A_need_code.b (qa_d (qv 0) (qa_d (qv 1) qa_nil))))
      (qss_one (qs_ret (q_call G_raw_position hG (hr.mono (by decide)) (by rfl) A_raw_position.m A_raw_position.F.kp A_raw_position.b (qa_d (qv 0) (qa_d (qv 1) qa_nil))))))) hread
theorem dv__law_pick (T : Txt K mg)
    {f__law_draw : Addr} {fd__law_draw : FuncData} {S__law_draw : PSpec} (A__law_draw : At K mg "_law_draw" ["_law_deck_here", "_law_below"] (top 31) f__law_draw fd__law_draw) (G__law_draw : FnG P w K mg base 1 f__law_draw fd__law_draw ["_law_deck_here", "_law_below"] S__law_draw) {S : PSpec}
    {f : Addr} {fd : FuncData} (F : Fun K "_law_pick" "_law_pick" (top 32) f fd) (len : ∀ as R, S as R → as.length = 2)
    (hread : ∀ as R, S as R → (t__law_pick S__law_draw) { nx := fun _ => R .none, rt := R } (enOf as 0)) : FnG P w K mg base 2 f fd ["_law_deck_here", "_law_some"] S :=
  FnG.of F sc__law_pick len (t := t__law_pick S__law_draw) (fun cdv A outer s H hG hr => by
    have hu := hr.units
    exact (qss_one (qs_ret (q_ixN 1 (q_call G__law_draw hG (hr.mono (by decide)) (by rfl) A__law_draw.m A__law_draw.F.kp A__law_draw.b (qa_k 0 (qa_d (q_lenN 1 (by rfl) T.b_len) qa_nil))))))) hread
theorem dv__law_is_integer (T : Txt K mg) {S : PSpec}
    {f : Addr} {fd : FuncData} (F : Fun K "_law_is_integer" "_law_is_integer" (top 33) f fd) (len : ∀ as R, S as R → as.length = 3)
    (hread : ∀ as R, S as R → (t__law_is_integer) { nx := fun _ => R .none, rt := R } (enOf as 0)) : FnG P w K mg base 1 f fd ["_law_thing", "_law_low", "_law_high"] S :=
  FnG.of F sc__law_is_integer len (t := t__law_is_integer) (fun cdv A outer s H hG hr => by
    have hu := hr.units
    exact (qss_one (qs_ret (q_and (q_isi kb_int (by rfl) (by rfl) T.b_isinstance (by rfl) T.b_int (qv 0)) (q_and (q_not (q_isi kb_bool (by rfl) (by rfl) T.b_isinstance (by rfl) T.b_bool (qv 0))) (q_one (q_chain op_le op_le (qv 1) (qv 0) (qv 2)))))))) hread
theorem dv__law_desk (T : Txt K mg)
    {f__law_draw : Addr} {fd__law_draw : FuncData} {S__law_draw : PSpec} (A__law_draw : At K mg "_law_draw" ["_law_deck_here", "_law_below"] (top 31) f__law_draw fd__law_draw) (G__law_draw : FnG P w K mg base 1 f__law_draw fd__law_draw ["_law_deck_here", "_law_below"] S__law_draw) {S : PSpec}
    {f : Addr} {fd : FuncData} (F : Fun K "_law_desk" "_law_desk" (top 34) f fd) (len : ∀ as R, S as R → as.length = 2)
    (hread : ∀ as R, S as R → (t__law_desk S__law_draw) { nx := fun _ => R .none, rt := R } (enOf as 3)) : FnG P w K mg base 2 f fd ["_law_deck_here", "_law_most"] S :=
  FnG.of F sc__law_desk len (t := t__law_desk S__law_draw) (fun cdv A outer s H hG hr => by
    have hu := hr.units
    exact (qss_cons (qs_par2 2 3 rfl sc__law_desk.nd (qp_d (q_addF q_int (q_call G__law_draw hG (hr.mono (by decide)) (by rfl) A__law_draw.m A__law_draw.F.kp A__law_draw.b (qa_k 0 (qa_d (qv 1) qa_nil)))) (qp_d (q_call G__law_draw hG (hr.mono (by decide)) (by rfl) A__law_draw.m A__law_draw.F.kp A__law_draw.b (qa_k 0 (qa_d q_int qa_nil))) qp_nil)))
      (qss_cons (qs_if (q_tlt (qv 3) q_int) (qss_one (qs_ret (q_mulF (q_tup (qd_cons (q_ix (q_tup (qd_cons q_str (qd_cons q_str qd_nil))) (qv 3)) qd_nil)) (qv 2)))) qss_nil)
      (qss_one (qs_ret (q_tuple (by rfl) T.b_tuple (q_frz (ql_lc (own := [("_law_go", 4)]) rfl sc__law_desk.nd (qi_range1 (by rfl) T.b_range (qv 2)) (blkOk_by (own := [("_law_go", 4)]) (N := N__law_desk) (sc := defScope (top 34)) (by decide +kernel)) (fun _ _ _ _ _ => (qg_name 4 sc__law_desk.nd)) (by decide) (fun _ _ _ _ _ => qts_nil) (fun _ _ _ _ _ => (q_ix (q_tup (qd_cons q_str (qd_cons q_str qd_nil))) (q_call G__law_draw hG (hr.mono (by decide)) (by rfl) A__law_draw.m A__law_draw.F.kp A__law_draw.b (qa_k 0 (qa_d q_int qa_nil))))))))))))) hread
theorem dv__law_desks (T : Txt K mg)
    {f__law_desk : Addr} {fd__law_desk : FuncData} {S__law_desk : PSpec} (A__law_desk : At K mg "_law_desk" ["_law_deck_here", "_law_most"] (top 34) f__law_desk fd__law_desk) (G__law_desk : FnG P w K mg base 2 f__law_desk fd__law_desk ["_law_deck_here", "_law_most"] S__law_desk)
    {f__law_draw : Addr} {fd__law_draw : FuncData} {S__law_draw : PSpec} (A__law_draw : At K mg "_law_draw" ["_law_deck_here", "_law_below"] (top 31) f__law_draw fd__law_draw) (G__law_draw : FnG P w K mg base 1 f__law_draw fd__law_draw ["_law_deck_here", "_law_below"] S__law_draw)
    {f__law_pick : Addr} {fd__law_pick : FuncData} {S__law_pick : PSpec} (A__law_pick : At K mg "_law_pick" ["_law_deck_here", "_law_some"] (top 32) f__law_pick fd__law_pick) (G__law_pick : FnG P w K mg base 2 f__law_pick fd__law_pick ["_law_deck_here", "_law_some"] S__law_pick) {S : PSpec}
    {f : Addr} {fd : FuncData} (F : Fun K "_law_desks" "_law_desks" (top 35) f fd) (len : ∀ as R, S as R → as.length = 3)
    (hread : ∀ as R, S as R → (t__law_desks S__law_desk S__law_draw S__law_pick) { nx := fun _ => R .none, rt := R } (enOf as 6)) : FnG P w K mg base 3 f fd ["_law_deck_here", "_law_many", "_law_limit"] S :=
  FnG.of F sc__law_desks len (t := t__law_desks S__law_desk S__law_draw S__law_pick) (fun cdv A outer s H hG hr => by
    have hu := hr.units
    exact (qss_cons (qs_par3 3 4 5 rfl sc__law_desks.nd (qp_o (ql_lst qd_nil) (qp_d q_int (qp_d (q_call G__law_desk hG (hr.mono (by decide)) (by rfl) A__law_desk.m A__law_desk.F.kp A__law_desk.b (qa_k 0 (qa_d q_int qa_nil))) qp_nil))))
      (qss_cons (qs_set 6 sc__law_desks.nd (q_eq hu (q_call G__law_draw hG (hr.mono (by decide)) (by rfl) A__law_draw.m A__law_draw.F.kp A__law_draw.b (qa_k 0 (qa_d q_int qa_nil))) q_int))
      (qss_cons (qs_for PassesOwn.never rfl (qi_range1 (by rfl) T.b_range (q_call G__law_draw hG (hr.mono (by decide)) (by rfl) A__law_draw.m A__law_draw.F.kp A__law_draw.b (qa_k 0 (qa_d (q_addF (qv 1) q_int) qa_nil)))) (qg_name 7 sc__law_desks.nd) (qss_cons (qs_set 8 sc__law_desks.nd (q_ifExp (q_tst (qv 6)) (qv 5) (q_call G__law_desk hG (hr.mono (by decide)) (by rfl) A__law_desk.m A__law_desk.F.kp A__law_desk.b (qa_k 0 (qa_d (q_call G__law_pick hG (hr.mono (by decide)) (by rfl) A__law_pick.m A__law_pick.F.kp A__law_pick.b (qa_k 0 (qa_d (q_frz (ql_lst (qd_cons q_int (qd_cons q_int (qd_cons q_int (qd_cons q_int qd_nil)))))) qa_nil))) qa_nil)))))
      (qss_one (qs_if (q_tle (q_mulF (qv 4) (q_lenN 8 (by rfl) T.b_len)) (qv 2)) (qss_cons (qs_expr (q_append 3 (qv 8)))
      (qss_one (qs_set 4 sc__law_desks.nd (q_mulF (qv 4) (q_lenN 8 (by rfl) T.b_len))))) qss_nil))))
      (qss_one (qs_ret (q_tuple (by rfl) T.b_tuple (qv 3)))))))) hread
theorem dv__law_code (T : Txt K mg)
    {f__law_draw : Addr} {fd__law_draw : FuncData} {S__law_draw : PSpec} (A__law_draw : At K mg "_law_draw" ["_law_deck_here", "_law_below"] (top 31) f__law_draw fd__law_draw) (G__law_draw : FnG P w K mg base 1 f__law_draw fd__law_draw ["_law_deck_here", "_law_below"] S__law_draw) {S : PSpec}
    {f : Addr} {fd : FuncData} (F : Fun K "_law_code" "_law_code" (top 36) f fd) (len : ∀ as R, S as R → as.length = 2)
    (hread : ∀ as R, S as R → (t__law_code S__law_draw) { nx := fun _ => R .none, rt := R } (enOf as 1)) : FnG P w K mg base 2 f fd ["_law_deck_here", "_law_desks_here"] S :=
  FnG.of F sc__law_code len (t := t__law_code S__law_draw) (fun cdv A outer s H hG hr => by
    have hu := hr.units
    exact (qss_one (qs_ret (q_tuple (by rfl) T.b_tuple (q_frz (ql_lc (own := [("_law_desk_here", 2)]) rfl sc__law_code.nd (qi_e (qv 1)) (blkOk_by (own := [("_law_desk_here", 2)]) (N := N__law_code) (sc := defScope (top 36)) (by decide +kernel)) (fun _ _ _ _ _ => (qg_name 2 sc__law_code.nd)) (by decide) (fun _ _ _ _ _ => qts_nil) (fun _ _ _ _ _ => (q_call G__law_draw hG (hr.mono (by decide)) (by rfl) A__law_draw.m A__law_draw.F.kp A__law_draw.b (qa_k 0 (qa_d (q_lenN 2 (by rfl) T.b_len) qa_nil)))))))))) hread
theorem dv__law_sign (T : Txt K mg) {S : PSpec}
    {f : Addr} {fd : FuncData} (F : Fun K "_law_sign" "_law_sign" (top 37) f fd) (len : ∀ as R, S as R → as.length = 2)
    (hread : ∀ as R, S as R → (t__law_sign) { nx := fun _ => R .none, rt := R } (enOf as 3)) : FnG P w K mg base 1 f fd ["_law_desks_here", "_law_code_here"] S :=
  FnG.of F sc__law_sign len (t := t__law_sign) (fun cdv A outer s H hG hr => by
    have hu := hr.units
    exact (qss_cons (qs_set 2 sc__law_sign.nd (q_len (by rfl) T.b_len (q_frz (ql_lc (own := [("_law_desk_here", 3), ("_law_place", 4)]) rfl sc__law_sign.nd (qi_zip (by rfl) T.b_zip (qv 0) (qv 1)) (blkOk_by (own := [("_law_desk_here", 3), ("_law_place", 4)]) (N := N__law_sign) (sc := defScope (top 37)) (by decide +kernel)) (fun _ _ _ _ _ => (qg_tup rfl (qgs_cons (qg_name 3 sc__law_sign.nd) (qgs_cons (qg_name 4 sc__law_sign.nd) qgs_nil)))) (by decide) (fun _ _ _ _ _ => (qts_one (q_teq hu (q_ixN 3 (qv 4)) q_str))) (fun _ _ _ _ _ => q_int)))))
      (qss_one (qs_ret (q_ifExp (q_teq hu (q_band (qv 2) q_int) q_int) q_int (q_neg q_int)))))) hread
theorem dv__law_position (T : Txt K mg) {S : PSpec}
    {f : Addr} {fd : FuncData} (F : Fun K "_law_position" "_law_position" (top 38) f fd) (len : ∀ as R, S as R → as.length = 2)
    (hread : ∀ as R, S as R → (t__law_position) { nx := fun _ => R .none, rt := R } (enOf as 4)) : FnG P w K mg base 1 f fd ["_law_desks_here", "_law_code_here"] S :=
  FnG.of F sc__law_position len (t := t__law_position) (fun cdv A outer s H hG hr => by
    have hu := hr.units
    exact (qss_cons (qs_asg (q_tup (qd_cons q_int (qd_cons q_int qd_nil))) (qg_tup rfl (qgs_cons (qg_name 2 sc__law_position.nd) (qgs_cons (qg_name 3 sc__law_position.nd) qgs_nil))))
      (qss_cons (qs_for PassesOwn.never rfl (qi_zip (by rfl) T.b_zip (qv 0) (qv 1)) (qg_tup rfl (qgs_cons (qg_name 4 sc__law_position.nd) (qgs_cons (qg_name 5 sc__law_position.nd) qgs_nil))) (qss_cons (qs_set 2 sc__law_position.nd (q_addF (q_mulF (qv 5) (qv 3)) (q_ifExp (q_teq hu (q_ixN 4 (qv 5)) q_str) (qv 2) (q_sub (q_sub (qv 3) q_int) (qv 2)))))
      (qss_one (qs_set 3 sc__law_position.nd (q_mulF (qv 3) (q_lenN 4 (by rfl) T.b_len))))))
      (qss_one (qs_ret (qv 2)))))) hread
theorem dv__law_is_code (T : Txt K mg)
    {f__law_is_integer : Addr} {fd__law_is_integer : FuncData} {S__law_is_integer : PSpec} (A__law_is_integer : At K mg "_law_is_integer" ["_law_thing", "_law_low", "_law_high"] (top 33) f__law_is_integer fd__law_is_integer) (G__law_is_integer : FnG P w K mg base 1 f__law_is_integer fd__law_is_integer ["_law_thing", "_law_low", "_law_high"] S__law_is_integer) {S : PSpec}
    {f : Addr} {fd : FuncData} (F : Fun K "_law_is_code" "_law_is_code" (top 39) f fd) (len : ∀ as R, S as R → as.length = 2)
    (hread : ∀ as R, S as R → (t__law_is_code S__law_is_integer) { nx := fun _ => R .none, rt := R } (enOf as 2)) : FnG P w K mg base 2 f fd ["_law_desks_here", "_law_thing"] S :=
  FnG.of F sc__law_is_code len (t := t__law_is_code S__law_is_integer) (fun cdv A outer s H hG hr => by
    have hu := hr.units
    exact (qss_cons (qs_if (QW.qt (qw_or (qt_not (q_tst (q_isi kb_tup (by rfl) (by rfl) T.b_isinstance (by rfl) T.b_tuple (qv 1)))) (qw_or1 (q_tne hu (q_lenN 1 (by rfl) T.b_len) (q_lenN 0 (by rfl) T.b_len))))) (qss_one (qs_ret q_bl)) qss_nil)
      (qss_one (qs_ret (q_eq hu (q_frz (ql_lc (own := [("_law_desk_here", 2), ("_law_place", 3)]) rfl sc__law_is_code.nd (qi_zip (by rfl) T.b_zip (qv 0) (qv 1)) (blkOk_by (own := [("_law_desk_here", 2), ("_law_place", 3)]) (N := N__law_is_code) (sc := defScope (top 39)) (by decide +kernel)) (fun _ _ _ _ _ => (qg_tup rfl (qgs_cons (qg_name 2 sc__law_is_code.nd) (qgs_cons (qg_name 3 sc__law_is_code.nd) qgs_nil)))) (by decide) (fun _ _ _ _ _ => (qts_one (qt_not (q_tst (q_call G__law_is_integer hG (hr.mono (by decide)) (by rfl) A__law_is_integer.m A__law_is_integer.F.kp A__law_is_integer.b (qa_d (qv 3) (qa_d q_int (qa_d (q_sub (q_lenN 2 (by rfl) T.b_len) q_int) qa_nil)))))))) (fun _ _ _ _ _ => q_int))) (q_frz (ql_lst qd_nil))))))) hread
theorem dv__law_is_less (T : Txt K mg)
    {f__law_sign : Addr} {fd__law_sign : FuncData} {S__law_sign : PSpec} (A__law_sign : At K mg "_law_sign" ["_law_desks_here", "_law_code_here"] (top 37) f__law_sign fd__law_sign) (G__law_sign : FnG P w K mg base 1 f__law_sign fd__law_sign ["_law_desks_here", "_law_code_here"] S__law_sign) {S : PSpec}
    {f : Addr} {fd : FuncData} (F : Fun K "_law_is_less" "_law_is_less" (top 40) f fd) (len : ∀ as R, S as R → as.length = 3)
    (hread : ∀ as R, S as R → (t__law_is_less S__law_sign) { nx := fun _ => R .none, rt := R } (enOf as 2)) : FnG P w K mg base 2 f fd ["_law_desks_here", "_law_one", "_law_other"] S :=
  FnG.of F sc__law_is_less len (t := t__law_is_less S__law_sign) (fun cdv A outer s H hG hr => by
    have hu := hr.units
    exact (qss_cons (qs_setLc 3 (own := [("_law_at", 4)]) rfl sc__law_is_less.nd rfl (sw_true rfl rfl rfl (by decide +kernel)) (qi_range1 (by rfl) T.b_range (q_lenN 0 (by rfl) T.b_len)) (blkOk_by (own := [("_law_at", 4)]) (N := N__law_is_less) (sc := defScope (top 40)) (by decide +kernel)) (fun _ _ _ _ _ => (qg_name 4 sc__law_is_less.nd)) (by decide) (fun _ _ _ _ _ => (qts_one (q_tne hu (q_ixN 1 (qv 4)) (q_ixN 2 (qv 4))))) (fun _ _ _ _ _ => (qv 4)))
      (qss_cons (qs_if (q_teq hu (qv 3) (q_frz (ql_lst qd_nil))) (qss_one (qs_ret q_bl)) qss_nil)
      (qss_cons (qs_set 4 sc__law_is_less.nd (q_ixN 3 (q_neg q_int)))
      (qss_cons (qs_if (q_teq hu (q_call G__law_sign hG (hr.mono (by decide)) (by rfl) A__law_sign.m A__law_sign.F.kp A__law_sign.b (qa_d (q_slice (qv 0) (qo_some (q_addF (qv 4) q_int)) qo_none) (qa_d (q_slice (qv 1) (qo_some (q_addF (qv 4) q_int)) qo_none) qa_nil))) q_int) (qss_one (qs_ret (q_lt (q_ixN 1 (qv 4)) (q_ixN 2 (qv 4))))) qss_nil)
      (qss_one (qs_ret (q_gt (q_ixN 1 (qv 4)) (q_ixN 2 (qv 4)))))))))) hread
theorem dv__law_near (T : Txt K mg)
    {f__law_draw : Addr} {fd__law_draw : FuncData} {S__law_draw : PSpec} (A__law_draw : At K mg "_law_draw" ["_law_deck_here", "_law_below"] (top 31) f__law_draw fd__law_draw) (G__law_draw : FnG P w K mg base 1 f__law_draw fd__law_draw ["_law_deck_here", "_law_below"] S__law_draw) {S : PSpec}
    {f : Addr} {fd : FuncData} (F : Fun K "_law_near" "_law_near" (top 41) f fd) (len : ∀ as R, S as R → as.length = 3)
    (hread : ∀ as R, S as R → (t__law_near S__law_draw) { nx := fun _ => R .none, rt := R } (enOf as 1)) : FnG P w K mg base 2 f fd ["_law_deck_here", "_law_desks_here", "_law_code_here"] S :=
  FnG.of F sc__law_near len (t := t__law_near S__law_draw) (fun cdv A outer s H hG hr => by
    have hu := hr.units
    exact (qss_cons (qs_if (q_teq hu (qv 1) (q_tup qd_nil)) (qss_one (qs_ret (qv 2))) qss_nil)
      (qss_cons (qs_set 3 sc__law_near.nd (q_call G__law_draw hG (hr.mono (by decide)) (by rfl) A__law_draw.m A__law_draw.F.kp A__law_draw.b (qa_k 0 (qa_d (q_lenN 1 (by rfl) T.b_len) qa_nil))))
      (qss_one (qs_ret (q_addF (q_addF (q_slice (qv 2) qo_none (qo_some (qv 3))) (q_tup (qd_cons (q_call G__law_draw hG (hr.mono (by decide)) (by rfl) A__law_draw.m A__law_draw.F.kp A__law_draw.b (qa_k 0 (qa_d (q_len (by rfl) T.b_len (q_ixN 1 (qv 3))) qa_nil))) qd_nil))) (q_slice (qv 2) (qo_some (q_addF (qv 3) q_int)) qo_none))))))) hread
theorem dv__law_are_right (T : Txt K mg)
    {f__law_is_less : Addr} {fd__law_is_less : FuncData} {S__law_is_less : PSpec} (A__law_is_less : At K mg "_law_is_less" ["_law_desks_here", "_law_one", "_law_other"] (top 40) f__law_is_less fd__law_is_less) (G__law_is_less : FnG P w K mg base 2 f__law_is_less fd__law_is_less ["_law_desks_here", "_law_one", "_law_other"] S__law_is_less)
    {f_is_ahead : Addr} {fd_is_ahead : FuncData} {S_is_ahead : PSpec} (A_is_ahead : At K mg "is_ahead" ["desks", "one", "other"] (top 25) f_is_ahead fd_is_ahead) (G_is_ahead : FnG P w K mg base 5 f_is_ahead fd_is_ahead ["desks", "one", "other"] S_is_ahead)
    {f_position_of : Addr} {fd_position_of : FuncData} {S_position_of : PSpec} (A_position_of : At K mg "position_of" ["desks", "code"] (top 28) f_position_of fd_position_of) (G_position_of : FnG P w K mg base 5 f_position_of fd_position_of ["desks", "code"] S_position_of)
    {f__law_position : Addr} {fd__law_position : FuncData} {S__law_position : PSpec} (A__law_position : At K mg "_law_position" ["_law_desks_here", "_law_code_here"] (top 38) f__law_position fd__law_position) (G__law_position : FnG P w K mg base 1 f__law_position fd__law_position ["_law_desks_here", "_law_code_here"] S__law_position)
    {f_sign_of : Addr} {fd_sign_of : FuncData} {S_sign_of : PSpec} (A_sign_of : At K mg "sign_of" ["desks", "code"] (top 24) f_sign_of fd_sign_of) (G_sign_of : FnG P w K mg base 5 f_sign_of fd_sign_of ["desks", "code"] S_sign_of)
    {f__law_sign : Addr} {fd__law_sign : FuncData} {S__law_sign : PSpec} (A__law_sign : At K mg "_law_sign" ["_law_desks_here", "_law_code_here"] (top 37) f__law_sign fd__law_sign) (G__law_sign : FnG P w K mg base 1 f__law_sign fd__law_sign ["_law_desks_here", "_law_code_here"] S__law_sign) {S : PSpec}
    {f : Addr} {fd : FuncData} (F : Fun K "_law_are_right" "_law_are_right" (top 42) f fd) (len : ∀ as R, S as R → as.length = 3)
    (hread : ∀ as R, S as R → (t__law_are_right S__law_is_less S_is_ahead S_position_of S__law_position S_sign_of S__law_sign) { nx := fun _ => R .none, rt := R } (enOf as 2)) : FnG P w K mg base 6 f fd ["_law_desks_here", "_law_one", "_law_other"] S :=
  FnG.of F sc__law_are_right len (t := t__law_are_right S__law_is_less S_is_ahead S_position_of S__law_position S_sign_of S__law_sign) (fun cdv A outer s H hG hr => by
    have hu := hr.units
    exact (qss_cons (qs_set 3 sc__law_are_right.nd (q_tup (qd_cons (q_call G__law_is_less hG (hr.mono (by decide)) (by rfl) A__law_is_less.m A__law_is_less.F.kp A__law_is_less.b (qa_d (qv 0) (qa_d (qv 1) (qa_d (qv 2) qa_nil)))) (qd_cons (q_call G__law_is_less hG (hr.mono (by decide)) (by rfl) A__law_is_less.m A__law_is_less.F.kp A__law_is_less.b (qa_d (qv 0) (qa_d (qv 2) (qa_d (qv 1) qa_nil)))) qd_nil))))
      (qss_cons (qs_if (q_tne hu (q_repr hG hu (by rfl) T.b_repr (q_tup (qd_cons (q_call G_is_ahead hG (hr.mono (by decide)) (by rfl) A_is_ahead.m A_is_ahead.F.kp A_is_ahead.b (qa_d (qv 0) (qa_d (qv 1) (qa_d (qv 2) qa_nil)))) (qd_cons (q_callK0 G_is_ahead hG (hr.mono (by decide)) (by rfl) A_is_ahead.m A_is_ahead.F.kp (kw_is_ahead_0_other_one_desks A_is_ahead.F) (qk_d (qv 1) (qk_d (qv 2) (qk_d (qv 0) qk_nil)))) qd_nil)))) (q_repr hG hu (by rfl) T.b_repr (qv 3))) (qss_one (qs_ret q_bl)) qss_nil)
      (qss_cons (qs_set 4 sc__law_are_right.nd (q_tup (qd_cons (q_call G_position_of hG (hr.mono (by decide)) (by rfl) A_position_of.m A_position_of.F.kp A_position_of.b (qa_d (qv 0) (qa_d (qv 1) qa_nil))) (qd_cons (q_callK0 G_position_of hG (hr.mono (by decide)) (by rfl) A_position_of.m A_position_of.F.kp (kw_position_of_0_code_desks A_position_of.F) (qk_d (qv 2) (qk_d (qv 0) qk_nil))) qd_nil))))
      (qss_cons (qs_if (q_tne hu (q_repr hG hu (by rfl) T.b_repr (qv 4)) (q_repr hG hu (by rfl) T.b_repr (q_tup (qd_cons (q_call G__law_position hG (hr.mono (by decide)) (by rfl) A__law_position.m A__law_position.F.kp A__law_position.b (qa_d (qv 0) (qa_d (qv 1) qa_nil))) (qd_cons (q_call G__law_position hG (hr.mono (by decide)) (by rfl) A__law_position.m A__law_position.F.kp A__law_position.b (qa_d (qv 0) (qa_d (qv 2) qa_nil))) qd_nil))))) (qss_one (qs_ret q_bl)) qss_nil)
      (qss_cons (qs_if (q_tne hu (q_tup (qd_cons (q_lt (q_ixN 4 q_int) (q_ixN 4 q_int)) (qd_cons (q_lt (q_ixN 4 q_int) (q_ixN 4 q_int)) qd_nil))) (qv 3)) (qss_one (qs_ret q_bl)) qss_nil)
      (qss_one (qs_ret (q_eq hu (q_repr hG hu (by rfl) T.b_repr (q_tup (qd_cons (q_call G_sign_of hG (hr.mono (by decide)) (by rfl) A_sign_of.m A_sign_of.F.kp A_sign_of.b (qa_d (qv 0) (qa_d (qv 1) qa_nil))) (qd_cons (q_callK0 G_sign_of hG (hr.mono (by decide)) (by rfl) A_sign_of.m A_sign_of.F.kp (kw_sign_of_0_code_desks A_sign_of.F) (qk_d (qv 2) (qk_d (qv 0) qk_nil))) qd_nil)))) (q_repr hG hu (by rfl) T.b_repr (q_tup (qd_cons (q_call G__law_sign hG (hr.mono (by decide)) (by rfl) A__law_sign.m A__law_sign.F.kp A__law_sign.b (qa_d (qv 0) (qa_d (qv 1) qa_nil))) (qd_cons (q_call G__law_sign hG (hr.mono (by decide)) (by rfl) A__law_sign.m A__law_sign.F.kp A__law_sign.b (qa_d (qv 0) (qa_d (qv 2) qa_nil))) qd_nil))))))))))))) hread
end
end T43
end P19
section P20
namespace Q
open PySem PySem.Spec PyProof.Rows L2 HT
/-! ### the deck of draws -/
def kv (c : Addr) (m n : Int) : List (Key × V) := [(.inr "cells", .ref c), (.inr "mixed", .int m), (.inr "turn", .int n)]
theorem kcm : ¬ ((Sum.inr (Str.ofString "cells") : Key) = Sum.inr (Str.ofString "mixed")) := by decide +kernel
theorem kcd : ¬ ((Sum.inr (Str.ofString "cells") : Key) = Sum.inr (Str.ofString "turn")) := by decide +kernel
theorem kmd : ¬ ((Sum.inr (Str.ofString "mixed") : Key) = Sum.inr (Str.ofString "turn")) := by decide +kernel
theorem scm : ¬ (Str.ofString "cells" = Str.ofString "mixed") := by decide +kernel
theorem scd : ¬ (Str.ofString "cells" = Str.ofString "turn") := by decide +kernel
theorem smd : ¬ (Str.ofString "mixed" = Str.ofString "turn") := by decide +kernel
theorem get_cells {c : Addr} {m n : Int} : valV (kv c m n) (Sum.inr (Str.ofString "cells")) = some (.ref c) := valV_pos rfl
theorem get_mixed {c : Addr} {m n : Int} : valV (kv c m n) (Sum.inr (Str.ofString "mixed")) = some (.int m) := by
  unfold kv
  rw [valV_neg kcm, valV_pos rfl]
theorem get_draws {c : Addr} {m n : Int} : valV (kv c m n) (Sum.inr (Str.ofString "turn")) = some (.int n) := by
  unfold kv
  rw [valV_neg kcd, valV_neg kmd, valV_pos rfl]
theorem put_draws {c : Addr} {m n k : Int} : putK (kv c m n) (Sum.inr (Str.ofString "turn")) (.int k) = kv c m k := by
  unfold kv putK
  have h : (List.any [((Sum.inr (Str.ofString "cells") : Key), V.ref c), (.inr "mixed", .int m), (.inr "turn", .int n)] fun kv => decide (kv.1 = Sum.inr (Str.ofString "turn"))) = true := by
    simp [List.any_cons]
  rw [if_pos h]
  simp only [List.map_cons, List.map_nil, if_neg kcd, if_neg kmd, if_true]
theorem dg_cells {H : Hp} {d c : Addr} {m n : Int} (h : H d = some (.dK (kv c m n))) : DGet H d (.str "cells") (some (.ref c)) := by
  have := DGet.k (k := Sum.inr (Str.ofString "cells")) h
  rw [get_cells] at this
  exact this
theorem dg_mixed {H : Hp} {d c : Addr} {m n : Int} (h : H d = some (.dK (kv c m n))) : DGet H d (.str "mixed") (some (.int m)) := by
  have := DGet.k (k := Sum.inr (Str.ofString "mixed")) h
  rw [get_mixed] at this
  exact this
theorem dg_draws {H : Hp} {d c : Addr} {m n : Int} (h : H d = some (.dK (kv c m n))) : DGet H d (.str "turn") (some (.int n)) := by
  have := DGet.k (k := Sum.inr (Str.ofString "turn")) h
  rw [get_draws] at this
  exact this
theorem dp_ints {K : PySem.W.Frag} {H : Hp} : ∀ ns : List Int, DpAll K H (ns.map .int) (ns.map .int)
  | [] => .nil
  | n :: ns => .cons (.int n) (dp_ints ns)
theorem lay_i0 : ∀ ns : List Int, PyData.canLayAll0 (ns.map .int) = true
  | [] => by simp [PyData.canLayAll0]
  | n :: ns => by simp [PyData.canLayAll0, PyData.canLay0, lay_i0 ns]
theorem dep_i0 : ∀ ns : List Int, PyData.depthAll (ns.map .int) = 0
  | [] => by simp [PyData.depthAll]
  | n :: ns => by simp [PyData.depthAll, PyData.depth, dep_i0 ns]
theorem shaped_ints (ns : List Int) : SeqAt.shaped (.list (ns.map .int)) = true := by
  unfold SeqAt.shaped
  simp [PyData.canLay0, lay_i0, PyData.depth, dep_i0]
theorem ite_t2 {b : Bool} {A B : Prop} (h : b = true) (x : A) : if b = true then A else B := by rw [if_pos h]; exact x
theorem snoc_cases {α : Type} (l : List α) : l = [] ∨ ∃ cs z, l = cs ++ [z] := by
  rcases List.eq_nil_or_concat l with h | ⟨cs, z, h⟩
  · exact .inl h
  · exact .inr ⟨cs, z, by simpa using h⟩
theorem small3 : 3 < sizeLine := by decide
theorem merge3 {c : Addr} {m n : Int} : mergeK [] [((Sum.inr (Str.ofString "cells") : Key), V.ref c), (.inr "mixed", .int m), (.inr "turn", .int n)] = [(.inr "cells", .ref c), (.inr "mixed", .int m), (.inr "turn", .int n)] := by
  have a : putK ([] : List (Key × V)) (Sum.inr (Str.ofString "cells")) (.ref c) = [(.inr "cells", .ref c)] := rfl
  have b : putK [((Sum.inr (Str.ofString "cells") : Key), V.ref c)] (Sum.inr (Str.ofString "mixed")) (.int m) = [(.inr "cells", .ref c), (.inr "mixed", .int m)] := by
    unfold putK
    rw [if_neg (by simp [List.any_cons, scm])]
    rfl
  have d : putK [((Sum.inr (Str.ofString "cells") : Key), V.ref c), (.inr "mixed", .int m)] (Sum.inr (Str.ofString "turn")) (.int n) = [(.inr "cells", .ref c), (.inr "mixed", .int m), (.inr "turn", .int n)] := by
    unfold putK
    rw [if_neg (by simp [List.any_cons, scd, smd])]
    rfl
  simp only [mergeK, List.foldl_cons, List.foldl_nil]
  rw [a, b, d]
def spDeck2 (K : PySem.W.Frag) : Sp := fun vs H Q _ => ∃ (a : Addr) (ns : List Int) (n : Int), vs = [.ref a, .int n] ∧ SqL K H a (ns.map V.int) ∧ ns.length ≤ 63 ∧ ∀ (d c : Addr) (H' : Hp), H d = none → H c = none → DkOk H' d c → Same H H' → Q (.ref d) H'
theorem deck2_ps {X : Cx} {s0 : Stmt} {K : PySem.W.Frag} {n : Int} (h : PS X s0 (tAsg (tCall (spDeck2 K) [] E0 (tCons (tVar 0) (tCons (tC (.int n)) tNil))) (gName 1))) : PS X s0 (tAsg (tCall (spDeck K) [] E0 (tCons (tVar 0) tNil)) (gName 1)) :=
  PS.imp h fun D σ H ⟨v, e, q⟩ => ⟨v, e, by
    obtain ⟨a, ns, e2, hS, hl, k⟩ := q
    cases e2
    exact ⟨a, ns, n, rfl, hS, hl, k⟩⟩
end Q
open PySem PySem.Spec PyProof.Rows L2 HT Q
namespace T43
section
variable {P : Program} {w : World} {K : PySem.W.Frag} {mg : Str → Option Value} {base : Heap}
theorem scDraw : FnScope ["_law_deck_here", "_law_below", "_law_figure", "_law_cell"] ["_law_deck_here", "_law_below"] (defScope (top 31)) := ⟨rfl, rfl, rfl, by decide +kernel, rfl, by decide +kernel, by decide +kernel⟩
theorem ok_draw {f : Addr} {fd : FuncData} (F : Fun K "_law_draw" "_law_draw" (top 31) f fd) (mInt : mg "int" = none) (mMax : mg "max" = none) : FnOk P w K mg base CX0 1 f fd ["_law_deck_here", "_law_below"] spDraw := by
  refine F.ok scDraw (fun vs H Q E h => ?_) (fun cdv A outer s H vs Q E hr h => ?_)
  · obtain ⟨d, c, n, rfl, _⟩ := h
    rfl
  · obtain ⟨d, c, n, rfl, ⟨hdc, cells, m, t, hd, hc, hl⟩, hn, hn2, k⟩ := h
    have hd : H d = some (.dK (kv c m t)) := hd
    have hu := hu_of hr
    have hu64 := hr.units
    refine ⟨_, pss_cons (ps_dput hu (pv 0) pe_str (pe_op op_add (pe_dget hu (pv 0) pe_str (fun _ _ => rfl)) pe_int) rfl)
      (pss_cons (ps_set (i := 2) scDraw.nd rfl (Or.inl rfl) (pe_op op_add (pe_dget hu (pv 0) pe_str (fun _ _ => rfl)) (pe_op op_mul pe_int (pe_dget hu (pv 0) pe_str (fun _ _ => rfl)))))
      (pss_cons (ps_if (pt_cmpR (op_neD hu64) (pe_dget hu (pv 0) pe_str (fun _ _ => rfl)) (pe_lst pa_nil) (nomark _))
        (pss_cons (ps_set (i := 3) scDraw.nd rfl (Or.inl rfl) (pe_bm0 PySem.F.plainAttrs_list PySem.F.slot_list_pop PySem.F.type_list_pop mt_pop (pe_dget hu (pv 0) pe_str (fun _ _ => rfl))))
        (pss_cons (ps_if (pt_cmpR op_ge (pv 3) (pe_op op_pow pe_int pe_int) (nomark _))
          (pss_cons (ps_expr (pe_bm PySem.F.plainAttrs_list PySem.F.slot_list_append PySem.F.type_list_append mt_append (pe_dget hu (pv 0) pe_str (fun _ _ => rfl))
            (pa_cons (pe_op op_fdiv (pv 3) (pe_callB (call_max2 rfl) (by rfl) mMax PyProof.Rows.boot_max (pa_cons pe_int (pa_cons (pv 1) pa_nil)))) pa_nil)))
          (pss_one (ps_ret (pe_op op_mod (pe_callTy call_int1 (by rfl) mInt PyProof.Rows.boot_int (pa_cons (pv 3) pa_nil)) (pv 1))))) pss_nil)
        (pss_one (ps_set (i := 2) scDraw.nd rfl (Or.inl rfl) (pe_op op_add (pv 2) (pe_op op_mod (pe_callTy call_int1 (by rfl) mInt PyProof.Rows.boot_int (pa_cons (pv 3) pa_nil)) pe_int)))))) pss_nil)
      (pss_cons (ps_set (i := 2) scDraw.nd rfl (Or.inl rfl) (pe_op op_mod (pe_callTy call_int1 (by rfl) mInt PyProof.Rows.boot_int (pa_cons (pe_op op_add (pe_op op_mul (pv 2) pe_int) pe_int) pa_nil)) pe_int))
      (pss_cons (ps_set (i := 2) scDraw.nd rfl (Or.inl rfl) (pe_op op_mod (pe_callTy call_int1 (by rfl) mInt PyProof.Rows.boot_int (pa_cons (pe_op op_add (pe_op op_add (pe_op op_mul (pv 2) (pv 2)) (pe_op op_mul pe_int (pe_dget hu (pv 0) pe_str (fun _ _ => rfl)))) pe_int) pa_nil)) pe_int))
      (pss_cons (ps_set (i := 2) scDraw.nd rfl (Or.inl rfl) (pe_op op_mod (pe_callTy call_int1 (by rfl) mInt PyProof.Rows.boot_int (pa_cons (pe_op op_mul (pv 2) pe_int) pa_nil)) pe_int))
      (pss_one (ps_ret (pe_op op_mod (pe_callTy call_int1 (by rfl) mInt PyProof.Rows.boot_int (pa_cons (pe_op op_fdiv (pv 2) pe_int) pa_nil)) (pv 1))))))))), ?_⟩
    -- draws = draws + 1
    refine ⟨.ref d, rfl, d, .int t, rfl, dg_draws hd, t, 1, rfl, rfl, .ref d, rfl, d, _, rfl, DPut.k (k := Sum.inr (Str.ofString "turn")) hd small3, ?_⟩
    rw [put_draws]
    have hd1 : upd H d (.dK (kv c m (t + 1))) d = some (.dK (kv c m (t + 1))) := upd_same
    have hc1 : upd H d (.dK (kv c m (t + 1))) c = some (.lst (cells.map .int)) := by rw [upd_ne (Ne.symm hdc)]; exact hc
    have kp1 : ∀ a o, H a = some o → a ≠ d → upd H d (.dK (kv c m (t + 1))) a = some o := fun a o e z => by rw [upd_ne z]; exact e
    generalize upd H d (.dK (kv c m (t + 1))) = H1 at hd1 hc1 kp1 ⊢
    -- number = mixed + C * draws
    refine ⟨.ref d, rfl, d, .int m, rfl, dg_mixed hd1, .ref d, rfl, d, .int (t + 1), rfl, dg_draws hd1, _, _, rfl, rfl, .inl ⟨by decide, by decide⟩, m, _, rfl, rfl, ?_⟩
    -- cells != []
    refine ⟨.ref d, rfl, d, .ref c, rfl, dg_cells hd1, Nat.zero_le _, fun p hp => ?_⟩
    have sm := same_upd (o := .lst []) hp
    refine ⟨.list (cells.map .int), .list [], .lst (SqL.of (sm _ _ hc1)) (dp_ints cells), .lst (SqL.of upd_same) .nil, shaped_ints cells, shaped_ints [], _, rfl, ?_⟩
    have hd2 := sm _ _ hd1
    have hc2 := sm _ _ hc1
    have kp2 : ∀ a o, H a = some o → a ≠ d → upd H1 p (.lst []) a = some o := fun a o e z => sm _ _ (kp1 a o e z)
    clear sm hp
    generalize upd H1 p (.lst []) = H2 at hd2 hc2 kp2 ⊢
    have nn : 0 < n := hn
    rcases snoc_cases cells with rfl | ⟨cs, z, rfl⟩
    · refine iteF ?_
      have dk2 : DkOk H2 d c := ⟨hdc, [], m, t + 1, hd2, hc2, by simp⟩
      refine ⟨_, rfl, _, _, rfl, rfl, .inr ⟨by decide, by decide⟩, _, _, rfl, rfl, .inl ⟨_, rfl, _, _, rfl, rfl, by show (0 : Int) < _; decide, ?_⟩⟩
      refine ⟨_, rfl, _, rfl, _, _, rfl, rfl, .inl ⟨?_, ?_⟩, .ref d, rfl, d, .int (t + 1), rfl, dg_draws hd2, _, _, rfl, rfl, .inl ⟨by decide, by decide⟩, _, _, rfl, rfl, _, _, rfl, rfl, .inl ⟨_, rfl, _, _, rfl, rfl, by show (0 : Int) < _; decide, ?_⟩⟩
      · omega
      · omega
      refine ⟨_, rfl, _, _, rfl, rfl, .inr ⟨by decide, by decide⟩, .inl ⟨_, rfl, _, _, rfl, rfl, by show (0 : Int) < _; decide, ?_⟩⟩
      refine ⟨_, rfl, _, _, rfl, rfl, ⟨by decide, by decide⟩, .inl ⟨_, rfl, _, rfl, _, _, rfl, rfl, nn, ?_⟩⟩
      exact k _ H2 (Int.emod_nonneg _ (by omega)) (Int.emod_lt_of_pos _ nn) dk2 fun a o e z _ => kp2 a o e z
    · have ev : PyData.eqv (.list ((cs ++ [z]).map .int)) (.list []) = false := by
        cases cs <;> simp [PyData.eqv, PyData.eqvAll]
      refine ite_t2 (by rw [ev]; rfl) ?_
      have hc2 : H2 c = some (.lst (cs.map V.int ++ [V.int z])) := by rw [hc2]; simp
      have hl' : cs.length ≤ 62 := by simp at hl; omega
      -- pop
      refine ⟨.ref d, rfl, d, .ref c, rfl, dg_cells hd2, .inl ⟨rfl, _, SqL.of hc2⟩, c, _, .int z, rfl, rfl, hc2, by simp, ?_⟩
      rw [List.dropLast_concat]
      have hd3 : upd H2 c (.lst (cs.map V.int)) d = some (.dK (kv c m (t + 1))) := by rw [upd_ne hdc]; exact hd2
      have hc3 : upd H2 c (.lst (cs.map V.int)) c = some (.lst (cs.map V.int)) := upd_same
      have kp3 : ∀ a o, H a = some o → a ≠ d → a ≠ c → upd H2 c (.lst (cs.map V.int)) a = some o := fun a o e z1 z2 => by rw [upd_ne z2]; exact kp2 a o e z1
      generalize upd H2 c (.lst (cs.map V.int)) = H3 at hd3 hc3 kp3 ⊢
      have dk3 : DkOk H3 d c := ⟨hdc, cs, m, t + 1, hd3, hc3, by omega⟩
      -- cell >= 10 ** 18
      refine ⟨_, rfl, _, _, rfl, rfl, ⟨by decide, by decide, by decide⟩, _, _, rfl, rfl, _, rfl, ?_⟩
      refine ite2 (fun _ => ?_) (fun _ => ?_)
      · -- cells.append(cell // max(2, many)); return int(cell) % many
        refine ⟨.ref d, rfl, d, .ref c, rfl, dg_cells hd3, .inl ⟨rfl, _, SqL.of hc3⟩, _, rfl, _, rfl, _, _, rfl, _, _, rfl, rfl, ⟨?_, ?_⟩, c, _, _, rfl, rfl, hc3, ?_, ?_⟩
        · split <;> omega
        · split <;> omega
        · rw [List.length_map]; exact Nat.lt_of_le_of_lt hl' (by decide)
        refine ⟨_, rfl, .inl ⟨_, rfl, _, rfl, _, _, rfl, rfl, nn, ?_⟩⟩
        refine k _ _ (Int.emod_nonneg _ (by omega)) (Int.emod_lt_of_pos _ nn) ?_ fun a o e z1 z2 => by rw [upd_ne z2]; exact kp3 a o e z1 z2
        refine ⟨hdc, cs ++ [z / (if n > 2 then n else 2)], m, t + 1, by rw [upd_ne hdc]; exact hd3, ?_, by simp; omega⟩
        rw [upd_same, List.map_append]
        rfl
      · refine ⟨_, rfl, _, rfl, .inl ⟨_, rfl, _, _, rfl, rfl, by show (0 : Int) < _; decide, _, _, rfl, rfl, ?_⟩⟩
        refine ⟨_, rfl, _, _, rfl, rfl, .inr ⟨by decide, by decide⟩, _, _, rfl, rfl, .inl ⟨_, rfl, _, _, rfl, rfl, by show (0 : Int) < _; decide, ?_⟩⟩
        refine ⟨_, rfl, _, rfl, _, _, rfl, rfl, .inl ⟨?_, ?_⟩, .ref d, rfl, d, .int (t + 1), rfl, dg_draws hd3, _, _, rfl, rfl, .inl ⟨by decide, by decide⟩, _, _, rfl, rfl, _, _, rfl, rfl, .inl ⟨_, rfl, _, _, rfl, rfl, by show (0 : Int) < _; decide, ?_⟩⟩
        · omega
        · omega
        refine ⟨_, rfl, _, _, rfl, rfl, .inr ⟨by decide, by decide⟩, .inl ⟨_, rfl, _, _, rfl, rfl, by show (0 : Int) < _; decide, ?_⟩⟩
        refine ⟨_, rfl, _, _, rfl, rfl, ⟨by decide, by decide⟩, .inl ⟨_, rfl, _, rfl, _, _, rfl, rfl, nn, ?_⟩⟩
        exact k _ H3 (Int.emod_nonneg _ (by omega)) (Int.emod_lt_of_pos _ nn) dk3 kp3
theorem scDeck : FnScope ["_law_script", "_law_law_number", "_law_mixed", "_law_cell"] ["_law_script", "_law_law_number"] (defScope (top 30)) := ⟨rfl, rfl, rfl, by decide +kernel, rfl, by decide +kernel, by decide +kernel⟩
theorem ok_deck {f : Addr} {fd : FuncData} (F : Fun K "_law_deck" "_law_deck" (top 30) f fd) (mInt : mg "int" = none) (mList : mg "int" = none) : FnOk P w K mg base CX0 1 f fd ["_law_script", "_law_law_number"] (spDeck2 K) := by
  refine F.ok scDeck (fun vs H Q E h => ?_) (fun cdv A outer s H vs Q E hr h => ?_)
  · obtain ⟨a, ns, n, rfl, _⟩ := h
    rfl
  · obtain ⟨a, ns, nn, rfl, hS, hl, k⟩ := h
    refine ⟨_, pss_cons (ps_set (i := 2) scDeck.nd rfl (Or.inl rfl) (pe_op op_add pe_int (pv 1)))
      (pss_cons (ps_for PassesOwn.never rfl (pi_list (pe_slice sl_list (pv 0) po_none (po_some pe_int))) (pg_name (i := 3) scDeck.nd rfl (Or.inl rfl))
        (pss_one (ps_set (i := 2) scDeck.nd rfl (Or.inl rfl) (pe_op op_mod (pe_callTy call_int1 (by rfl) mInt PyProof.Rows.boot_int (pa_cons (pe_op op_add (pe_op op_add (pe_op op_mul (pv 2) pe_int) (pe_op op_mod (pe_callTy call_int1 (by rfl) mInt PyProof.Rows.boot_int (pa_cons (pv 3) pa_nil)) pe_int)) pe_int) pa_nil)) pe_int))))
      (pss_one (ps_ret (pe_disp (pps_cons pe_str (pe_revL (pe_lc (own := [("_law_cell", 3)]) (g := gName 3) (tt := tYes) rfl scDeck.nd (pi_list (pe_slice sl_list (pv 0) po_none (po_some pe_int))) (blkOk_by (own := [("_law_cell", 3)]) (N := ["_law_script", "_law_law_number", "_law_mixed", "_law_cell"]) (sc := defScope (top 30)) (by decide +kernel)) (fun _ _ _ _ _ => pg_name (i := 3) scDeck.nd rfl (Or.inl rfl)) (fun _ _ _ _ _ => pts_nil) (fun _ _ _ _ _ => pe_callTy call_int1 (by rfl) mInt PyProof.Rows.boot_int (pa_cons (pv 3) pa_nil)))) (pps_cons pe_str (pv 2) (pps_cons pe_str pe_int pps_nil))) (by rfl) (by rfl) (fun z => by cases z) (by decide))))), ?_⟩
    have cut : ∀ z : Int, z = 63 → cutV (ns.map V.int) none (some z) = ns.map V.int := fun z hz => by
      subst hz
      unfold cutV
      rw [HT.sIx_none, List.drop_zero]
      have : HT.sIx (ns.map V.int).length (ns.map V.int).length (some 63) = (ns.map V.int).length := by
        have := HT.sIx_nat (ns.map V.int).length (ns.map V.int).length 63
        rw [show ((63 : Nat) : Int) = 63 from rfl] at this
        rw [this, List.length_map]
        omega
      rw [this, Nat.sub_zero, List.take_length]
    refine ⟨_, rfl, _, _, rfl, rfl, _, rfl, _, rfl, a, _, rfl, hS, fun p hp => ?_⟩
    rw [cut _ rfl]
    have s1 := same_upd (o := .lst (ns.map V.int)) hp
    refine ⟨p, rfl, ⟨_, SqL.of upd_same⟩, for_list (K := K) (a := p) (xs := ns.map V.int) (fun i σ H2 => ∃ (m : Int) (v : Option V), σ = [some (.ref a), some (.int nn), some (.int m), v] ∧ Same H H2 ∧ SqL K H2 p (ns.map V.int))
      ⟨_, none, rfl, s1, SqL.of upd_same⟩ (fun i σ H2 _ ⟨_, _, _, _, q⟩ => q) ?_ ?_⟩
    · rintro i y σ H2 hi ⟨m, v, rfl, s2, q⟩
      obtain ⟨z, rfl⟩ : ∃ z, y = V.int z := by
        rw [List.getElem?_map] at hi
        cases e : ns[i]? with
        | none => rw [e] at hi; cases hi
        | some z => rw [e] at hi; exact ⟨z, (Option.some.inj hi).symm⟩
      exact ⟨_, rfl, _, _, rfl, rfl, .inr ⟨by decide, by decide⟩, _, rfl, .inl ⟨_, rfl, _, _, rfl, rfl, by show (0 : Int) < _; decide, _, _, rfl, rfl, _, _, rfl, rfl, .inl ⟨_, rfl, _, _, rfl, rfl, by show (0 : Int) < _; decide, _, _, rfl, s2, q⟩⟩⟩
    · rintro σ H2 ⟨m, v, rfl, s2, q⟩
      intro d hd
      have sd := same_upd (o := .dK []) hd
      refine ⟨_, rfl, _, rfl, a, _, rfl, sd.seq (s2.seq hS), fun p2 hp2 => ?_⟩
      rw [cut _ rfl]
      have sp2 := same_upd (o := .lst (ns.map V.int)) hp2
      refine ⟨p2, rfl, ⟨_, SqL.of upd_same⟩, fun l hl' => ?_⟩
      generalize eH3 : upd (upd H2 d (.dK [])) p2 (.lst (ns.map V.int)) = H3 at sp2 hl'
      have q3 : SqL K H3 p2 (ns.map V.int) := by rw [← eH3]; exact SqL.of upd_same
      have hd3 : H3 d = some (.dK []) := sp2 _ _ upd_same
      refine lc_list (K := K) (a := p2) (xs := ns.map V.int) (fun i H4 => H4 l = some (.lst ((ns.take i).map V.int)) ∧ Same H3 H4) ⟨by rw [upd_same]; simp, same_upd hl'⟩ (fun i H4 _ ⟨_, sm⟩ => sm.seq q3) ?_ ?_
      · rintro i y H4 hi ⟨g1, g2⟩
        obtain ⟨z, hz, rfl⟩ : ∃ z, ns[i]? = some z ∧ y = V.int z := by
          rw [List.getElem?_map] at hi
          cases e : ns[i]? with
          | none => rw [e] at hi; cases hi
          | some z => rw [e] at hi; exact ⟨z, rfl, (Option.some.inj hi).symm⟩
        have hil := (List.getElem?_eq_some_iff.mp hz).1
        refine ⟨rfl, ?_⟩
        simp only [tYes, if_true]
        refine ⟨_, rfl, .inl ⟨_, rfl, _, g1, by rw [List.length_map, List.length_take]; exact Nat.lt_of_le_of_lt (Nat.min_le_left _ _) (Nat.lt_of_lt_of_le hil (Nat.le_trans hl (by decide))), ?_, fun b o e => ?_⟩⟩
        · rw [upd_same, List.take_succ, hz]
          simp
        · rw [upd_ne (ne_of_none e hl')]
          exact g2 b o e
      · rintro H4 ⟨g1, g2⟩
        rw [List.length_map, List.take_length] at g1
        refine ⟨l, _, rfl, SqL.of g1, fun c hc => ?_⟩
        have sc := same_upd (o := .lst (ns.map V.int).reverse) hc
        have S : Same H (upd H4 c (.lst (ns.map V.int).reverse)) := s2.trans (sd.trans (by rw [← eH3] at g2; exact (same_upd hp2).trans (g2.trans sc)))
        have hdd : (upd H4 c (.lst (ns.map V.int).reverse)) d = some (.dK []) := sc _ _ (g2 _ _ hd3)
        have n1 : H d = none := s2.free hd
        have n2 : H c = none := by
          refine (s2.trans (sd.trans ?_)).free hc
          rw [← eH3] at g2
          exact (same_upd hp2).trans g2
        have hcc : (upd H4 c (.lst (ns.map V.int).reverse)) c = some (.lst (ns.map V.int).reverse) := upd_same
        generalize (upd H4 c (.lst (ns.map V.int).reverse)) = H5 at S hdd hcc ⊢
        have dc : d ≠ c := ne_of hdd hcc (by intro z; cases z)
        refine ⟨_, rfl, hdd, [(.inr "cells", .ref c), (.inr "mixed", .int m), (.inr "turn", .int 0)], rfl, by simp, ?_⟩
        refine k d c _ n1 n2 ⟨dc, ns.reverse, m, 0, ?_, ?_, by rw [List.length_reverse]; exact hl⟩ fun b o e => ?_
        · rw [upd_same]
          exact congrArg (fun l => some (HO.dK l)) merge3
        · rw [upd_ne (Ne.symm dc), hcc, List.map_reverse]
        · rw [upd_ne (ne_of_none e n1)]
          exact S b o e
end
end T43
end P20
section P21
namespace T43
/-! desks and codes; here the last desk stands first -/
abbrev Desk := List Bool
def manyR : List Desk → Int
  | [] => 1
  | d :: ds => manyR ds * d.length
def posR : List Desk → List Int → Int
  | d :: ds, p :: c => p * manyR ds + (if d.getD p.toNat false = true then manyR ds - 1 - posR ds c else posR ds c)
  | _, _ => 0
def codeR : List Desk → Int → List Int
  | [], _ => []
  | d :: ds, n => n / manyR ds :: codeR ds (if d.getD (n / manyR ds).toNat false = true then manyR ds - 1 - n % manyR ds else n % manyR ds)
def sgnR : List Desk → List Int → Int
  | d :: ds, p :: c => (if d.getD p.toNat false = true then -1 else 1) * sgnR ds c
  | _, _ => 1
def OkR : List Desk → List Int → Prop
  | [], [] => True
  | d :: ds, p :: c => (0 ≤ p ∧ p < d.length) ∧ OkR ds c
  | _, _ => False
theorem posR_c (d : Desk) (ds : List Desk) (p : Int) (c : List Int) : posR (d :: ds) (p :: c) = p * manyR ds + (if d.getD p.toNat false = true then manyR ds - 1 - posR ds c else posR ds c) := rfl
theorem manyR_c (d : Desk) (ds : List Desk) : manyR (d :: ds) = manyR ds * d.length := rfl
theorem codeR_c (d : Desk) (ds : List Desk) (n : Int) : codeR (d :: ds) n = n / manyR ds :: codeR ds (if d.getD (n / manyR ds).toNat false = true then manyR ds - 1 - n % manyR ds else n % manyR ds) := rfl
theorem sgnR_c (d : Desk) (ds : List Desk) (p : Int) (c : List Int) : sgnR (d :: ds) (p :: c) = (if d.getD p.toNat false = true then -1 else 1) * sgnR ds c := rfl
def DsOk (ds : List Desk) : Prop := ∀ d, d ∈ ds → 1 ≤ d.length ∧ d.length ≤ 6
theorem many_pos : ∀ {ds : List Desk}, DsOk ds → 1 ≤ manyR ds
  | [], _ => by simp [manyR]
  | d :: ds, h => by
    have ih := many_pos (ds := ds) fun x hx => h x (by simp [hx])
    have := (h d (by simp)).1
    unfold manyR
    have h2 : (1 : Int) ≤ (d.length : Int) := by omega
    have := Int.mul_le_mul ih h2 (by omega) (by omega)
    simpa using this
theorem many_le : ∀ {ds : List Desk}, DsOk ds → manyR ds ≤ 6 ^ ds.length
  | [], _ => by simp [manyR]
  | d :: ds, h => by
    have ih := many_le (ds := ds) fun x hx => h x (by simp [hx])
    have := (h d (by simp)).2
    have p := many_pos (ds := ds) fun x hx => h x (by simp [hx])
    unfold manyR
    have h2 : (d.length : Int) ≤ 6 := by omega
    have := Int.mul_le_mul ih h2 (by omega) (Int.pow_nonneg (by decide))
    rw [List.length_cons, Int.pow_succ]
    exact this
theorem six_le {k n : Nat} (h : k ≤ n) : (6 : Int) ^ k ≤ 6 ^ n := by
  have := Nat.pow_le_pow_right (n := 6) (by decide) h
  have h1 : ((6 ^ k : Nat) : Int) ≤ ((6 ^ n : Nat) : Int) := by exact_mod_cast this
  simpa using h1
theorem many_12 {ds : List Desk} (h : DsOk ds) (hl : ds.length ≤ 12) : manyR ds ≤ 2176782336 := Int.le_trans (many_le h) (six_le (n := 12) hl)
theorem many_11 {ds : List Desk} (h : DsOk ds) (hl : ds.length ≤ 11) : manyR ds ≤ 362797056 := Int.le_trans (many_le h) (six_le (n := 11) hl)
theorem OkR.length : ∀ {ds : List Desk} {c : List Int}, OkR ds c → c.length = ds.length
  | [], [], _ => rfl
  | d :: ds, p :: c, h => by rw [List.length_cons, List.length_cons, OkR.length h.2]
  | [], _ :: _, h => h.elim
  | _ :: _, [], h => h.elim
theorem mul_room {p L S : Int} (h1 : p < L) (hS : 0 ≤ S) : p * S + S ≤ S * L := by
  have h2 : p + 1 ≤ L := h1
  have := Int.mul_le_mul_of_nonneg_right h2 hS
  rw [Int.add_mul, Int.one_mul] at this
  rw [Int.mul_comm S L]
  exact this
theorem pos_bd : ∀ {ds : List Desk} {c : List Int}, DsOk ds → OkR ds c → 0 ≤ posR ds c ∧ posR ds c < manyR ds
  | [], [], _, _ => by simp [posR, manyR]
  | d :: ds, p :: c, h, ok => by
    obtain ⟨h1, h2⟩ := pos_bd (ds := ds) (c := c) (fun x hx => h x (by simp [hx])) ok.2
    obtain ⟨h3, h4⟩ := ok.1
    have S := many_pos (ds := ds) fun x hx => h x (by simp [hx])
    have r := mul_room (S := manyR ds) h4 (by omega)
    have q : 0 ≤ p * manyR ds := Int.mul_nonneg h3 (by omega)
    rw [posR_c, manyR_c]
    split <;> constructor <;> omega
  | [], _ :: _, _, h => h.elim
  | _ :: _, [], _, h => h.elim
theorem code_ok : ∀ {ds : List Desk} {n : Int}, DsOk ds → 0 ≤ n → n < manyR ds → OkR ds (codeR ds n) ∧ posR ds (codeR ds n) = n
  | [], n, _, h0, h1 => by simp only [manyR] at h1; simp only [codeR, OkR, posR, true_and]; omega
  | d :: ds, n, h, h0, h1 => by
    have hd : DsOk ds := fun x hx => h x (by simp [hx])
    have S := many_pos hd
    rw [manyR_c] at h1
    have e := Int.mul_ediv_add_emod n (manyR ds)
    have m1 := Int.emod_nonneg n (show manyR ds ≠ 0 by omega)
    have m2 := Int.emod_lt_of_pos n (show 0 < manyR ds by omega)
    have q1 : 0 ≤ n / manyR ds := Int.ediv_nonneg h0 (by omega)
    have q2 : n / manyR ds < d.length := Int.ediv_lt_of_lt_mul (by omega) (by rw [Int.mul_comm]; exact h1)
    have c1 : manyR ds * (n / manyR ds) = n / manyR ds * manyR ds := Int.mul_comm _ _
    rw [codeR_c]
    by_cases hp : d.getD (n / manyR ds).toNat false = true
    · rw [if_pos hp]
      obtain ⟨i1, i2⟩ := code_ok (ds := ds) (n := manyR ds - 1 - n % manyR ds) hd (by omega) (by omega)
      refine ⟨⟨⟨q1, q2⟩, i1⟩, ?_⟩
      rw [posR_c, if_pos hp, i2]
      omega
    · rw [if_neg hp]
      obtain ⟨i1, i2⟩ := code_ok (ds := ds) (n := n % manyR ds) hd m1 m2
      refine ⟨⟨⟨q1, q2⟩, i1⟩, ?_⟩
      rw [posR_c, if_neg hp, i2]
      omega
theorem code_pos : ∀ {ds : List Desk} {c : List Int}, DsOk ds → OkR ds c → codeR ds (posR ds c) = c
  | [], [], _, _ => rfl
  | d :: ds, p :: c, h, ok => by
    have hd : DsOk ds := fun x hx => h x (by simp [hx])
    have S := many_pos hd
    obtain ⟨b1, b2⟩ := pos_bd hd ok.2
    have ih := code_pos hd ok.2
    have key : ∀ x : Int, 0 ≤ x → x < manyR ds → (p * manyR ds + x) / manyR ds = p ∧ (p * manyR ds + x) % manyR ds = x := fun x x0 x1 => by
      constructor
      · rw [Int.add_comm, Int.add_mul_ediv_right _ _ (by omega), Int.ediv_eq_zero_of_lt x0 x1, Int.zero_add]
      · rw [Int.add_comm, Int.add_mul_emod_self_right, Int.emod_eq_of_lt x0 x1]
    rw [codeR_c, posR_c]
    by_cases hp : d.getD p.toNat false = true
    · rw [if_pos hp]
      obtain ⟨k1, k2⟩ := key (manyR ds - 1 - posR ds c) (by omega) (by omega)
      rw [k1, k2, if_pos hp]
      have : manyR ds - 1 - (manyR ds - 1 - posR ds c) = posR ds c := by omega
      rw [this, ih]
    · rw [if_neg hp]
      obtain ⟨k1, k2⟩ := key (posR ds c) b1 b2
      rw [k1, k2, if_neg hp, ih]
  | [], _ :: _, _, h => h.elim
  | _ :: _, [], _, h => h.elim
theorem sgn_cases : ∀ (ds : List Desk) (c : List Int), sgnR ds c = 1 ∨ sgnR ds c = -1
  | [], [] => .inl rfl
  | [], _ :: _ => .inl rfl
  | _ :: _, [] => .inl rfl
  | d :: ds, p :: c => by
    rw [sgnR_c]
    rcases sgn_cases ds c with e | e <;> rw [e] <;> split <;> simp
/-- the same behind: the sign tells -/
theorem cmp : ∀ (rd : List Desk) (rt : List Int) (R : List Desk) (a b : List Int), rd.length = rt.length →
    decide (posR (rd ++ R) (rt ++ a) < posR (rd ++ R) (rt ++ b)) = if sgnR rd rt = 1 then decide (posR R a < posR R b) else decide (posR R b < posR R a)
  | [], [], R, a, b, _ => by simp [sgnR]
  | d :: rd, p :: rt, R, a, b, h => by
    have hl : rd.length = rt.length := by simpa using h
    have ih := cmp rd rt R a b hl
    have ih2 := cmp rd rt R b a hl
    simp only [List.cons_append, posR_c, sgnR_c]
    by_cases hp : d.getD p.toNat false = true
    · simp only [if_pos hp]
      have e : decide (p * manyR (rd ++ R) + (manyR (rd ++ R) - 1 - posR (rd ++ R) (rt ++ a)) < p * manyR (rd ++ R) + (manyR (rd ++ R) - 1 - posR (rd ++ R) (rt ++ b))) = decide (posR (rd ++ R) (rt ++ b) < posR (rd ++ R) (rt ++ a)) := by
        apply decide_eq_decide.mpr
        constructor <;> intro h <;> omega
      rw [e, ih2]
      rcases sgn_cases rd rt with q | q
      · rw [q, if_pos rfl, if_neg (by decide)]
      · rw [q, if_neg (by decide), if_pos (by decide)]
    · simp only [if_neg hp]
      have e : decide (p * manyR (rd ++ R) + posR (rd ++ R) (rt ++ a) < p * manyR (rd ++ R) + posR (rd ++ R) (rt ++ b)) = decide (posR (rd ++ R) (rt ++ a) < posR (rd ++ R) (rt ++ b)) := by
        apply decide_eq_decide.mpr
        constructor <;> intro h <;> omega
      rw [e, ih, Int.one_mul]
  | [], _ :: _, _, _, _, h => by simp at h
  | _ :: _, [], _, _, _, h => by simp at h
theorem lt_head {d : Desk} {ds : List Desk} {p q : Int} {a b : List Int} (h : DsOk (d :: ds)) (ha : OkR (d :: ds) (p :: a)) (hb : OkR (d :: ds) (q :: b)) (hpq : p < q) : posR (d :: ds) (p :: a) < posR (d :: ds) (q :: b) := by
  have hd : DsOk ds := fun x hx => h x (by simp [hx])
  have S := many_pos hd
  obtain ⟨a1, a2⟩ := pos_bd hd ha.2
  obtain ⟨b1, b2⟩ := pos_bd hd hb.2
  have r := mul_room (S := manyR ds) hpq (by omega)
  have c1 : manyR ds * q = q * manyR ds := Int.mul_comm _ _
  rw [posR_c, posR_c]
  split <;> split <;> omega
theorem cmp_head {d : Desk} {ds : List Desk} {p q : Int} {a b : List Int} (h : DsOk (d :: ds)) (ha : OkR (d :: ds) (p :: a)) (hb : OkR (d :: ds) (q :: b)) (hpq : p ≠ q) : decide (posR (d :: ds) (p :: a) < posR (d :: ds) (q :: b)) = decide (p < q) := by
  apply decide_eq_decide.mpr
  constructor
  · intro hlt
    by_cases e : p < q
    · exact e
    · have := lt_head h hb ha (by omega)
      omega
  · exact lt_head h ha hb
/-! ### the same from the first desk on -/
def posL : Int → Int → List Desk → List Int → Int
  | f, s, d :: ds, p :: c => posL (p * s + (if d.getD p.toNat false = true then s - 1 - f else f)) (s * d.length) ds c
  | f, _, _, _ => f
def manyL : Int → List Desk → Int
  | s, [] => s
  | s, d :: ds => manyL (s * d.length) ds
theorem manyL_snoc (ds : List Desk) (d : Desk) : ∀ s : Int, manyL s (ds ++ [d]) = manyL s ds * d.length := by
  induction ds with
  | nil => intro s; rfl
  | cons x ds ih => intro s; exact ih _
theorem posL_snoc (d : Desk) (p : Int) : ∀ (ds : List Desk) (c : List Int) (f s : Int), ds.length = c.length → posL f s (ds ++ [d]) (c ++ [p]) = p * manyL s ds + (if d.getD p.toNat false = true then manyL s ds - 1 - posL f s ds c else posL f s ds c)
  | [], [], f, s, _ => by simp [posL, manyL]
  | x :: ds, q :: c, f, s, h => by
    have hl : ds.length = c.length := by simpa using h
    simp only [List.cons_append]
    have ih := posL_snoc d p ds c (q * s + (if x.getD q.toNat false = true then s - 1 - f else f)) (s * x.length) hl
    simpa only [posL, manyL] using ih
  | [], _ :: _, _, _, h => by simp at h
  | _ :: _, [], _, _, h => by simp at h
theorem many_eq : ∀ ds : List Desk, manyL 1 ds.reverse = manyR ds
  | [] => rfl
  | d :: ds => by rw [List.reverse_cons, manyL_snoc, many_eq ds]; rfl
theorem pos_eq : ∀ (ds : List Desk) (c : List Int), ds.length = c.length → posL 0 1 ds.reverse c.reverse = posR ds c
  | [], [], _ => rfl
  | d :: ds, p :: c, h => by
    have hl : ds.length = c.length := by simpa using h
    rw [List.reverse_cons, List.reverse_cons, posL_snoc d p _ _ 0 1 (by simpa using hl), many_eq, pos_eq ds c hl]
    rfl
  | [], _ :: _, h => by simp at h
  | _ :: _, [], h => by simp at h
def many (ds : List Desk) : Int := manyR ds.reverse
def pos (ds : List Desk) (c : List Int) : Int := posR ds.reverse c.reverse
def codeAt (ds : List Desk) (n : Int) : List Int := (codeR ds.reverse n).reverse
def Ok (ds : List Desk) (c : List Int) : Prop := OkR ds.reverse c.reverse
theorem OkR.snoc {d : Desk} {p : Int} : ∀ {ds : List Desk} {c : List Int}, OkR ds c → 0 ≤ p → p < d.length → OkR (ds ++ [d]) (c ++ [p])
  | [], [], _, h1, h2 => ⟨⟨h1, h2⟩, True.intro⟩
  | x :: ds, q :: c, h, h1, h2 => ⟨h.1, OkR.snoc h.2 h1 h2⟩
  | [], _ :: _, h, _, _ => h.elim
  | _ :: _, [], h, _, _ => h.elim
theorem OkR.rev : ∀ {ds : List Desk} {c : List Int}, OkR ds c → OkR ds.reverse c.reverse
  | [], [], _ => True.intro
  | x :: ds, q :: c, h => by
    rw [List.reverse_cons, List.reverse_cons]
    exact OkR.snoc (OkR.rev h.2) h.1.1 h.1.2
  | [], _ :: _, h => h.elim
  | _ :: _, [], h => h.elim
theorem ok_iff {ds : List Desk} {c : List Int} : Ok ds c ↔ OkR ds c := ⟨fun h => by have := OkR.rev h; rw [List.reverse_reverse, List.reverse_reverse] at this; exact this, OkR.rev⟩
theorem DsOk.rev {ds : List Desk} (h : DsOk ds) : DsOk ds.reverse := fun d hd => h d (by simpa using hd)
theorem many_eqL (ds : List Desk) : manyL 1 ds = many ds := by have := many_eq ds.reverse; rw [List.reverse_reverse] at this; exact this
theorem pos_eqL {ds : List Desk} {c : List Int} (h : ds.length = c.length) : posL 0 1 ds c = pos ds c := by
  have := pos_eq ds.reverse c.reverse (by simpa using h)
  rw [List.reverse_reverse, List.reverse_reverse] at this
  exact this
/-- signs and piles -/
def sgnL : Int → List Desk → List Int → Int
  | s, d :: ds, p :: c => sgnL (s * (if d.getD p.toNat false = true then -1 else 1)) ds c
  | s, _, _ => s
def piles : List Desk → List Int → Nat
  | d :: ds, p :: c => (if d.getD p.toNat false = true then 1 else 0) + piles ds c
  | _, _ => 0
def sgn (ds : List Desk) (c : List Int) : Int := if piles ds c % 2 = 0 then 1 else -1
theorem sgnL_eq : ∀ (ds : List Desk) (c : List Int) (s : Int), sgnL s ds c = s * sgn ds c
  | [], [], s => by simp [sgnL, sgn, piles]
  | [], _ :: _, s => by simp [sgnL, sgn, piles]
  | _ :: _, [], s => by simp [sgnL, sgn, piles]
  | d :: ds, p :: c, s => by
    unfold sgnL
    rw [sgnL_eq ds c, Int.mul_assoc]
    congr 1
    unfold sgn
    rw [show piles (d :: ds) (p :: c) = (if d.getD p.toNat false = true then 1 else 0) + piles ds c from rfl]
    by_cases hp : d.getD p.toNat false = true
    · simp only [if_pos hp]
      rcases Nat.mod_two_eq_zero_or_one (piles ds c) with e | e
      · rw [if_pos e, if_neg (by omega)]; rfl
      · rw [if_neg (by omega), if_pos (by omega)]; rfl
    · simp only [if_neg hp, Nat.zero_add, Int.one_mul]
theorem sgnR_snoc (d : Desk) (p : Int) : ∀ (ds : List Desk) (c : List Int), ds.length = c.length → sgnR (ds ++ [d]) (c ++ [p]) = sgnR ds c * (if d.getD p.toNat false = true then -1 else 1)
  | [], [], _ => by simp [sgnR]
  | x :: ds, q :: c, h => by
    have hl : ds.length = c.length := by simpa using h
    simp only [List.cons_append, sgnR]
    rw [sgnR_snoc d p ds c hl, Int.mul_assoc]
  | [], _ :: _, h => by simp at h
  | _ :: _, [], h => by simp at h
theorem sgn_rev : ∀ (ds : List Desk) (c : List Int), ds.length = c.length → sgnR ds.reverse c.reverse = sgn ds c
  | [], [], _ => by simp [sgnR, sgn, piles]
  | d :: ds, p :: c, h => by
    have hl : ds.length = c.length := by simpa using h
    rw [List.reverse_cons, List.reverse_cons, sgnR_snoc d p _ _ (by simpa using hl), sgn_rev ds c hl]
    have e := sgnL_eq (d :: ds) (p :: c) 1
    unfold sgnL at e
    rw [sgnL_eq ds c, Int.one_mul, Int.one_mul] at e
    rw [← e, Int.mul_comm]
  | [], _ :: _, h => by simp at h
  | _ :: _, [], h => by simp at h
/-- two codes that part last at place k -/
theorem part_at {ds : List Desk} {a b : List Int} (hd : DsOk ds) (ha : Ok ds a) (hb : Ok ds b) {k : Nat} (hk : k < ds.length) (hab : a.getD k 0 ≠ b.getD k 0) (he : ∀ j, k < j → j < ds.length → a.getD j 0 = b.getD j 0) :
    decide (pos ds a < pos ds b) = if sgn (ds.drop (k + 1)) (a.drop (k + 1)) = 1 then decide (a.getD k 0 < b.getD k 0) else decide (b.getD k 0 < a.getD k 0) := by
  have la : a.length = ds.length := (ok_iff.mp ha).length
  have lb : b.length = ds.length := (ok_iff.mp hb).length
  have tails : a.drop (k + 1) = b.drop (k + 1) := by
    apply List.ext_getElem
    · simp [la, lb]
    · intro i h1 h2
      rw [List.length_drop] at h1
      have := he (k + 1 + i) (by omega) (by omega)
      have g1 : k + 1 + i < a.length := by omega
      have g2 : k + 1 + i < b.length := by omega
      simpa [List.getD_eq_getElem?_getD, g1, g2] using this
  have cut : ∀ {α : Type} (l : List α) (z : α), k < l.length → l.reverse = (l.drop (k + 1)).reverse ++ l.getD k z :: (l.take k).reverse := fun {α} l z h => by
    have e : l = l.take k ++ l.getD k z :: l.drop (k + 1) := by
      have : l.getD k z = l[k] := by simp [List.getD_eq_getElem?_getD, h]
      rw [this, List.getElem_cons_drop, List.take_append_drop]
    have e2 := congrArg List.reverse e
    rw [List.reverse_append, List.reverse_cons, List.append_assoc] at e2
    simpa using e2
  unfold pos
  have hd2 := hd.rev
  have ha2 : OkR ds.reverse a.reverse := ha
  have hb2 : OkR ds.reverse b.reverse := hb
  rw [cut ds [] hk] at hd2 ha2 hb2 ⊢
  rw [cut a 0 (by omega)] at ha2 ⊢
  rw [cut b 0 (by omega)] at hb2 ⊢
  rw [← tails] at hb2 ⊢
  have split : ∀ (rd : List Desk) (rt : List Int) (R : List Desk) (x : List Int), rd.length = rt.length → OkR (rd ++ R) (rt ++ x) → OkR R x := fun rd => by
    induction rd with
    | nil => intro rt R x h o; cases rt with | nil => exact o | cons _ _ => simp at h
    | cons d rd ih => intro rt R x h o; cases rt with | nil => simp at h | cons p rt => exact ih rt R x (by simpa using h) o.2
  have ll : (ds.drop (k + 1)).reverse.length = (a.drop (k + 1)).reverse.length := by simp [la]
  have oa := split _ _ _ _ ll ha2
  have ob := split _ _ _ _ ll hb2
  have od : DsOk (ds.getD k [] :: (ds.take k).reverse) := fun d h => hd2 d (by
    rw [List.mem_append]; exact .inr h)
  rw [cmp _ _ _ _ _ ll, sgn_rev _ _ (by simp [la]), cmp_head od oa ob hab, cmp_head od ob oa (Ne.symm hab)]
theorem same_all {a b : List Int} {n : Nat} (ha : a.length = n) (hb : b.length = n) (h : ∀ j, j < n → a.getD j 0 = b.getD j 0) : a = b := by
  apply List.ext_getElem
  · rw [ha, hb]
  · intro i h1 h2
    have := h i (by omega)
    simpa [List.getD_eq_getElem?_getD, h1, h2] using this
end T43
end P21
section P22
open PySem PySem.Spec PyProof.Rows L2 HT Q
namespace T43
abbrev tupI (xs : List Int) : PyData := .tuple (xs.map .int)
def plD (b : Bool) : PyData := .str (if b = true then "pile" else "tray")
def deskD (d : Desk) : PyData := .tuple (d.map plD)
def desksD (ds : List Desk) : PyData := .tuple (ds.map deskD)
theorem and_b {p q : Bool} {R : PyData → Prop} (h : R (.bool (p && q))) : if p = true then R (.bool q) else R (.bool false) := by cases p <;> simpa using h
theorem at_int {xs : List Int} {c : Int} (h0 : 0 ≤ c) (h1 : c < xs.length) : atI (xs.map PyData.int) c = some (.int (xs.getD c.toNat 0)) := by
  obtain ⟨n, rfl⟩ := Int.eq_ofNat_of_zero_le h0
  refine atI_nat ?_
  have h2 : n < xs.length := by omega
  simp [List.getD_eq_getElem?_getD, h2]
theorem at_pl {d : Desk} {c : Int} (h0 : 0 ≤ c) (h1 : c < d.length) : atI (d.map plD) c = some (plD (d.getD c.toNat false)) := by
  obtain ⟨n, rfl⟩ := Int.eq_ofNat_of_zero_le h0
  refine atI_nat ?_
  have h2 : n < d.length := by omega
  simp [List.getD_eq_getElem?_getD, h2]
theorem all_tr {α : Type} {l : List α} : ((l.map fun _ => true).all fun b => b) = true := by simp [Function.comp_def]
theorem tr_ex {α : Type} {l : List α} {R : PyData → Prop} (h : R (.bool true)) : ∃ bs : List Bool, (l.map fun _ => PyData.bool true) = bs.map .bool ∧ R (.bool (bs.all fun b => b)) := by
  refine ⟨l.map fun _ => true, by simp, ?_⟩
  rw [all_tr]
  exact h
theorem eqv_tray {b : Bool} : PyData.eqv (plD b) (.str (Str.ofString "tray")) = !b := by cases b <;> (simp only [plD, PyData.eqv]; decide +kernel)
theorem eqv_pile {b : Bool} : PyData.eqv (plD b) (.str (Str.ofString "pile")) = b := by cases b <;> (simp only [plD, PyData.eqv]; decide +kernel)
theorem sh_str {x : Str} (h : PyData.strOk x = true) : SeqAt.shaped (.str x) = true := by unfold SeqAt.shaped; simp [PyData.canLay0, PyData.depth, h]
theorem sh_pl {b : Bool} : SeqAt.shaped (plD b) = true := sh_str (by cases b <;> decide +kernel)
theorem sh_tray : SeqAt.shaped (.str (Str.ofString "tray")) = true := sh_str (by decide +kernel)
theorem sh_pile : SeqAt.shaped (.str (Str.ofString "pile")) = true := sh_str (by decide +kernel)
/-! ### looks -/
def sp_is_integer : PSpec := fun as R => ∃ i : Int, as = [.d (.int i)] ∧ R (.bool true)
theorem len_is_integer : ∀ as R, sp_is_integer as R → as.length = 1 := by rintro as R ⟨i, rfl, _⟩; rfl
theorem rd_is_integer : ∀ as R, sp_is_integer as R → t_is_integer { nx := fun _ => R .none, rt := R } (enOf as 0) := by
  rintro as R ⟨i, rfl, h⟩
  simpa only [t_is_integer, Q.addF, Q.mulF, Q.bandI, Q.iZip, Q.itZ, Q.slD, Q.enOf, Q.tV, Q.tK, Q.t2, Q.t1, Q.tB, Q.cI, Q.cIp, Q.addI, Q.subI, Q.mulI, Q.fdivI, Q.modI, Q.powI, Q.ltI, Q.leI, Q.gtI, Q.geI, Q.negI, Q.vAnd, Q.vOr, Q.vNot, Q.qAnd, Q.qOr, Q.qNot, Q.qIf, Q.chI, Q.tTupQ, Q.dNil, Q.dCons, Q.tLstQ, Q.tFz, Q.tCA, Q.lenD, Q.tupD, Q.isD, Q.isInt, Q.isBool, Q.isTup, Q.isStr, Q.isLst, Q.tLenN, Q.tIxN, Q.setQ, Q.aNil, Q.aD, Q.aK, Q.tCallQ, Q.tCallKQ, Q.pick, Q.sNil, Q.sSeq, Q.sRet, Q.sRetN, Q.sExpr, Q.sIf, Q.sSet, Q.sSetL, Q.sAsg, Q.sFor, Q.sPar2, Q.sPar3, Q.pNil, Q.pD, Q.pO, Q.pDn, Q.gN, Q.gT, Q.gsNil, Q.gsCons, Q.iQ, Q.itD, Q.iEn, Q.itE, Q.rg1, Q.rg2, Q.oNone, Q.oSome, Q.tSlQ, Q.revD, Q.tOwnM, Q.appC, Q.popC, Q.extC, Q.ownL, Q.tRepL, Q.repC, Q.sSetIx, Q.ixOwn, Q.tLcQ, Q.noOwn, Q.rstQ, Q.wipeQ, Q.sDn, Q.sSetD, Q.tDgetN, Q.dOwn, Q.tTupRg, Q.sNever, Q.isB, Q.listD, Q.listC, Q.reprD, Q.Sl.isOwn, List.map_cons, List.map_nil, List.replicate_succ, List.replicate_zero, List.cons_append, List.nil_append, List.append_nil, List.getElem?_cons_zero, List.getElem?_cons_succ, List.set_cons_zero, List.set_cons_succ, List.getD_cons_zero, List.getD_cons_succ, List.filterMap_cons, List.filterMap_nil, List.all_cons, List.all_nil, Bool.and_true, Bool.true_and, Bool.not_true, Bool.not_false, Bool.not_eq_true, Bool.false_eq_true, Bool.and_self, if_true, if_false, true_and, and_true, ↓reduceIte] using h
def sp_is_between : PSpec := fun as R => ∃ i a b : Int, as = [.d (.int i), .d (.int a), .d (.int b)] ∧ R (.bool (decide (a ≤ i) && decide (i ≤ b)))
theorem len_is_between : ∀ as R, sp_is_between as R → as.length = 3 := by rintro as R ⟨i, a, b, rfl, _⟩; rfl
theorem rd_is_between : ∀ as R, sp_is_between as R → t_is_between sp_is_integer { nx := fun _ => R .none, rt := R } (enOf as 0) := by
  rintro as R ⟨i, a, b, rfl, h⟩
  simp only [t_is_between, Q.addF, Q.mulF, Q.bandI, Q.iZip, Q.itZ, Q.slD, Q.enOf, Q.tV, Q.tK, Q.t2, Q.t1, Q.tB, Q.cI, Q.cIp, Q.addI, Q.subI, Q.mulI, Q.fdivI, Q.modI, Q.powI, Q.ltI, Q.leI, Q.gtI, Q.geI, Q.negI, Q.vAnd, Q.vOr, Q.vNot, Q.qAnd, Q.qOr, Q.qNot, Q.qIf, Q.chI, Q.tTupQ, Q.dNil, Q.dCons, Q.tLstQ, Q.tFz, Q.tCA, Q.lenD, Q.tupD, Q.isD, Q.isInt, Q.isBool, Q.isTup, Q.isStr, Q.isLst, Q.tLenN, Q.tIxN, Q.setQ, Q.aNil, Q.aD, Q.aK, Q.tCallQ, Q.tCallKQ, Q.pick, Q.sNil, Q.sSeq, Q.sRet, Q.sRetN, Q.sExpr, Q.sIf, Q.sSet, Q.sSetL, Q.sAsg, Q.sFor, Q.sPar2, Q.sPar3, Q.pNil, Q.pD, Q.pO, Q.pDn, Q.gN, Q.gT, Q.gsNil, Q.gsCons, Q.iQ, Q.itD, Q.iEn, Q.itE, Q.rg1, Q.rg2, Q.oNone, Q.oSome, Q.tSlQ, Q.revD, Q.tOwnM, Q.appC, Q.popC, Q.extC, Q.ownL, Q.tRepL, Q.repC, Q.sSetIx, Q.ixOwn, Q.tLcQ, Q.noOwn, Q.rstQ, Q.wipeQ, Q.sDn, Q.sSetD, Q.tDgetN, Q.dOwn, Q.tTupRg, Q.sNever, Q.isB, Q.listD, Q.listC, Q.reprD, Q.Sl.isOwn, List.map_cons, List.map_nil, List.replicate_succ, List.replicate_zero, List.cons_append, List.nil_append, List.append_nil, List.getElem?_cons_zero, List.getElem?_cons_succ, List.set_cons_zero, List.set_cons_succ, List.getD_cons_zero, List.getD_cons_succ, List.filterMap_cons, List.filterMap_nil, List.all_cons, List.all_nil, Bool.and_true, Bool.true_and, Bool.not_true, Bool.not_false, Bool.not_eq_true, Bool.false_eq_true, Bool.and_self, if_true, if_false, true_and, and_true, ↓reduceIte]
  refine ⟨i, rfl, ?_⟩
  simp only [Q.addF, Q.mulF, Q.bandI, Q.iZip, Q.itZ, Q.slD, Q.enOf, Q.tV, Q.tK, Q.t2, Q.t1, Q.tB, Q.cI, Q.cIp, Q.addI, Q.subI, Q.mulI, Q.fdivI, Q.modI, Q.powI, Q.ltI, Q.leI, Q.gtI, Q.geI, Q.negI, Q.vAnd, Q.vOr, Q.vNot, Q.qAnd, Q.qOr, Q.qNot, Q.qIf, Q.chI, Q.tTupQ, Q.dNil, Q.dCons, Q.tLstQ, Q.tFz, Q.tCA, Q.lenD, Q.tupD, Q.isD, Q.isInt, Q.isBool, Q.isTup, Q.isStr, Q.isLst, Q.tLenN, Q.tIxN, Q.setQ, Q.aNil, Q.aD, Q.aK, Q.tCallQ, Q.tCallKQ, Q.pick, Q.sNil, Q.sSeq, Q.sRet, Q.sRetN, Q.sExpr, Q.sIf, Q.sSet, Q.sSetL, Q.sAsg, Q.sFor, Q.sPar2, Q.sPar3, Q.pNil, Q.pD, Q.pO, Q.pDn, Q.gN, Q.gT, Q.gsNil, Q.gsCons, Q.iQ, Q.itD, Q.iEn, Q.itE, Q.rg1, Q.rg2, Q.oNone, Q.oSome, Q.tSlQ, Q.revD, Q.tOwnM, Q.appC, Q.popC, Q.extC, Q.ownL, Q.tRepL, Q.repC, Q.sSetIx, Q.ixOwn, Q.tLcQ, Q.noOwn, Q.rstQ, Q.wipeQ, Q.sDn, Q.sSetD, Q.tDgetN, Q.dOwn, Q.tTupRg, Q.sNever, Q.isB, Q.listD, Q.listC, Q.reprD, Q.Sl.isOwn, List.map_cons, List.map_nil, List.replicate_succ, List.replicate_zero, List.cons_append, List.nil_append, List.append_nil, List.getElem?_cons_zero, List.getElem?_cons_succ, List.set_cons_zero, List.set_cons_succ, List.getD_cons_zero, List.getD_cons_succ, List.filterMap_cons, List.filterMap_nil, List.all_cons, List.all_nil, Bool.and_true, Bool.true_and, Bool.not_true, Bool.not_false, Bool.not_eq_true, Bool.false_eq_true, Bool.and_self, if_true, if_false, true_and, and_true, ↓reduceIte]
  exact and_b h
theorem pl_in {b : Bool} {R : PyData → Prop} (h : R (.bool true)) : inD false (plD b) (.tuple [.str (Str.ofString "tray"), .str (Str.ofString "pile")]) R := by
  unfold inD
  refine ⟨rfl, rfl, ?_⟩
  have e : ∀ x y : PyData, PyData.eqv (.str (Str.ofString "tray")) (plD b) = !b := fun _ _ => by cases b <;> (simp only [plD, PyData.eqv]; decide +kernel)
  have e2 : PyData.eqv (.str (Str.ofString "pile")) (plD b) = b := by cases b <;> (simp only [plD, PyData.eqv]; decide +kernel)
  simp only [List.any_cons, List.any_nil, e .none .none, e2, Bool.or_false]
  cases b <;> exact h
def sp_is_desk_value : PSpec := fun as R => ∃ d : Desk, as = [.d (deskD d)] ∧ 1 ≤ d.length ∧ d.length ≤ 6 ∧ R (.bool true)
theorem len_is_desk_value : ∀ as R, sp_is_desk_value as R → as.length = 1 := by rintro as R ⟨i, rfl, _⟩; rfl
theorem rd_is_desk_value : ∀ as R, sp_is_desk_value as R → t_is_desk_value { nx := fun _ => R .none, rt := R } (enOf as 1) := by
  rintro as R ⟨d, rfl, h1, h2, h⟩
  have e1 : decide ((1 : Int) ≤ ((d.length : Nat) : Int)) = true := by simp; omega
  have e2 : decide (((d.length : Nat) : Int) ≤ 6) = true := by simp; omega
  simp only [t_is_desk_value, deskD, Q.addF, Q.mulF, Q.bandI, Q.iZip, Q.itZ, Q.slD, Q.enOf, Q.tV, Q.tK, Q.t2, Q.t1, Q.tB, Q.cI, Q.cIp, Q.addI, Q.subI, Q.mulI, Q.fdivI, Q.modI, Q.powI, Q.ltI, Q.leI, Q.gtI, Q.geI, Q.negI, Q.vAnd, Q.vOr, Q.vNot, Q.qAnd, Q.qOr, Q.qNot, Q.qIf, Q.chI, Q.tTupQ, Q.dNil, Q.dCons, Q.tLstQ, Q.tFz, Q.tCA, Q.lenD, Q.tupD, Q.isD, Q.isInt, Q.isBool, Q.isTup, Q.isStr, Q.isLst, Q.tLenN, Q.tIxN, Q.setQ, Q.aNil, Q.aD, Q.aK, Q.tCallQ, Q.tCallKQ, Q.pick, Q.sNil, Q.sSeq, Q.sRet, Q.sRetN, Q.sExpr, Q.sIf, Q.sSet, Q.sSetL, Q.sAsg, Q.sFor, Q.sPar2, Q.sPar3, Q.pNil, Q.pD, Q.pO, Q.pDn, Q.gN, Q.gT, Q.gsNil, Q.gsCons, Q.iQ, Q.itD, Q.iEn, Q.itE, Q.rg1, Q.rg2, Q.oNone, Q.oSome, Q.tSlQ, Q.revD, Q.tOwnM, Q.appC, Q.popC, Q.extC, Q.ownL, Q.tRepL, Q.repC, Q.sSetIx, Q.ixOwn, Q.tLcQ, Q.noOwn, Q.rstQ, Q.wipeQ, Q.sDn, Q.sSetD, Q.tDgetN, Q.dOwn, Q.tTupRg, Q.sNever, Q.isB, Q.listD, Q.listC, Q.reprD, Q.Sl.isOwn, List.map_cons, List.map_nil, List.replicate_succ, List.replicate_zero, List.cons_append, List.nil_append, List.append_nil, List.getElem?_cons_zero, List.getElem?_cons_succ, List.set_cons_zero, List.set_cons_succ, List.getD_cons_zero, List.getD_cons_succ, List.filterMap_cons, List.filterMap_nil, List.all_cons, List.all_nil, Bool.and_true, Bool.true_and, Bool.not_true, Bool.not_false, Bool.not_eq_true, Bool.false_eq_true, Bool.and_self, if_true, if_false, true_and, and_true, ↓reduceIte, eqD, neD, sh_int, eqv_int, eqv_strs, sDraw, List.length_cons, List.length_nil, Nat.zero_add, Nat.reduceAdd, decide_true, eq_self, List.length_map, e1, e2]
  refine comp_map (fun _ => .bool true) (fun x hx Rk hk => ?_) ?_
  · obtain ⟨b, hb, rfl⟩ := List.mem_map.mp hx
    simp only [Q.addF, Q.mulF, Q.bandI, Q.iZip, Q.itZ, Q.slD, Q.enOf, Q.tV, Q.tK, Q.t2, Q.t1, Q.tB, Q.cI, Q.cIp, Q.addI, Q.subI, Q.mulI, Q.fdivI, Q.modI, Q.powI, Q.ltI, Q.leI, Q.gtI, Q.geI, Q.negI, Q.vAnd, Q.vOr, Q.vNot, Q.qAnd, Q.qOr, Q.qNot, Q.qIf, Q.chI, Q.tTupQ, Q.dNil, Q.dCons, Q.tLstQ, Q.tFz, Q.tCA, Q.lenD, Q.tupD, Q.isD, Q.isInt, Q.isBool, Q.isTup, Q.isStr, Q.isLst, Q.tLenN, Q.tIxN, Q.setQ, Q.aNil, Q.aD, Q.aK, Q.tCallQ, Q.tCallKQ, Q.pick, Q.sNil, Q.sSeq, Q.sRet, Q.sRetN, Q.sExpr, Q.sIf, Q.sSet, Q.sSetL, Q.sAsg, Q.sFor, Q.sPar2, Q.sPar3, Q.pNil, Q.pD, Q.pO, Q.pDn, Q.gN, Q.gT, Q.gsNil, Q.gsCons, Q.iQ, Q.itD, Q.iEn, Q.itE, Q.rg1, Q.rg2, Q.oNone, Q.oSome, Q.tSlQ, Q.revD, Q.tOwnM, Q.appC, Q.popC, Q.extC, Q.ownL, Q.tRepL, Q.repC, Q.sSetIx, Q.ixOwn, Q.tLcQ, Q.noOwn, Q.rstQ, Q.wipeQ, Q.sDn, Q.sSetD, Q.tDgetN, Q.dOwn, Q.tTupRg, Q.sNever, Q.isB, Q.listD, Q.listC, Q.reprD, Q.Sl.isOwn, List.map_cons, List.map_nil, List.replicate_succ, List.replicate_zero, List.cons_append, List.nil_append, List.append_nil, List.getElem?_cons_zero, List.getElem?_cons_succ, List.set_cons_zero, List.set_cons_succ, List.getD_cons_zero, List.getD_cons_succ, List.filterMap_cons, List.filterMap_nil, List.all_cons, List.all_nil, Bool.and_true, Bool.true_and, Bool.not_true, Bool.not_false, Bool.not_eq_true, Bool.false_eq_true, Bool.and_self, if_true, if_false, true_and, and_true, ↓reduceIte, eqD, neD, sh_int, eqv_int, eqv_strs, sDraw, List.length_cons, List.length_nil, Nat.zero_add, Nat.reduceAdd, decide_true, eq_self]
    exact ite_t2 (b := Q.isStr (plD b)) rfl (pl_in (hk _ (by simp only [Q.addF, Q.mulF, Q.bandI, Q.iZip, Q.itZ, Q.slD, Q.enOf, Q.tV, Q.tK, Q.t2, Q.t1, Q.tB, Q.cI, Q.cIp, Q.addI, Q.subI, Q.mulI, Q.fdivI, Q.modI, Q.powI, Q.ltI, Q.leI, Q.gtI, Q.geI, Q.negI, Q.vAnd, Q.vOr, Q.vNot, Q.qAnd, Q.qOr, Q.qNot, Q.qIf, Q.chI, Q.tTupQ, Q.dNil, Q.dCons, Q.tLstQ, Q.tFz, Q.tCA, Q.lenD, Q.tupD, Q.isD, Q.isInt, Q.isBool, Q.isTup, Q.isStr, Q.isLst, Q.tLenN, Q.tIxN, Q.setQ, Q.aNil, Q.aD, Q.aK, Q.tCallQ, Q.tCallKQ, Q.pick, Q.sNil, Q.sSeq, Q.sRet, Q.sRetN, Q.sExpr, Q.sIf, Q.sSet, Q.sSetL, Q.sAsg, Q.sFor, Q.sPar2, Q.sPar3, Q.pNil, Q.pD, Q.pO, Q.pDn, Q.gN, Q.gT, Q.gsNil, Q.gsCons, Q.iQ, Q.itD, Q.iEn, Q.itE, Q.rg1, Q.rg2, Q.oNone, Q.oSome, Q.tSlQ, Q.revD, Q.tOwnM, Q.appC, Q.popC, Q.extC, Q.ownL, Q.tRepL, Q.repC, Q.sSetIx, Q.ixOwn, Q.tLcQ, Q.noOwn, Q.rstQ, Q.wipeQ, Q.sDn, Q.sSetD, Q.tDgetN, Q.dOwn, Q.tTupRg, Q.sNever, Q.isB, Q.listD, Q.listC, Q.reprD, Q.Sl.isOwn, List.map_cons, List.map_nil, List.replicate_succ, List.replicate_zero, List.cons_append, List.nil_append, List.append_nil, List.getElem?_cons_zero, List.getElem?_cons_succ, List.set_cons_zero, List.set_cons_succ, List.getD_cons_zero, List.getD_cons_succ, List.filterMap_cons, List.filterMap_nil, List.all_cons, List.all_nil, Bool.and_true, Bool.true_and, Bool.not_true, Bool.not_false, Bool.not_eq_true, Bool.false_eq_true, Bool.and_self, if_true, if_false, true_and, and_true, ↓reduceIte, eqD, neD, sh_int, eqv_int, eqv_strs, sDraw, List.length_cons, List.length_nil, Nat.zero_add, Nat.reduceAdd, decide_true, eq_self])))
  · simp only [Q.addF, Q.mulF, Q.bandI, Q.iZip, Q.itZ, Q.slD, Q.enOf, Q.tV, Q.tK, Q.t2, Q.t1, Q.tB, Q.cI, Q.cIp, Q.addI, Q.subI, Q.mulI, Q.fdivI, Q.modI, Q.powI, Q.ltI, Q.leI, Q.gtI, Q.geI, Q.negI, Q.vAnd, Q.vOr, Q.vNot, Q.qAnd, Q.qOr, Q.qNot, Q.qIf, Q.chI, Q.tTupQ, Q.dNil, Q.dCons, Q.tLstQ, Q.tFz, Q.tCA, Q.lenD, Q.tupD, Q.isD, Q.isInt, Q.isBool, Q.isTup, Q.isStr, Q.isLst, Q.tLenN, Q.tIxN, Q.setQ, Q.aNil, Q.aD, Q.aK, Q.tCallQ, Q.tCallKQ, Q.pick, Q.sNil, Q.sSeq, Q.sRet, Q.sRetN, Q.sExpr, Q.sIf, Q.sSet, Q.sSetL, Q.sAsg, Q.sFor, Q.sPar2, Q.sPar3, Q.pNil, Q.pD, Q.pO, Q.pDn, Q.gN, Q.gT, Q.gsNil, Q.gsCons, Q.iQ, Q.itD, Q.iEn, Q.itE, Q.rg1, Q.rg2, Q.oNone, Q.oSome, Q.tSlQ, Q.revD, Q.tOwnM, Q.appC, Q.popC, Q.extC, Q.ownL, Q.tRepL, Q.repC, Q.sSetIx, Q.ixOwn, Q.tLcQ, Q.noOwn, Q.rstQ, Q.wipeQ, Q.sDn, Q.sSetD, Q.tDgetN, Q.dOwn, Q.tTupRg, Q.sNever, Q.isB, Q.listD, Q.listC, Q.reprD, Q.Sl.isOwn, List.map_cons, List.map_nil, List.replicate_succ, List.replicate_zero, List.cons_append, List.nil_append, List.append_nil, List.getElem?_cons_zero, List.getElem?_cons_succ, List.set_cons_zero, List.set_cons_succ, List.getD_cons_zero, List.getD_cons_succ, List.filterMap_cons, List.filterMap_nil, List.all_cons, List.all_nil, Bool.and_true, Bool.true_and, Bool.not_true, Bool.not_false, Bool.not_eq_true, Bool.false_eq_true, Bool.and_self, if_true, if_false, true_and, and_true, ↓reduceIte, eqD, neD, sh_int, eqv_int, eqv_strs, sDraw, List.length_cons, List.length_nil, Nat.zero_add, Nat.reduceAdd, decide_true, eq_self, allD, List.map_map]
    exact tr_ex h
def sp_sign_of_place : PSpec := fun as R => ∃ b : Bool, as = [.d (plD b)] ∧ R (.int (if b = true then -1 else 1))
theorem len_sign_of_place : ∀ as R, sp_sign_of_place as R → as.length = 1 := by rintro as R ⟨i, rfl, _⟩; rfl
theorem rd_sign_of_place : ∀ as R, sp_sign_of_place as R → t_sign_of_place { nx := fun _ => R .none, rt := R } (enOf as 0) := by
  rintro as R ⟨b, rfl, h⟩
  simp only [t_sign_of_place, Q.addF, Q.mulF, Q.bandI, Q.iZip, Q.itZ, Q.slD, Q.enOf, Q.tV, Q.tK, Q.t2, Q.t1, Q.tB, Q.cI, Q.cIp, Q.addI, Q.subI, Q.mulI, Q.fdivI, Q.modI, Q.powI, Q.ltI, Q.leI, Q.gtI, Q.geI, Q.negI, Q.vAnd, Q.vOr, Q.vNot, Q.qAnd, Q.qOr, Q.qNot, Q.qIf, Q.chI, Q.tTupQ, Q.dNil, Q.dCons, Q.tLstQ, Q.tFz, Q.tCA, Q.lenD, Q.tupD, Q.isD, Q.isInt, Q.isBool, Q.isTup, Q.isStr, Q.isLst, Q.tLenN, Q.tIxN, Q.setQ, Q.aNil, Q.aD, Q.aK, Q.tCallQ, Q.tCallKQ, Q.pick, Q.sNil, Q.sSeq, Q.sRet, Q.sRetN, Q.sExpr, Q.sIf, Q.sSet, Q.sSetL, Q.sAsg, Q.sFor, Q.sPar2, Q.sPar3, Q.pNil, Q.pD, Q.pO, Q.pDn, Q.gN, Q.gT, Q.gsNil, Q.gsCons, Q.iQ, Q.itD, Q.iEn, Q.itE, Q.rg1, Q.rg2, Q.oNone, Q.oSome, Q.tSlQ, Q.revD, Q.tOwnM, Q.appC, Q.popC, Q.extC, Q.ownL, Q.tRepL, Q.repC, Q.sSetIx, Q.ixOwn, Q.tLcQ, Q.noOwn, Q.rstQ, Q.wipeQ, Q.sDn, Q.sSetD, Q.tDgetN, Q.dOwn, Q.tTupRg, Q.sNever, Q.isB, Q.listD, Q.listC, Q.reprD, Q.Sl.isOwn, List.map_cons, List.map_nil, List.replicate_succ, List.replicate_zero, List.cons_append, List.nil_append, List.append_nil, List.getElem?_cons_zero, List.getElem?_cons_succ, List.set_cons_zero, List.set_cons_succ, List.getD_cons_zero, List.getD_cons_succ, List.filterMap_cons, List.filterMap_nil, List.all_cons, List.all_nil, Bool.and_true, Bool.true_and, Bool.not_true, Bool.not_false, Bool.not_eq_true, Bool.false_eq_true, Bool.and_self, if_true, if_false, true_and, and_true, ↓reduceIte, eqD, neD, sh_int, eqv_int, eqv_strs, sDraw, List.length_cons, List.length_nil, Nat.zero_add, Nat.reduceAdd, decide_true, eq_self, sh_pl, sh_tray, eqv_tray]
  cases b <;> simpa using h
def sp_are_desks_value : PSpec := fun as R => ∃ ds : List Desk, as = [.d (desksD ds)] ∧ DsOk ds ∧ ds.length ≤ 12 ∧ R (.bool true)
theorem len_are_desks_value : ∀ as R, sp_are_desks_value as R → as.length = 1 := by rintro as R ⟨i, rfl, _⟩; rfl
theorem rd_are_desks_value : ∀ as R, sp_are_desks_value as R → t_are_desks_value sp_is_desk_value { nx := fun _ => R .none, rt := R } (enOf as 1) := by
  rintro as R ⟨ds, rfl, h1, h2, h⟩
  have e2 : decide (((ds.length : Nat) : Int) ≤ 12) = true := by simp; omega
  simp only [t_are_desks_value, desksD, Q.addF, Q.mulF, Q.bandI, Q.iZip, Q.itZ, Q.slD, Q.enOf, Q.tV, Q.tK, Q.t2, Q.t1, Q.tB, Q.cI, Q.cIp, Q.addI, Q.subI, Q.mulI, Q.fdivI, Q.modI, Q.powI, Q.ltI, Q.leI, Q.gtI, Q.geI, Q.negI, Q.vAnd, Q.vOr, Q.vNot, Q.qAnd, Q.qOr, Q.qNot, Q.qIf, Q.chI, Q.tTupQ, Q.dNil, Q.dCons, Q.tLstQ, Q.tFz, Q.tCA, Q.lenD, Q.tupD, Q.isD, Q.isInt, Q.isBool, Q.isTup, Q.isStr, Q.isLst, Q.tLenN, Q.tIxN, Q.setQ, Q.aNil, Q.aD, Q.aK, Q.tCallQ, Q.tCallKQ, Q.pick, Q.sNil, Q.sSeq, Q.sRet, Q.sRetN, Q.sExpr, Q.sIf, Q.sSet, Q.sSetL, Q.sAsg, Q.sFor, Q.sPar2, Q.sPar3, Q.pNil, Q.pD, Q.pO, Q.pDn, Q.gN, Q.gT, Q.gsNil, Q.gsCons, Q.iQ, Q.itD, Q.iEn, Q.itE, Q.rg1, Q.rg2, Q.oNone, Q.oSome, Q.tSlQ, Q.revD, Q.tOwnM, Q.appC, Q.popC, Q.extC, Q.ownL, Q.tRepL, Q.repC, Q.sSetIx, Q.ixOwn, Q.tLcQ, Q.noOwn, Q.rstQ, Q.wipeQ, Q.sDn, Q.sSetD, Q.tDgetN, Q.dOwn, Q.tTupRg, Q.sNever, Q.isB, Q.listD, Q.listC, Q.reprD, Q.Sl.isOwn, List.map_cons, List.map_nil, List.replicate_succ, List.replicate_zero, List.cons_append, List.nil_append, List.append_nil, List.getElem?_cons_zero, List.getElem?_cons_succ, List.set_cons_zero, List.set_cons_succ, List.getD_cons_zero, List.getD_cons_succ, List.filterMap_cons, List.filterMap_nil, List.all_cons, List.all_nil, Bool.and_true, Bool.true_and, Bool.not_true, Bool.not_false, Bool.not_eq_true, Bool.false_eq_true, Bool.and_self, if_true, if_false, true_and, and_true, ↓reduceIte, eqD, neD, sh_int, eqv_int, eqv_strs, sDraw, List.length_cons, List.length_nil, Nat.zero_add, Nat.reduceAdd, decide_true, eq_self, List.length_map, e2]
  refine comp_map (fun _ => .bool true) (fun x hx Rk hk => ?_) ?_
  · obtain ⟨d, hd, rfl⟩ := List.mem_map.mp hx
    simp only [Q.addF, Q.mulF, Q.bandI, Q.iZip, Q.itZ, Q.slD, Q.enOf, Q.tV, Q.tK, Q.t2, Q.t1, Q.tB, Q.cI, Q.cIp, Q.addI, Q.subI, Q.mulI, Q.fdivI, Q.modI, Q.powI, Q.ltI, Q.leI, Q.gtI, Q.geI, Q.negI, Q.vAnd, Q.vOr, Q.vNot, Q.qAnd, Q.qOr, Q.qNot, Q.qIf, Q.chI, Q.tTupQ, Q.dNil, Q.dCons, Q.tLstQ, Q.tFz, Q.tCA, Q.lenD, Q.tupD, Q.isD, Q.isInt, Q.isBool, Q.isTup, Q.isStr, Q.isLst, Q.tLenN, Q.tIxN, Q.setQ, Q.aNil, Q.aD, Q.aK, Q.tCallQ, Q.tCallKQ, Q.pick, Q.sNil, Q.sSeq, Q.sRet, Q.sRetN, Q.sExpr, Q.sIf, Q.sSet, Q.sSetL, Q.sAsg, Q.sFor, Q.sPar2, Q.sPar3, Q.pNil, Q.pD, Q.pO, Q.pDn, Q.gN, Q.gT, Q.gsNil, Q.gsCons, Q.iQ, Q.itD, Q.iEn, Q.itE, Q.rg1, Q.rg2, Q.oNone, Q.oSome, Q.tSlQ, Q.revD, Q.tOwnM, Q.appC, Q.popC, Q.extC, Q.ownL, Q.tRepL, Q.repC, Q.sSetIx, Q.ixOwn, Q.tLcQ, Q.noOwn, Q.rstQ, Q.wipeQ, Q.sDn, Q.sSetD, Q.tDgetN, Q.dOwn, Q.tTupRg, Q.sNever, Q.isB, Q.listD, Q.listC, Q.reprD, Q.Sl.isOwn, List.map_cons, List.map_nil, List.replicate_succ, List.replicate_zero, List.cons_append, List.nil_append, List.append_nil, List.getElem?_cons_zero, List.getElem?_cons_succ, List.set_cons_zero, List.set_cons_succ, List.getD_cons_zero, List.getD_cons_succ, List.filterMap_cons, List.filterMap_nil, List.all_cons, List.all_nil, Bool.and_true, Bool.true_and, Bool.not_true, Bool.not_false, Bool.not_eq_true, Bool.false_eq_true, Bool.and_self, if_true, if_false, true_and, and_true, ↓reduceIte, eqD, neD, sh_int, eqv_int, eqv_strs, sDraw, List.length_cons, List.length_nil, Nat.zero_add, Nat.reduceAdd, decide_true, eq_self]
    exact ⟨d, rfl, (h1 d hd).1, (h1 d hd).2, hk _ (by simp only [Q.addF, Q.mulF, Q.bandI, Q.iZip, Q.itZ, Q.slD, Q.enOf, Q.tV, Q.tK, Q.t2, Q.t1, Q.tB, Q.cI, Q.cIp, Q.addI, Q.subI, Q.mulI, Q.fdivI, Q.modI, Q.powI, Q.ltI, Q.leI, Q.gtI, Q.geI, Q.negI, Q.vAnd, Q.vOr, Q.vNot, Q.qAnd, Q.qOr, Q.qNot, Q.qIf, Q.chI, Q.tTupQ, Q.dNil, Q.dCons, Q.tLstQ, Q.tFz, Q.tCA, Q.lenD, Q.tupD, Q.isD, Q.isInt, Q.isBool, Q.isTup, Q.isStr, Q.isLst, Q.tLenN, Q.tIxN, Q.setQ, Q.aNil, Q.aD, Q.aK, Q.tCallQ, Q.tCallKQ, Q.pick, Q.sNil, Q.sSeq, Q.sRet, Q.sRetN, Q.sExpr, Q.sIf, Q.sSet, Q.sSetL, Q.sAsg, Q.sFor, Q.sPar2, Q.sPar3, Q.pNil, Q.pD, Q.pO, Q.pDn, Q.gN, Q.gT, Q.gsNil, Q.gsCons, Q.iQ, Q.itD, Q.iEn, Q.itE, Q.rg1, Q.rg2, Q.oNone, Q.oSome, Q.tSlQ, Q.revD, Q.tOwnM, Q.appC, Q.popC, Q.extC, Q.ownL, Q.tRepL, Q.repC, Q.sSetIx, Q.ixOwn, Q.tLcQ, Q.noOwn, Q.rstQ, Q.wipeQ, Q.sDn, Q.sSetD, Q.tDgetN, Q.dOwn, Q.tTupRg, Q.sNever, Q.isB, Q.listD, Q.listC, Q.reprD, Q.Sl.isOwn, List.map_cons, List.map_nil, List.replicate_succ, List.replicate_zero, List.cons_append, List.nil_append, List.append_nil, List.getElem?_cons_zero, List.getElem?_cons_succ, List.set_cons_zero, List.set_cons_succ, List.getD_cons_zero, List.getD_cons_succ, List.filterMap_cons, List.filterMap_nil, List.all_cons, List.all_nil, Bool.and_true, Bool.true_and, Bool.not_true, Bool.not_false, Bool.not_eq_true, Bool.false_eq_true, Bool.and_self, if_true, if_false, true_and, and_true, ↓reduceIte, eqD, neD, sh_int, eqv_int, eqv_strs, sDraw, List.length_cons, List.length_nil, Nat.zero_add, Nat.reduceAdd, decide_true, eq_self])⟩
  · simp only [Q.addF, Q.mulF, Q.bandI, Q.iZip, Q.itZ, Q.slD, Q.enOf, Q.tV, Q.tK, Q.t2, Q.t1, Q.tB, Q.cI, Q.cIp, Q.addI, Q.subI, Q.mulI, Q.fdivI, Q.modI, Q.powI, Q.ltI, Q.leI, Q.gtI, Q.geI, Q.negI, Q.vAnd, Q.vOr, Q.vNot, Q.qAnd, Q.qOr, Q.qNot, Q.qIf, Q.chI, Q.tTupQ, Q.dNil, Q.dCons, Q.tLstQ, Q.tFz, Q.tCA, Q.lenD, Q.tupD, Q.isD, Q.isInt, Q.isBool, Q.isTup, Q.isStr, Q.isLst, Q.tLenN, Q.tIxN, Q.setQ, Q.aNil, Q.aD, Q.aK, Q.tCallQ, Q.tCallKQ, Q.pick, Q.sNil, Q.sSeq, Q.sRet, Q.sRetN, Q.sExpr, Q.sIf, Q.sSet, Q.sSetL, Q.sAsg, Q.sFor, Q.sPar2, Q.sPar3, Q.pNil, Q.pD, Q.pO, Q.pDn, Q.gN, Q.gT, Q.gsNil, Q.gsCons, Q.iQ, Q.itD, Q.iEn, Q.itE, Q.rg1, Q.rg2, Q.oNone, Q.oSome, Q.tSlQ, Q.revD, Q.tOwnM, Q.appC, Q.popC, Q.extC, Q.ownL, Q.tRepL, Q.repC, Q.sSetIx, Q.ixOwn, Q.tLcQ, Q.noOwn, Q.rstQ, Q.wipeQ, Q.sDn, Q.sSetD, Q.tDgetN, Q.dOwn, Q.tTupRg, Q.sNever, Q.isB, Q.listD, Q.listC, Q.reprD, Q.Sl.isOwn, List.map_cons, List.map_nil, List.replicate_succ, List.replicate_zero, List.cons_append, List.nil_append, List.append_nil, List.getElem?_cons_zero, List.getElem?_cons_succ, List.set_cons_zero, List.set_cons_succ, List.getD_cons_zero, List.getD_cons_succ, List.filterMap_cons, List.filterMap_nil, List.all_cons, List.all_nil, Bool.and_true, Bool.true_and, Bool.not_true, Bool.not_false, Bool.not_eq_true, Bool.false_eq_true, Bool.and_self, if_true, if_false, true_and, and_true, ↓reduceIte, eqD, neD, sh_int, eqv_int, eqv_strs, sDraw, List.length_cons, List.length_nil, Nat.zero_add, Nat.reduceAdd, decide_true, eq_self, allD, List.map_map]
    exact tr_ex h
theorem zip_c {d : Desk} {ds : List Desk} {p : Int} {c : List Int} : zipD ((d :: ds).map deskD) ((p :: c).map .int) = .tuple [deskD d, .int p] :: zipD (ds.map deskD) (c.map .int) := rfl
theorem zip_mem : ∀ {ds : List Desk} {c : List Int} {x : PyData}, OkR ds c → x ∈ zipD (ds.map deskD) (c.map .int) → ∃ (d : Desk) (p : Int), x = .tuple [deskD d, .int p] ∧ 0 ≤ p ∧ p < d.length
  | [], [], _, _, h => by simp [zipD] at h
  | d :: ds, p :: c, x, ok, h => by
    rw [zip_c, List.mem_cons] at h
    rcases h with rfl | h
    · exact ⟨d, p, rfl, ok.1.1, ok.1.2⟩
    · exact zip_mem ok.2 h
  | [], _ :: _, _, ok, _ => ok.elim
  | _ :: _, [], _, ok, _ => ok.elim
def sp_is_code_value : PSpec := fun as R => ∃ (ds : List Desk) (c : List Int), as = [.d (desksD ds), .d (tupI c)] ∧ OkR ds c ∧ ds.length ≤ 12 ∧ R (.bool true)
theorem len_is_code_value : ∀ as R, sp_is_code_value as R → as.length = 2 := by rintro as R ⟨i, c, rfl, _⟩; rfl
theorem rd_is_code_value : ∀ as R, sp_is_code_value as R → t_is_code_value sp_is_between { nx := fun _ => R .none, rt := R } (enOf as 2) := by
  rintro as R ⟨ds, c, rfl, h1, h2, h⟩
  simp only [t_is_code_value, desksD, tupI, Q.addF, Q.mulF, Q.bandI, Q.iZip, Q.itZ, Q.slD, Q.enOf, Q.tV, Q.tK, Q.t2, Q.t1, Q.tB, Q.cI, Q.cIp, Q.addI, Q.subI, Q.mulI, Q.fdivI, Q.modI, Q.powI, Q.ltI, Q.leI, Q.gtI, Q.geI, Q.negI, Q.vAnd, Q.vOr, Q.vNot, Q.qAnd, Q.qOr, Q.qNot, Q.qIf, Q.chI, Q.tTupQ, Q.dNil, Q.dCons, Q.tLstQ, Q.tFz, Q.tCA, Q.lenD, Q.tupD, Q.isD, Q.isInt, Q.isBool, Q.isTup, Q.isStr, Q.isLst, Q.tLenN, Q.tIxN, Q.setQ, Q.aNil, Q.aD, Q.aK, Q.tCallQ, Q.tCallKQ, Q.pick, Q.sNil, Q.sSeq, Q.sRet, Q.sRetN, Q.sExpr, Q.sIf, Q.sSet, Q.sSetL, Q.sAsg, Q.sFor, Q.sPar2, Q.sPar3, Q.pNil, Q.pD, Q.pO, Q.pDn, Q.gN, Q.gT, Q.gsNil, Q.gsCons, Q.iQ, Q.itD, Q.iEn, Q.itE, Q.rg1, Q.rg2, Q.oNone, Q.oSome, Q.tSlQ, Q.revD, Q.tOwnM, Q.appC, Q.popC, Q.extC, Q.ownL, Q.tRepL, Q.repC, Q.sSetIx, Q.ixOwn, Q.tLcQ, Q.noOwn, Q.rstQ, Q.wipeQ, Q.sDn, Q.sSetD, Q.tDgetN, Q.dOwn, Q.tTupRg, Q.sNever, Q.isB, Q.listD, Q.listC, Q.reprD, Q.Sl.isOwn, List.map_cons, List.map_nil, List.replicate_succ, List.replicate_zero, List.cons_append, List.nil_append, List.append_nil, List.getElem?_cons_zero, List.getElem?_cons_succ, List.set_cons_zero, List.set_cons_succ, List.getD_cons_zero, List.getD_cons_succ, List.filterMap_cons, List.filterMap_nil, List.all_cons, List.all_nil, Bool.and_true, Bool.true_and, Bool.not_true, Bool.not_false, Bool.not_eq_true, Bool.false_eq_true, Bool.and_self, if_true, if_false, true_and, and_true, ↓reduceIte, eqD, neD, sh_int, eqv_int, eqv_strs, sDraw, List.length_cons, List.length_nil, Nat.zero_add, Nat.reduceAdd, decide_true, eq_self, List.length_map, h1.length]
  refine ⟨by omega, ?_⟩
  refine comp_map (fun _ => .bool true) (fun x hx Rk hk => ?_) ?_
  · obtain ⟨d, p, rfl, q1, q2⟩ := zip_mem h1 hx
    simp only [deskD, Q.addF, Q.mulF, Q.bandI, Q.iZip, Q.itZ, Q.slD, Q.enOf, Q.tV, Q.tK, Q.t2, Q.t1, Q.tB, Q.cI, Q.cIp, Q.addI, Q.subI, Q.mulI, Q.fdivI, Q.modI, Q.powI, Q.ltI, Q.leI, Q.gtI, Q.geI, Q.negI, Q.vAnd, Q.vOr, Q.vNot, Q.qAnd, Q.qOr, Q.qNot, Q.qIf, Q.chI, Q.tTupQ, Q.dNil, Q.dCons, Q.tLstQ, Q.tFz, Q.tCA, Q.lenD, Q.tupD, Q.isD, Q.isInt, Q.isBool, Q.isTup, Q.isStr, Q.isLst, Q.tLenN, Q.tIxN, Q.setQ, Q.aNil, Q.aD, Q.aK, Q.tCallQ, Q.tCallKQ, Q.pick, Q.sNil, Q.sSeq, Q.sRet, Q.sRetN, Q.sExpr, Q.sIf, Q.sSet, Q.sSetL, Q.sAsg, Q.sFor, Q.sPar2, Q.sPar3, Q.pNil, Q.pD, Q.pO, Q.pDn, Q.gN, Q.gT, Q.gsNil, Q.gsCons, Q.iQ, Q.itD, Q.iEn, Q.itE, Q.rg1, Q.rg2, Q.oNone, Q.oSome, Q.tSlQ, Q.revD, Q.tOwnM, Q.appC, Q.popC, Q.extC, Q.ownL, Q.tRepL, Q.repC, Q.sSetIx, Q.ixOwn, Q.tLcQ, Q.noOwn, Q.rstQ, Q.wipeQ, Q.sDn, Q.sSetD, Q.tDgetN, Q.dOwn, Q.tTupRg, Q.sNever, Q.isB, Q.listD, Q.listC, Q.reprD, Q.Sl.isOwn, List.map_cons, List.map_nil, List.replicate_succ, List.replicate_zero, List.cons_append, List.nil_append, List.append_nil, List.getElem?_cons_zero, List.getElem?_cons_succ, List.set_cons_zero, List.set_cons_succ, List.getD_cons_zero, List.getD_cons_succ, List.filterMap_cons, List.filterMap_nil, List.all_cons, List.all_nil, Bool.and_true, Bool.true_and, Bool.not_true, Bool.not_false, Bool.not_eq_true, Bool.false_eq_true, Bool.and_self, if_true, if_false, true_and, and_true, ↓reduceIte, eqD, neD, sh_int, eqv_int, eqv_strs, sDraw, List.length_cons, List.length_nil, Nat.zero_add, Nat.reduceAdd, decide_true, eq_self, List.length_map]
    refine ⟨p, 0, _, rfl, ?_⟩
    have e1 : decide ((0 : Int) ≤ p) = true := by simp [q1]
    have e2 : decide (p ≤ ((d.length : Nat) : Int) - 1) = true := by simp; omega
    rw [e1, e2]
    exact hk _ (by simp only [Q.addF, Q.mulF, Q.bandI, Q.iZip, Q.itZ, Q.slD, Q.enOf, Q.tV, Q.tK, Q.t2, Q.t1, Q.tB, Q.cI, Q.cIp, Q.addI, Q.subI, Q.mulI, Q.fdivI, Q.modI, Q.powI, Q.ltI, Q.leI, Q.gtI, Q.geI, Q.negI, Q.vAnd, Q.vOr, Q.vNot, Q.qAnd, Q.qOr, Q.qNot, Q.qIf, Q.chI, Q.tTupQ, Q.dNil, Q.dCons, Q.tLstQ, Q.tFz, Q.tCA, Q.lenD, Q.tupD, Q.isD, Q.isInt, Q.isBool, Q.isTup, Q.isStr, Q.isLst, Q.tLenN, Q.tIxN, Q.setQ, Q.aNil, Q.aD, Q.aK, Q.tCallQ, Q.tCallKQ, Q.pick, Q.sNil, Q.sSeq, Q.sRet, Q.sRetN, Q.sExpr, Q.sIf, Q.sSet, Q.sSetL, Q.sAsg, Q.sFor, Q.sPar2, Q.sPar3, Q.pNil, Q.pD, Q.pO, Q.pDn, Q.gN, Q.gT, Q.gsNil, Q.gsCons, Q.iQ, Q.itD, Q.iEn, Q.itE, Q.rg1, Q.rg2, Q.oNone, Q.oSome, Q.tSlQ, Q.revD, Q.tOwnM, Q.appC, Q.popC, Q.extC, Q.ownL, Q.tRepL, Q.repC, Q.sSetIx, Q.ixOwn, Q.tLcQ, Q.noOwn, Q.rstQ, Q.wipeQ, Q.sDn, Q.sSetD, Q.tDgetN, Q.dOwn, Q.tTupRg, Q.sNever, Q.isB, Q.listD, Q.listC, Q.reprD, Q.Sl.isOwn, List.map_cons, List.map_nil, List.replicate_succ, List.replicate_zero, List.cons_append, List.nil_append, List.append_nil, List.getElem?_cons_zero, List.getElem?_cons_succ, List.set_cons_zero, List.set_cons_succ, List.getD_cons_zero, List.getD_cons_succ, List.filterMap_cons, List.filterMap_nil, List.all_cons, List.all_nil, Bool.and_true, Bool.true_and, Bool.not_true, Bool.not_false, Bool.not_eq_true, Bool.false_eq_true, Bool.and_self, if_true, if_false, true_and, and_true, ↓reduceIte, eqD, neD, sh_int, eqv_int, eqv_strs, sDraw, List.length_cons, List.length_nil, Nat.zero_add, Nat.reduceAdd, decide_true, eq_self])
  · simp only [Q.addF, Q.mulF, Q.bandI, Q.iZip, Q.itZ, Q.slD, Q.enOf, Q.tV, Q.tK, Q.t2, Q.t1, Q.tB, Q.cI, Q.cIp, Q.addI, Q.subI, Q.mulI, Q.fdivI, Q.modI, Q.powI, Q.ltI, Q.leI, Q.gtI, Q.geI, Q.negI, Q.vAnd, Q.vOr, Q.vNot, Q.qAnd, Q.qOr, Q.qNot, Q.qIf, Q.chI, Q.tTupQ, Q.dNil, Q.dCons, Q.tLstQ, Q.tFz, Q.tCA, Q.lenD, Q.tupD, Q.isD, Q.isInt, Q.isBool, Q.isTup, Q.isStr, Q.isLst, Q.tLenN, Q.tIxN, Q.setQ, Q.aNil, Q.aD, Q.aK, Q.tCallQ, Q.tCallKQ, Q.pick, Q.sNil, Q.sSeq, Q.sRet, Q.sRetN, Q.sExpr, Q.sIf, Q.sSet, Q.sSetL, Q.sAsg, Q.sFor, Q.sPar2, Q.sPar3, Q.pNil, Q.pD, Q.pO, Q.pDn, Q.gN, Q.gT, Q.gsNil, Q.gsCons, Q.iQ, Q.itD, Q.iEn, Q.itE, Q.rg1, Q.rg2, Q.oNone, Q.oSome, Q.tSlQ, Q.revD, Q.tOwnM, Q.appC, Q.popC, Q.extC, Q.ownL, Q.tRepL, Q.repC, Q.sSetIx, Q.ixOwn, Q.tLcQ, Q.noOwn, Q.rstQ, Q.wipeQ, Q.sDn, Q.sSetD, Q.tDgetN, Q.dOwn, Q.tTupRg, Q.sNever, Q.isB, Q.listD, Q.listC, Q.reprD, Q.Sl.isOwn, List.map_cons, List.map_nil, List.replicate_succ, List.replicate_zero, List.cons_append, List.nil_append, List.append_nil, List.getElem?_cons_zero, List.getElem?_cons_succ, List.set_cons_zero, List.set_cons_succ, List.getD_cons_zero, List.getD_cons_succ, List.filterMap_cons, List.filterMap_nil, List.all_cons, List.all_nil, Bool.and_true, Bool.true_and, Bool.not_true, Bool.not_false, Bool.not_eq_true, Bool.false_eq_true, Bool.and_self, if_true, if_false, true_and, and_true, ↓reduceIte, eqD, neD, sh_int, eqv_int, eqv_strs, sDraw, List.length_cons, List.length_nil, Nat.zero_add, Nat.reduceAdd, decide_true, eq_self, allD]
    exact tr_ex h
/-! ### codework -/
theorem loop_sign (R : EndsQ) (x y : Sl) : ∀ (ds : List Desk) (c : List Int) (s : Int) (s3 s4 : Sl), OkR ds c → -1 ≤ s → s ≤ 1 → (∀ s3 s4, R.nx [x, y, .d (.int (sgnL s ds c)), s3, s4]) →
    forQ (gT 2 (gsCons (gN 3) (gsCons (gN 4) gsNil))) (sSet 2 (t2 mulF (tV 2) (tCallQ sp_sign_of_place (aD (tIxN 3 (tV 4)) aNil)))) R (zipD (ds.map deskD) (c.map .int)) [x, y, .d (.int s), s3, s4]
  | [], [], s, s3, s4, _, _, _, h => by simpa only [zipD, List.map_nil, List.zipWith_nil_left, forQ, sgnL] using h s3 s4
  | d :: ds, p :: c, s, s3, s4, ok, b1, b2, h => by
    rw [zip_c]
    simp only [forQ, deskD, Q.addF, Q.mulF, Q.bandI, Q.iZip, Q.itZ, Q.slD, Q.enOf, Q.tV, Q.tK, Q.t2, Q.t1, Q.tB, Q.cI, Q.cIp, Q.addI, Q.subI, Q.mulI, Q.fdivI, Q.modI, Q.powI, Q.ltI, Q.leI, Q.gtI, Q.geI, Q.negI, Q.vAnd, Q.vOr, Q.vNot, Q.qAnd, Q.qOr, Q.qNot, Q.qIf, Q.chI, Q.tTupQ, Q.dNil, Q.dCons, Q.tLstQ, Q.tFz, Q.tCA, Q.lenD, Q.tupD, Q.isD, Q.isInt, Q.isBool, Q.isTup, Q.isStr, Q.isLst, Q.tLenN, Q.tIxN, Q.setQ, Q.aNil, Q.aD, Q.aK, Q.tCallQ, Q.tCallKQ, Q.pick, Q.sNil, Q.sSeq, Q.sRet, Q.sRetN, Q.sExpr, Q.sIf, Q.sSet, Q.sSetL, Q.sAsg, Q.sFor, Q.sPar2, Q.sPar3, Q.pNil, Q.pD, Q.pO, Q.pDn, Q.gN, Q.gT, Q.gsNil, Q.gsCons, Q.iQ, Q.itD, Q.iEn, Q.itE, Q.rg1, Q.rg2, Q.oNone, Q.oSome, Q.tSlQ, Q.revD, Q.tOwnM, Q.appC, Q.popC, Q.extC, Q.ownL, Q.tRepL, Q.repC, Q.sSetIx, Q.ixOwn, Q.tLcQ, Q.noOwn, Q.rstQ, Q.wipeQ, Q.sDn, Q.sSetD, Q.tDgetN, Q.dOwn, Q.tTupRg, Q.sNever, Q.isB, Q.listD, Q.listC, Q.reprD, Q.Sl.isOwn, List.map_cons, List.map_nil, List.replicate_succ, List.replicate_zero, List.cons_append, List.nil_append, List.append_nil, List.getElem?_cons_zero, List.getElem?_cons_succ, List.set_cons_zero, List.set_cons_succ, List.getD_cons_zero, List.getD_cons_succ, List.filterMap_cons, List.filterMap_nil, List.all_cons, List.all_nil, Bool.and_true, Bool.true_and, Bool.not_true, Bool.not_false, Bool.not_eq_true, Bool.false_eq_true, Bool.and_self, if_true, if_false, true_and, and_true, ↓reduceIte, eqD, neD, sh_int, eqv_int, eqv_strs, sDraw, List.length_cons, List.length_nil, Nat.zero_add, Nat.reduceAdd, decide_true, eq_self, ixD]
    refine ⟨_, at_pl ok.1.1 ok.1.2, _, rfl, ?_⟩
    simp only [Q.addF, Q.mulF, Q.bandI, Q.iZip, Q.itZ, Q.slD, Q.enOf, Q.tV, Q.tK, Q.t2, Q.t1, Q.tB, Q.cI, Q.cIp, Q.addI, Q.subI, Q.mulI, Q.fdivI, Q.modI, Q.powI, Q.ltI, Q.leI, Q.gtI, Q.geI, Q.negI, Q.vAnd, Q.vOr, Q.vNot, Q.qAnd, Q.qOr, Q.qNot, Q.qIf, Q.chI, Q.tTupQ, Q.dNil, Q.dCons, Q.tLstQ, Q.tFz, Q.tCA, Q.lenD, Q.tupD, Q.isD, Q.isInt, Q.isBool, Q.isTup, Q.isStr, Q.isLst, Q.tLenN, Q.tIxN, Q.setQ, Q.aNil, Q.aD, Q.aK, Q.tCallQ, Q.tCallKQ, Q.pick, Q.sNil, Q.sSeq, Q.sRet, Q.sRetN, Q.sExpr, Q.sIf, Q.sSet, Q.sSetL, Q.sAsg, Q.sFor, Q.sPar2, Q.sPar3, Q.pNil, Q.pD, Q.pO, Q.pDn, Q.gN, Q.gT, Q.gsNil, Q.gsCons, Q.iQ, Q.itD, Q.iEn, Q.itE, Q.rg1, Q.rg2, Q.oNone, Q.oSome, Q.tSlQ, Q.revD, Q.tOwnM, Q.appC, Q.popC, Q.extC, Q.ownL, Q.tRepL, Q.repC, Q.sSetIx, Q.ixOwn, Q.tLcQ, Q.noOwn, Q.rstQ, Q.wipeQ, Q.sDn, Q.sSetD, Q.tDgetN, Q.dOwn, Q.tTupRg, Q.sNever, Q.isB, Q.listD, Q.listC, Q.reprD, Q.Sl.isOwn, List.map_cons, List.map_nil, List.replicate_succ, List.replicate_zero, List.cons_append, List.nil_append, List.append_nil, List.getElem?_cons_zero, List.getElem?_cons_succ, List.set_cons_zero, List.set_cons_succ, List.getD_cons_zero, List.getD_cons_succ, List.filterMap_cons, List.filterMap_nil, List.all_cons, List.all_nil, Bool.and_true, Bool.true_and, Bool.not_true, Bool.not_false, Bool.not_eq_true, Bool.false_eq_true, Bool.and_self, if_true, if_false, true_and, and_true, ↓reduceIte, eqD, neD, sh_int, eqv_int, eqv_strs, sDraw, List.length_cons, List.length_nil, Nat.zero_add, Nat.reduceAdd, decide_true, eq_self]
    refine ⟨.inl ⟨by omega, by omega⟩, ?_⟩
    refine loop_sign R x y ds c _ _ _ ok.2 ?_ ?_ h
    · split <;> omega
    · split <;> omega
  | [], _ :: _, _, _, _, ok, _, _, _ => ok.elim
  | _ :: _, [], _, _, _, ok, _, _, _ => ok.elim
def sp_raw_sign : PSpec := fun as R => ∃ (ds : List Desk) (c : List Int), as = [.d (desksD ds), .d (tupI c)] ∧ OkR ds c ∧ ds.length ≤ 12 ∧ R (.int (sgn ds c))
theorem len_raw_sign : ∀ as R, sp_raw_sign as R → as.length = 2 := by rintro as R ⟨i, c, rfl, _⟩; rfl
theorem rd_raw_sign : ∀ as R, sp_raw_sign as R → t_raw_sign sp_sign_of_place { nx := fun _ => R .none, rt := R } (enOf as 3) := by
  rintro as R ⟨ds, c, rfl, h1, h2, h⟩
  simp only [t_raw_sign, desksD, tupI, Q.addF, Q.mulF, Q.bandI, Q.iZip, Q.itZ, Q.slD, Q.enOf, Q.tV, Q.tK, Q.t2, Q.t1, Q.tB, Q.cI, Q.cIp, Q.addI, Q.subI, Q.mulI, Q.fdivI, Q.modI, Q.powI, Q.ltI, Q.leI, Q.gtI, Q.geI, Q.negI, Q.vAnd, Q.vOr, Q.vNot, Q.qAnd, Q.qOr, Q.qNot, Q.qIf, Q.chI, Q.tTupQ, Q.dNil, Q.dCons, Q.tLstQ, Q.tFz, Q.tCA, Q.lenD, Q.tupD, Q.isD, Q.isInt, Q.isBool, Q.isTup, Q.isStr, Q.isLst, Q.tLenN, Q.tIxN, Q.setQ, Q.aNil, Q.aD, Q.aK, Q.tCallQ, Q.tCallKQ, Q.pick, Q.sNil, Q.sSeq, Q.sRet, Q.sRetN, Q.sExpr, Q.sIf, Q.sSet, Q.sSetL, Q.sAsg, Q.sFor, Q.sPar2, Q.sPar3, Q.pNil, Q.pD, Q.pO, Q.pDn, Q.gN, Q.gT, Q.gsNil, Q.gsCons, Q.iQ, Q.itD, Q.iEn, Q.itE, Q.rg1, Q.rg2, Q.oNone, Q.oSome, Q.tSlQ, Q.revD, Q.tOwnM, Q.appC, Q.popC, Q.extC, Q.ownL, Q.tRepL, Q.repC, Q.sSetIx, Q.ixOwn, Q.tLcQ, Q.noOwn, Q.rstQ, Q.wipeQ, Q.sDn, Q.sSetD, Q.tDgetN, Q.dOwn, Q.tTupRg, Q.sNever, Q.isB, Q.listD, Q.listC, Q.reprD, Q.Sl.isOwn, List.map_cons, List.map_nil, List.replicate_succ, List.replicate_zero, List.cons_append, List.nil_append, List.append_nil, List.getElem?_cons_zero, List.getElem?_cons_succ, List.set_cons_zero, List.set_cons_succ, List.getD_cons_zero, List.getD_cons_succ, List.filterMap_cons, List.filterMap_nil, List.all_cons, List.all_nil, Bool.and_true, Bool.true_and, Bool.not_true, Bool.not_false, Bool.not_eq_true, Bool.false_eq_true, Bool.and_self, if_true, if_false, true_and, and_true, ↓reduceIte, eqD, neD, sh_int, eqv_int, eqv_strs, sDraw, List.length_cons, List.length_nil, Nat.zero_add, Nat.reduceAdd, decide_true, eq_self, List.length_map]
  refine ⟨by omega, ?_⟩
  refine loop_sign _ _ _ ds c 1 _ _ h1 (by decide) (by decide) fun s3 s4 => ?_
  simp only [Q.addF, Q.mulF, Q.bandI, Q.iZip, Q.itZ, Q.slD, Q.enOf, Q.tV, Q.tK, Q.t2, Q.t1, Q.tB, Q.cI, Q.cIp, Q.addI, Q.subI, Q.mulI, Q.fdivI, Q.modI, Q.powI, Q.ltI, Q.leI, Q.gtI, Q.geI, Q.negI, Q.vAnd, Q.vOr, Q.vNot, Q.qAnd, Q.qOr, Q.qNot, Q.qIf, Q.chI, Q.tTupQ, Q.dNil, Q.dCons, Q.tLstQ, Q.tFz, Q.tCA, Q.lenD, Q.tupD, Q.isD, Q.isInt, Q.isBool, Q.isTup, Q.isStr, Q.isLst, Q.tLenN, Q.tIxN, Q.setQ, Q.aNil, Q.aD, Q.aK, Q.tCallQ, Q.tCallKQ, Q.pick, Q.sNil, Q.sSeq, Q.sRet, Q.sRetN, Q.sExpr, Q.sIf, Q.sSet, Q.sSetL, Q.sAsg, Q.sFor, Q.sPar2, Q.sPar3, Q.pNil, Q.pD, Q.pO, Q.pDn, Q.gN, Q.gT, Q.gsNil, Q.gsCons, Q.iQ, Q.itD, Q.iEn, Q.itE, Q.rg1, Q.rg2, Q.oNone, Q.oSome, Q.tSlQ, Q.revD, Q.tOwnM, Q.appC, Q.popC, Q.extC, Q.ownL, Q.tRepL, Q.repC, Q.sSetIx, Q.ixOwn, Q.tLcQ, Q.noOwn, Q.rstQ, Q.wipeQ, Q.sDn, Q.sSetD, Q.tDgetN, Q.dOwn, Q.tTupRg, Q.sNever, Q.isB, Q.listD, Q.listC, Q.reprD, Q.Sl.isOwn, List.map_cons, List.map_nil, List.replicate_succ, List.replicate_zero, List.cons_append, List.nil_append, List.append_nil, List.getElem?_cons_zero, List.getElem?_cons_succ, List.set_cons_zero, List.set_cons_succ, List.getD_cons_zero, List.getD_cons_succ, List.filterMap_cons, List.filterMap_nil, List.all_cons, List.all_nil, Bool.and_true, Bool.true_and, Bool.not_true, Bool.not_false, Bool.not_eq_true, Bool.false_eq_true, Bool.and_self, if_true, if_false, true_and, and_true, ↓reduceIte, eqD, neD, sh_int, eqv_int, eqv_strs, sDraw, List.length_cons, List.length_nil, Nat.zero_add, Nat.reduceAdd, decide_true, eq_self]
  rw [sgnL_eq, Int.one_mul]
  exact h
theorem loop_many (R : EndsQ) (x : Sl) : ∀ (ds : List Desk) (s : Int) (s2 : Sl), DsOk ds → (∀ s2, R.nx [x, .d (.int (manyL s ds)), s2]) →
    forQ (gN 2) (sSet 1 (t2 mulF (tV 1) (tLenN 2))) R (ds.map deskD) [x, .d (.int s), s2]
  | [], s, s2, _, h => by simpa only [List.map_nil, forQ, manyL] using h s2
  | d :: ds, s, s2, ok, h => by
    have := ok d (by simp)
    simp only [List.map_cons, forQ, deskD, Q.addF, Q.mulF, Q.bandI, Q.iZip, Q.itZ, Q.slD, Q.enOf, Q.tV, Q.tK, Q.t2, Q.t1, Q.tB, Q.cI, Q.cIp, Q.addI, Q.subI, Q.mulI, Q.fdivI, Q.modI, Q.powI, Q.ltI, Q.leI, Q.gtI, Q.geI, Q.negI, Q.vAnd, Q.vOr, Q.vNot, Q.qAnd, Q.qOr, Q.qNot, Q.qIf, Q.chI, Q.tTupQ, Q.dNil, Q.dCons, Q.tLstQ, Q.tFz, Q.tCA, Q.lenD, Q.tupD, Q.isD, Q.isInt, Q.isBool, Q.isTup, Q.isStr, Q.isLst, Q.tLenN, Q.tIxN, Q.setQ, Q.aNil, Q.aD, Q.aK, Q.tCallQ, Q.tCallKQ, Q.pick, Q.sNil, Q.sSeq, Q.sRet, Q.sRetN, Q.sExpr, Q.sIf, Q.sSet, Q.sSetL, Q.sAsg, Q.sFor, Q.sPar2, Q.sPar3, Q.pNil, Q.pD, Q.pO, Q.pDn, Q.gN, Q.gT, Q.gsNil, Q.gsCons, Q.iQ, Q.itD, Q.iEn, Q.itE, Q.rg1, Q.rg2, Q.oNone, Q.oSome, Q.tSlQ, Q.revD, Q.tOwnM, Q.appC, Q.popC, Q.extC, Q.ownL, Q.tRepL, Q.repC, Q.sSetIx, Q.ixOwn, Q.tLcQ, Q.noOwn, Q.rstQ, Q.wipeQ, Q.sDn, Q.sSetD, Q.tDgetN, Q.dOwn, Q.tTupRg, Q.sNever, Q.isB, Q.listD, Q.listC, Q.reprD, Q.Sl.isOwn, List.map_cons, List.map_nil, List.replicate_succ, List.replicate_zero, List.cons_append, List.nil_append, List.append_nil, List.getElem?_cons_zero, List.getElem?_cons_succ, List.set_cons_zero, List.set_cons_succ, List.getD_cons_zero, List.getD_cons_succ, List.filterMap_cons, List.filterMap_nil, List.all_cons, List.all_nil, Bool.and_true, Bool.true_and, Bool.not_true, Bool.not_false, Bool.not_eq_true, Bool.false_eq_true, Bool.and_self, if_true, if_false, true_and, and_true, ↓reduceIte, eqD, neD, sh_int, eqv_int, eqv_strs, sDraw, List.length_cons, List.length_nil, Nat.zero_add, Nat.reduceAdd, decide_true, eq_self, List.length_map]
    refine ⟨.inr ⟨by omega, by omega⟩, ?_⟩
    exact loop_many R x ds _ _ (fun z hz => ok z (by simp [hz])) h
def sp_many_codes : PSpec := fun as R => ∃ ds : List Desk, as = [.d (desksD ds)] ∧ DsOk ds ∧ R (.int (many ds))
theorem len_many_codes : ∀ as R, sp_many_codes as R → as.length = 1 := by rintro as R ⟨i, rfl, _⟩; rfl
theorem rd_many_codes : ∀ as R, sp_many_codes as R → t_many_codes { nx := fun _ => R .none, rt := R } (enOf as 2) := by
  rintro as R ⟨ds, rfl, h1, h⟩
  simp only [t_many_codes, desksD, Q.addF, Q.mulF, Q.bandI, Q.iZip, Q.itZ, Q.slD, Q.enOf, Q.tV, Q.tK, Q.t2, Q.t1, Q.tB, Q.cI, Q.cIp, Q.addI, Q.subI, Q.mulI, Q.fdivI, Q.modI, Q.powI, Q.ltI, Q.leI, Q.gtI, Q.geI, Q.negI, Q.vAnd, Q.vOr, Q.vNot, Q.qAnd, Q.qOr, Q.qNot, Q.qIf, Q.chI, Q.tTupQ, Q.dNil, Q.dCons, Q.tLstQ, Q.tFz, Q.tCA, Q.lenD, Q.tupD, Q.isD, Q.isInt, Q.isBool, Q.isTup, Q.isStr, Q.isLst, Q.tLenN, Q.tIxN, Q.setQ, Q.aNil, Q.aD, Q.aK, Q.tCallQ, Q.tCallKQ, Q.pick, Q.sNil, Q.sSeq, Q.sRet, Q.sRetN, Q.sExpr, Q.sIf, Q.sSet, Q.sSetL, Q.sAsg, Q.sFor, Q.sPar2, Q.sPar3, Q.pNil, Q.pD, Q.pO, Q.pDn, Q.gN, Q.gT, Q.gsNil, Q.gsCons, Q.iQ, Q.itD, Q.iEn, Q.itE, Q.rg1, Q.rg2, Q.oNone, Q.oSome, Q.tSlQ, Q.revD, Q.tOwnM, Q.appC, Q.popC, Q.extC, Q.ownL, Q.tRepL, Q.repC, Q.sSetIx, Q.ixOwn, Q.tLcQ, Q.noOwn, Q.rstQ, Q.wipeQ, Q.sDn, Q.sSetD, Q.tDgetN, Q.dOwn, Q.tTupRg, Q.sNever, Q.isB, Q.listD, Q.listC, Q.reprD, Q.Sl.isOwn, List.map_cons, List.map_nil, List.replicate_succ, List.replicate_zero, List.cons_append, List.nil_append, List.append_nil, List.getElem?_cons_zero, List.getElem?_cons_succ, List.set_cons_zero, List.set_cons_succ, List.getD_cons_zero, List.getD_cons_succ, List.filterMap_cons, List.filterMap_nil, List.all_cons, List.all_nil, Bool.and_true, Bool.true_and, Bool.not_true, Bool.not_false, Bool.not_eq_true, Bool.false_eq_true, Bool.and_self, if_true, if_false, true_and, and_true, ↓reduceIte, eqD, neD, sh_int, eqv_int, eqv_strs, sDraw, List.length_cons, List.length_nil, Nat.zero_add, Nat.reduceAdd, decide_true, eq_self]
  refine loop_many _ _ ds 1 _ h1 fun s2 => ?_
  simp only [Q.addF, Q.mulF, Q.bandI, Q.iZip, Q.itZ, Q.slD, Q.enOf, Q.tV, Q.tK, Q.t2, Q.t1, Q.tB, Q.cI, Q.cIp, Q.addI, Q.subI, Q.mulI, Q.fdivI, Q.modI, Q.powI, Q.ltI, Q.leI, Q.gtI, Q.geI, Q.negI, Q.vAnd, Q.vOr, Q.vNot, Q.qAnd, Q.qOr, Q.qNot, Q.qIf, Q.chI, Q.tTupQ, Q.dNil, Q.dCons, Q.tLstQ, Q.tFz, Q.tCA, Q.lenD, Q.tupD, Q.isD, Q.isInt, Q.isBool, Q.isTup, Q.isStr, Q.isLst, Q.tLenN, Q.tIxN, Q.setQ, Q.aNil, Q.aD, Q.aK, Q.tCallQ, Q.tCallKQ, Q.pick, Q.sNil, Q.sSeq, Q.sRet, Q.sRetN, Q.sExpr, Q.sIf, Q.sSet, Q.sSetL, Q.sAsg, Q.sFor, Q.sPar2, Q.sPar3, Q.pNil, Q.pD, Q.pO, Q.pDn, Q.gN, Q.gT, Q.gsNil, Q.gsCons, Q.iQ, Q.itD, Q.iEn, Q.itE, Q.rg1, Q.rg2, Q.oNone, Q.oSome, Q.tSlQ, Q.revD, Q.tOwnM, Q.appC, Q.popC, Q.extC, Q.ownL, Q.tRepL, Q.repC, Q.sSetIx, Q.ixOwn, Q.tLcQ, Q.noOwn, Q.rstQ, Q.wipeQ, Q.sDn, Q.sSetD, Q.tDgetN, Q.dOwn, Q.tTupRg, Q.sNever, Q.isB, Q.listD, Q.listC, Q.reprD, Q.Sl.isOwn, List.map_cons, List.map_nil, List.replicate_succ, List.replicate_zero, List.cons_append, List.nil_append, List.append_nil, List.getElem?_cons_zero, List.getElem?_cons_succ, List.set_cons_zero, List.set_cons_succ, List.getD_cons_zero, List.getD_cons_succ, List.filterMap_cons, List.filterMap_nil, List.all_cons, List.all_nil, Bool.and_true, Bool.true_and, Bool.not_true, Bool.not_false, Bool.not_eq_true, Bool.false_eq_true, Bool.and_self, if_true, if_false, true_and, and_true, ↓reduceIte, eqD, neD, sh_int, eqv_int, eqv_strs, sDraw, List.length_cons, List.length_nil, Nat.zero_add, Nat.reduceAdd, decide_true, eq_self]
  rw [many_eqL]
  exact h
theorem loop_code (R : EndsQ) (x : Sl) : ∀ (ds : List Desk) (n : Int) (acc : List Int) (s4 s5 : Sl), DsOk ds → ds.length ≤ 12 → acc.length + ds.length ≤ 100 → 0 ≤ n → n < manyR ds → (∀ s1 s3 s4 s5, R.nx [x, s1, .own ((acc ++ codeR ds n).map .int), s3, s4, s5]) →
    forQ (gN 4) (sSeq (sSet 3 (t2 fdivI (tV 3) (tLenN 4)))
  (sSeq (sPar2 5 1 (pD (t2 fdivI (tV 1) (tV 3)) (pD (t2 modI (tV 1) (tV 3)) pNil)))
  (sSeq (sIf (tB (t2 eqD (tIxN 4 (tV 5)) (tK (.str "pile")))) (sSet 1 (t2 subI (t2 subI (tV 3) (tK (.int 1))) (tV 1))) sNil)
  (sExpr (tOwnM 2 appC (dCons (tV 5) dNil)))))) R (ds.map deskD) [x, .d (.int n), .own (acc.map .int), .d (.int (manyR ds)), s4, s5]
  | [], n, acc, s4, s5, _, _, _, _, _, h => by
    simpa only [List.map_nil, forQ, codeR, List.append_nil] using h (.d (.int n)) (.d (.int (manyR []))) s4 s5
  | d :: ds, n, acc, s4, s5, ok, hl, ha, h0, h1, h => by
    have hd : DsOk ds := fun z hz => ok z (by simp [hz])
    have dl := ok d (by simp)
    rw [List.length_cons] at hl ha
    have S := many_pos hd
    have S2 := many_11 hd (by omega)
    rw [manyR_c] at h1
    have q1 : 0 ≤ n / manyR ds := Int.ediv_nonneg h0 (by omega)
    have q2 : n / manyR ds < d.length := Int.ediv_lt_of_lt_mul (by omega) (by rw [Int.mul_comm]; exact h1)
    have m1 := Int.emod_nonneg n (show manyR ds ≠ 0 by omega)
    have m2 := Int.emod_lt_of_pos n (show 0 < manyR ds by omega)
    have ediv : manyR ds * (d.length : Int) / (d.length : Int) = manyR ds := Int.mul_ediv_cancel _ (by omega)
    have step := loop_code R x ds (if d.getD (n / manyR ds).toNat false = true then manyR ds - 1 - n % manyR ds else n % manyR ds) (acc ++ [n / manyR ds]) (.d (deskD d)) (.d (.int (n / manyR ds))) hd (by omega) (by rw [List.length_append]; simp; omega) (by split <;> omega) (by split <;> omega) (by
      rw [List.append_assoc]; exact h)
    rw [List.map_append] at step
    simp only [List.map_cons, forQ, deskD, Q.addF, Q.mulF, Q.bandI, Q.iZip, Q.itZ, Q.slD, Q.enOf, Q.tV, Q.tK, Q.t2, Q.t1, Q.tB, Q.cI, Q.cIp, Q.addI, Q.subI, Q.mulI, Q.fdivI, Q.modI, Q.powI, Q.ltI, Q.leI, Q.gtI, Q.geI, Q.negI, Q.vAnd, Q.vOr, Q.vNot, Q.qAnd, Q.qOr, Q.qNot, Q.qIf, Q.chI, Q.tTupQ, Q.dNil, Q.dCons, Q.tLstQ, Q.tFz, Q.tCA, Q.lenD, Q.tupD, Q.isD, Q.isInt, Q.isBool, Q.isTup, Q.isStr, Q.isLst, Q.tLenN, Q.tIxN, Q.setQ, Q.aNil, Q.aD, Q.aK, Q.tCallQ, Q.tCallKQ, Q.pick, Q.sNil, Q.sSeq, Q.sRet, Q.sRetN, Q.sExpr, Q.sIf, Q.sSet, Q.sSetL, Q.sAsg, Q.sFor, Q.sPar2, Q.sPar3, Q.pNil, Q.pD, Q.pO, Q.pDn, Q.gN, Q.gT, Q.gsNil, Q.gsCons, Q.iQ, Q.itD, Q.iEn, Q.itE, Q.rg1, Q.rg2, Q.oNone, Q.oSome, Q.tSlQ, Q.revD, Q.tOwnM, Q.appC, Q.popC, Q.extC, Q.ownL, Q.tRepL, Q.repC, Q.sSetIx, Q.ixOwn, Q.tLcQ, Q.noOwn, Q.rstQ, Q.wipeQ, Q.sDn, Q.sSetD, Q.tDgetN, Q.dOwn, Q.tTupRg, Q.sNever, Q.isB, Q.listD, Q.listC, Q.reprD, Q.Sl.isOwn, List.map_cons, List.map_nil, List.replicate_succ, List.replicate_zero, List.cons_append, List.nil_append, List.append_nil, List.getElem?_cons_zero, List.getElem?_cons_succ, List.set_cons_zero, List.set_cons_succ, List.getD_cons_zero, List.getD_cons_succ, List.filterMap_cons, List.filterMap_nil, List.all_cons, List.all_nil, Bool.and_true, Bool.true_and, Bool.not_true, Bool.not_false, Bool.not_eq_true, Bool.false_eq_true, Bool.and_self, if_true, if_false, true_and, and_true, ↓reduceIte, eqD, neD, sh_int, eqv_int, eqv_strs, sDraw, List.length_cons, List.length_nil, Nat.zero_add, Nat.reduceAdd, decide_true, eq_self, List.length_map, manyR_c, ediv]
    refine ⟨⟨by omega, by omega⟩, ⟨by omega, by omega⟩, by omega, ?_⟩
    simp only [ixD]
    refine ⟨_, at_pl q1 q2, ?_⟩
    simp only [Q.addF, Q.mulF, Q.bandI, Q.iZip, Q.itZ, Q.slD, Q.enOf, Q.tV, Q.tK, Q.t2, Q.t1, Q.tB, Q.cI, Q.cIp, Q.addI, Q.subI, Q.mulI, Q.fdivI, Q.modI, Q.powI, Q.ltI, Q.leI, Q.gtI, Q.geI, Q.negI, Q.vAnd, Q.vOr, Q.vNot, Q.qAnd, Q.qOr, Q.qNot, Q.qIf, Q.chI, Q.tTupQ, Q.dNil, Q.dCons, Q.tLstQ, Q.tFz, Q.tCA, Q.lenD, Q.tupD, Q.isD, Q.isInt, Q.isBool, Q.isTup, Q.isStr, Q.isLst, Q.tLenN, Q.tIxN, Q.setQ, Q.aNil, Q.aD, Q.aK, Q.tCallQ, Q.tCallKQ, Q.pick, Q.sNil, Q.sSeq, Q.sRet, Q.sRetN, Q.sExpr, Q.sIf, Q.sSet, Q.sSetL, Q.sAsg, Q.sFor, Q.sPar2, Q.sPar3, Q.pNil, Q.pD, Q.pO, Q.pDn, Q.gN, Q.gT, Q.gsNil, Q.gsCons, Q.iQ, Q.itD, Q.iEn, Q.itE, Q.rg1, Q.rg2, Q.oNone, Q.oSome, Q.tSlQ, Q.revD, Q.tOwnM, Q.appC, Q.popC, Q.extC, Q.ownL, Q.tRepL, Q.repC, Q.sSetIx, Q.ixOwn, Q.tLcQ, Q.noOwn, Q.rstQ, Q.wipeQ, Q.sDn, Q.sSetD, Q.tDgetN, Q.dOwn, Q.tTupRg, Q.sNever, Q.isB, Q.listD, Q.listC, Q.reprD, Q.Sl.isOwn, List.map_cons, List.map_nil, List.replicate_succ, List.replicate_zero, List.cons_append, List.nil_append, List.append_nil, List.getElem?_cons_zero, List.getElem?_cons_succ, List.set_cons_zero, List.set_cons_succ, List.getD_cons_zero, List.getD_cons_succ, List.filterMap_cons, List.filterMap_nil, List.all_cons, List.all_nil, Bool.and_true, Bool.true_and, Bool.not_true, Bool.not_false, Bool.not_eq_true, Bool.false_eq_true, Bool.and_self, if_true, if_false, true_and, and_true, ↓reduceIte, eqD, neD, sh_int, eqv_int, eqv_strs, sDraw, List.length_cons, List.length_nil, Nat.zero_add, Nat.reduceAdd, decide_true, eq_self, sh_pl, sh_pile, eqv_pile]
    by_cases hp : d.getD (n / manyR ds).toNat false = true
    · rw [if_pos hp] at step
      rw [hp]
      simp only [Q.addF, Q.mulF, Q.bandI, Q.iZip, Q.itZ, Q.slD, Q.enOf, Q.tV, Q.tK, Q.t2, Q.t1, Q.tB, Q.cI, Q.cIp, Q.addI, Q.subI, Q.mulI, Q.fdivI, Q.modI, Q.powI, Q.ltI, Q.leI, Q.gtI, Q.geI, Q.negI, Q.vAnd, Q.vOr, Q.vNot, Q.qAnd, Q.qOr, Q.qNot, Q.qIf, Q.chI, Q.tTupQ, Q.dNil, Q.dCons, Q.tLstQ, Q.tFz, Q.tCA, Q.lenD, Q.tupD, Q.isD, Q.isInt, Q.isBool, Q.isTup, Q.isStr, Q.isLst, Q.tLenN, Q.tIxN, Q.setQ, Q.aNil, Q.aD, Q.aK, Q.tCallQ, Q.tCallKQ, Q.pick, Q.sNil, Q.sSeq, Q.sRet, Q.sRetN, Q.sExpr, Q.sIf, Q.sSet, Q.sSetL, Q.sAsg, Q.sFor, Q.sPar2, Q.sPar3, Q.pNil, Q.pD, Q.pO, Q.pDn, Q.gN, Q.gT, Q.gsNil, Q.gsCons, Q.iQ, Q.itD, Q.iEn, Q.itE, Q.rg1, Q.rg2, Q.oNone, Q.oSome, Q.tSlQ, Q.revD, Q.tOwnM, Q.appC, Q.popC, Q.extC, Q.ownL, Q.tRepL, Q.repC, Q.sSetIx, Q.ixOwn, Q.tLcQ, Q.noOwn, Q.rstQ, Q.wipeQ, Q.sDn, Q.sSetD, Q.tDgetN, Q.dOwn, Q.tTupRg, Q.sNever, Q.isB, Q.listD, Q.listC, Q.reprD, Q.Sl.isOwn, List.map_cons, List.map_nil, List.replicate_succ, List.replicate_zero, List.cons_append, List.nil_append, List.append_nil, List.getElem?_cons_zero, List.getElem?_cons_succ, List.set_cons_zero, List.set_cons_succ, List.getD_cons_zero, List.getD_cons_succ, List.filterMap_cons, List.filterMap_nil, List.all_cons, List.all_nil, Bool.and_true, Bool.true_and, Bool.not_true, Bool.not_false, Bool.not_eq_true, Bool.false_eq_true, Bool.and_self, if_true, if_false, true_and, and_true, ↓reduceIte, eqD, neD, sh_int, eqv_int, eqv_strs, sDraw, List.length_cons, List.length_nil, Nat.zero_add, Nat.reduceAdd, decide_true, eq_self, List.length_map]
      exact ⟨by omega, step⟩
    · rw [if_neg hp] at step
      have hp2 : d.getD (n / manyR ds).toNat false = false := by simpa using hp
      rw [hp2]
      simp only [Q.addF, Q.mulF, Q.bandI, Q.iZip, Q.itZ, Q.slD, Q.enOf, Q.tV, Q.tK, Q.t2, Q.t1, Q.tB, Q.cI, Q.cIp, Q.addI, Q.subI, Q.mulI, Q.fdivI, Q.modI, Q.powI, Q.ltI, Q.leI, Q.gtI, Q.geI, Q.negI, Q.vAnd, Q.vOr, Q.vNot, Q.qAnd, Q.qOr, Q.qNot, Q.qIf, Q.chI, Q.tTupQ, Q.dNil, Q.dCons, Q.tLstQ, Q.tFz, Q.tCA, Q.lenD, Q.tupD, Q.isD, Q.isInt, Q.isBool, Q.isTup, Q.isStr, Q.isLst, Q.tLenN, Q.tIxN, Q.setQ, Q.aNil, Q.aD, Q.aK, Q.tCallQ, Q.tCallKQ, Q.pick, Q.sNil, Q.sSeq, Q.sRet, Q.sRetN, Q.sExpr, Q.sIf, Q.sSet, Q.sSetL, Q.sAsg, Q.sFor, Q.sPar2, Q.sPar3, Q.pNil, Q.pD, Q.pO, Q.pDn, Q.gN, Q.gT, Q.gsNil, Q.gsCons, Q.iQ, Q.itD, Q.iEn, Q.itE, Q.rg1, Q.rg2, Q.oNone, Q.oSome, Q.tSlQ, Q.revD, Q.tOwnM, Q.appC, Q.popC, Q.extC, Q.ownL, Q.tRepL, Q.repC, Q.sSetIx, Q.ixOwn, Q.tLcQ, Q.noOwn, Q.rstQ, Q.wipeQ, Q.sDn, Q.sSetD, Q.tDgetN, Q.dOwn, Q.tTupRg, Q.sNever, Q.isB, Q.listD, Q.listC, Q.reprD, Q.Sl.isOwn, List.map_cons, List.map_nil, List.replicate_succ, List.replicate_zero, List.cons_append, List.nil_append, List.append_nil, List.getElem?_cons_zero, List.getElem?_cons_succ, List.set_cons_zero, List.set_cons_succ, List.getD_cons_zero, List.getD_cons_succ, List.filterMap_cons, List.filterMap_nil, List.all_cons, List.all_nil, Bool.and_true, Bool.true_and, Bool.not_true, Bool.not_false, Bool.not_eq_true, Bool.false_eq_true, Bool.and_self, if_true, if_false, true_and, and_true, ↓reduceIte, eqD, neD, sh_int, eqv_int, eqv_strs, sDraw, List.length_cons, List.length_nil, Nat.zero_add, Nat.reduceAdd, decide_true, eq_self, List.length_map]
      exact ⟨by omega, step⟩
def sp_raw_code_at : PSpec := fun as R => ∃ (ds : List Desk) (n : Int), as = [.d (desksD ds), .d (.int n)] ∧ DsOk ds ∧ ds.length ≤ 12 ∧ 0 ≤ n ∧ n < many ds ∧ R (tupI (codeAt ds n))
theorem len_raw_code_at : ∀ as R, sp_raw_code_at as R → as.length = 2 := by rintro as R ⟨i, c, rfl, _⟩; rfl
theorem rd_raw_code_at : ∀ as R, sp_raw_code_at as R → t_raw_code_at sp_many_codes { nx := fun _ => R .none, rt := R } (enOf as 4) := by
  rintro as R ⟨ds, n, rfl, h1, h2, h3, h4, h⟩
  simp only [t_raw_code_at, Q.addF, Q.mulF, Q.bandI, Q.iZip, Q.itZ, Q.slD, Q.enOf, Q.tV, Q.tK, Q.t2, Q.t1, Q.tB, Q.cI, Q.cIp, Q.addI, Q.subI, Q.mulI, Q.fdivI, Q.modI, Q.powI, Q.ltI, Q.leI, Q.gtI, Q.geI, Q.negI, Q.vAnd, Q.vOr, Q.vNot, Q.qAnd, Q.qOr, Q.qNot, Q.qIf, Q.chI, Q.tTupQ, Q.dNil, Q.dCons, Q.tLstQ, Q.tFz, Q.tCA, Q.lenD, Q.tupD, Q.isD, Q.isInt, Q.isBool, Q.isTup, Q.isStr, Q.isLst, Q.tLenN, Q.tIxN, Q.setQ, Q.aNil, Q.aD, Q.aK, Q.tCallQ, Q.tCallKQ, Q.pick, Q.sNil, Q.sSeq, Q.sRet, Q.sRetN, Q.sExpr, Q.sIf, Q.sSet, Q.sSetL, Q.sAsg, Q.sFor, Q.sPar2, Q.sPar3, Q.pNil, Q.pD, Q.pO, Q.pDn, Q.gN, Q.gT, Q.gsNil, Q.gsCons, Q.iQ, Q.itD, Q.iEn, Q.itE, Q.rg1, Q.rg2, Q.oNone, Q.oSome, Q.tSlQ, Q.revD, Q.tOwnM, Q.appC, Q.popC, Q.extC, Q.ownL, Q.tRepL, Q.repC, Q.sSetIx, Q.ixOwn, Q.tLcQ, Q.noOwn, Q.rstQ, Q.wipeQ, Q.sDn, Q.sSetD, Q.tDgetN, Q.dOwn, Q.tTupRg, Q.sNever, Q.isB, Q.listD, Q.listC, Q.reprD, Q.Sl.isOwn, List.map_cons, List.map_nil, List.replicate_succ, List.replicate_zero, List.cons_append, List.nil_append, List.append_nil, List.getElem?_cons_zero, List.getElem?_cons_succ, List.set_cons_zero, List.set_cons_succ, List.getD_cons_zero, List.getD_cons_succ, List.filterMap_cons, List.filterMap_nil, List.all_cons, List.all_nil, Bool.and_true, Bool.true_and, Bool.not_true, Bool.not_false, Bool.not_eq_true, Bool.false_eq_true, Bool.and_self, if_true, if_false, true_and, and_true, ↓reduceIte, eqD, neD, sh_int, eqv_int, eqv_strs, sDraw, List.length_cons, List.length_nil, Nat.zero_add, Nat.reduceAdd, decide_true, eq_self]
  refine ⟨by decide, ds, rfl, h1, ?_⟩
  simp only [desksD, Q.addF, Q.mulF, Q.bandI, Q.iZip, Q.itZ, Q.slD, Q.enOf, Q.tV, Q.tK, Q.t2, Q.t1, Q.tB, Q.cI, Q.cIp, Q.addI, Q.subI, Q.mulI, Q.fdivI, Q.modI, Q.powI, Q.ltI, Q.leI, Q.gtI, Q.geI, Q.negI, Q.vAnd, Q.vOr, Q.vNot, Q.qAnd, Q.qOr, Q.qNot, Q.qIf, Q.chI, Q.tTupQ, Q.dNil, Q.dCons, Q.tLstQ, Q.tFz, Q.tCA, Q.lenD, Q.tupD, Q.isD, Q.isInt, Q.isBool, Q.isTup, Q.isStr, Q.isLst, Q.tLenN, Q.tIxN, Q.setQ, Q.aNil, Q.aD, Q.aK, Q.tCallQ, Q.tCallKQ, Q.pick, Q.sNil, Q.sSeq, Q.sRet, Q.sRetN, Q.sExpr, Q.sIf, Q.sSet, Q.sSetL, Q.sAsg, Q.sFor, Q.sPar2, Q.sPar3, Q.pNil, Q.pD, Q.pO, Q.pDn, Q.gN, Q.gT, Q.gsNil, Q.gsCons, Q.iQ, Q.itD, Q.iEn, Q.itE, Q.rg1, Q.rg2, Q.oNone, Q.oSome, Q.tSlQ, Q.revD, Q.tOwnM, Q.appC, Q.popC, Q.extC, Q.ownL, Q.tRepL, Q.repC, Q.sSetIx, Q.ixOwn, Q.tLcQ, Q.noOwn, Q.rstQ, Q.wipeQ, Q.sDn, Q.sSetD, Q.tDgetN, Q.dOwn, Q.tTupRg, Q.sNever, Q.isB, Q.listD, Q.listC, Q.reprD, Q.Sl.isOwn, List.map_cons, List.map_nil, List.replicate_succ, List.replicate_zero, List.cons_append, List.nil_append, List.append_nil, List.getElem?_cons_zero, List.getElem?_cons_succ, List.set_cons_zero, List.set_cons_succ, List.getD_cons_zero, List.getD_cons_succ, List.filterMap_cons, List.filterMap_nil, List.all_cons, List.all_nil, Bool.and_true, Bool.true_and, Bool.not_true, Bool.not_false, Bool.not_eq_true, Bool.false_eq_true, Bool.and_self, if_true, if_false, true_and, and_true, ↓reduceIte, eqD, neD, sh_int, eqv_int, eqv_strs, sDraw, List.length_cons, List.length_nil, Nat.zero_add, Nat.reduceAdd, decide_true, eq_self]
  rw [← List.map_reverse]
  refine loop_code _ _ ds.reverse n [] _ _ h1.rev (by simpa using h2) (by simp; omega) h3 h4 fun s1 s3 s4 s5 => ?_
  simp only [List.nil_append, Q.addF, Q.mulF, Q.bandI, Q.iZip, Q.itZ, Q.slD, Q.enOf, Q.tV, Q.tK, Q.t2, Q.t1, Q.tB, Q.cI, Q.cIp, Q.addI, Q.subI, Q.mulI, Q.fdivI, Q.modI, Q.powI, Q.ltI, Q.leI, Q.gtI, Q.geI, Q.negI, Q.vAnd, Q.vOr, Q.vNot, Q.qAnd, Q.qOr, Q.qNot, Q.qIf, Q.chI, Q.tTupQ, Q.dNil, Q.dCons, Q.tLstQ, Q.tFz, Q.tCA, Q.lenD, Q.tupD, Q.isD, Q.isInt, Q.isBool, Q.isTup, Q.isStr, Q.isLst, Q.tLenN, Q.tIxN, Q.setQ, Q.aNil, Q.aD, Q.aK, Q.tCallQ, Q.tCallKQ, Q.pick, Q.sNil, Q.sSeq, Q.sRet, Q.sRetN, Q.sExpr, Q.sIf, Q.sSet, Q.sSetL, Q.sAsg, Q.sFor, Q.sPar2, Q.sPar3, Q.pNil, Q.pD, Q.pO, Q.pDn, Q.gN, Q.gT, Q.gsNil, Q.gsCons, Q.iQ, Q.itD, Q.iEn, Q.itE, Q.rg1, Q.rg2, Q.oNone, Q.oSome, Q.tSlQ, Q.revD, Q.tOwnM, Q.appC, Q.popC, Q.extC, Q.ownL, Q.tRepL, Q.repC, Q.sSetIx, Q.ixOwn, Q.tLcQ, Q.noOwn, Q.rstQ, Q.wipeQ, Q.sDn, Q.sSetD, Q.tDgetN, Q.dOwn, Q.tTupRg, Q.sNever, Q.isB, Q.listD, Q.listC, Q.reprD, Q.Sl.isOwn, List.map_cons, List.map_nil, List.replicate_succ, List.replicate_zero, List.cons_append, List.nil_append, List.append_nil, List.getElem?_cons_zero, List.getElem?_cons_succ, List.set_cons_zero, List.set_cons_succ, List.getD_cons_zero, List.getD_cons_succ, List.filterMap_cons, List.filterMap_nil, List.all_cons, List.all_nil, Bool.and_true, Bool.true_and, Bool.not_true, Bool.not_false, Bool.not_eq_true, Bool.false_eq_true, Bool.and_self, if_true, if_false, true_and, and_true, ↓reduceIte, eqD, neD, sh_int, eqv_int, eqv_strs, sDraw, List.length_cons, List.length_nil, Nat.zero_add, Nat.reduceAdd, decide_true, eq_self]
  rw [← List.map_reverse]
  exact h
theorem loop_pos (R : EndsQ) (x y : Sl) : ∀ (ds : List Desk) (c : List Int) (f s : Int) (s4 s5 : Sl), DsOk ds → OkR ds c → (∀ s3 s4 s5, R.nx [x, y, .d (.int (posL f s ds c)), s3, s4, s5]) →
    forQ (gT 2 (gsCons (gN 4) (gsCons (gN 5) gsNil))) (sSeq (sIf (tB (t2 eqD (tIxN 4 (tV 5)) (tK (.str "pile")))) (sSet 2 (t2 subI (t2 subI (tV 3) (tK (.int 1))) (tV 2))) sNil)
  (sPar2 2 3 (pD (t2 addF (t2 mulF (tV 5) (tV 3)) (tV 2)) (pD (t2 mulF (tV 3) (tLenN 4)) pNil)))) R (zipD (ds.map deskD) (c.map .int)) [x, y, .d (.int f), .d (.int s), s4, s5]
  | [], [], f, s, s4, s5, _, _, h => by simpa only [zipD, List.map_nil, List.zipWith_nil_left, forQ, posL] using h _ s4 s5
  | d :: ds, p :: c, f, s, s4, s5, hd, ok, h => by
    have dl := hd d (by simp)
    have ok1 := ok.1
    rw [zip_c]
    simp only [forQ, deskD, Q.addF, Q.mulF, Q.bandI, Q.iZip, Q.itZ, Q.slD, Q.enOf, Q.tV, Q.tK, Q.t2, Q.t1, Q.tB, Q.cI, Q.cIp, Q.addI, Q.subI, Q.mulI, Q.fdivI, Q.modI, Q.powI, Q.ltI, Q.leI, Q.gtI, Q.geI, Q.negI, Q.vAnd, Q.vOr, Q.vNot, Q.qAnd, Q.qOr, Q.qNot, Q.qIf, Q.chI, Q.tTupQ, Q.dNil, Q.dCons, Q.tLstQ, Q.tFz, Q.tCA, Q.lenD, Q.tupD, Q.isD, Q.isInt, Q.isBool, Q.isTup, Q.isStr, Q.isLst, Q.tLenN, Q.tIxN, Q.setQ, Q.aNil, Q.aD, Q.aK, Q.tCallQ, Q.tCallKQ, Q.pick, Q.sNil, Q.sSeq, Q.sRet, Q.sRetN, Q.sExpr, Q.sIf, Q.sSet, Q.sSetL, Q.sAsg, Q.sFor, Q.sPar2, Q.sPar3, Q.pNil, Q.pD, Q.pO, Q.pDn, Q.gN, Q.gT, Q.gsNil, Q.gsCons, Q.iQ, Q.itD, Q.iEn, Q.itE, Q.rg1, Q.rg2, Q.oNone, Q.oSome, Q.tSlQ, Q.revD, Q.tOwnM, Q.appC, Q.popC, Q.extC, Q.ownL, Q.tRepL, Q.repC, Q.sSetIx, Q.ixOwn, Q.tLcQ, Q.noOwn, Q.rstQ, Q.wipeQ, Q.sDn, Q.sSetD, Q.tDgetN, Q.dOwn, Q.tTupRg, Q.sNever, Q.isB, Q.listD, Q.listC, Q.reprD, Q.Sl.isOwn, List.map_cons, List.map_nil, List.replicate_succ, List.replicate_zero, List.cons_append, List.nil_append, List.append_nil, List.getElem?_cons_zero, List.getElem?_cons_succ, List.set_cons_zero, List.set_cons_succ, List.getD_cons_zero, List.getD_cons_succ, List.filterMap_cons, List.filterMap_nil, List.all_cons, List.all_nil, Bool.and_true, Bool.true_and, Bool.not_true, Bool.not_false, Bool.not_eq_true, Bool.false_eq_true, Bool.and_self, if_true, if_false, true_and, and_true, ↓reduceIte, eqD, neD, sh_int, eqv_int, eqv_strs, sDraw, List.length_cons, List.length_nil, Nat.zero_add, Nat.reduceAdd, decide_true, eq_self, ixD]
    refine ⟨_, at_pl ok.1.1 ok.1.2, ?_⟩
    simp only [Q.addF, Q.mulF, Q.bandI, Q.iZip, Q.itZ, Q.slD, Q.enOf, Q.tV, Q.tK, Q.t2, Q.t1, Q.tB, Q.cI, Q.cIp, Q.addI, Q.subI, Q.mulI, Q.fdivI, Q.modI, Q.powI, Q.ltI, Q.leI, Q.gtI, Q.geI, Q.negI, Q.vAnd, Q.vOr, Q.vNot, Q.qAnd, Q.qOr, Q.qNot, Q.qIf, Q.chI, Q.tTupQ, Q.dNil, Q.dCons, Q.tLstQ, Q.tFz, Q.tCA, Q.lenD, Q.tupD, Q.isD, Q.isInt, Q.isBool, Q.isTup, Q.isStr, Q.isLst, Q.tLenN, Q.tIxN, Q.setQ, Q.aNil, Q.aD, Q.aK, Q.tCallQ, Q.tCallKQ, Q.pick, Q.sNil, Q.sSeq, Q.sRet, Q.sRetN, Q.sExpr, Q.sIf, Q.sSet, Q.sSetL, Q.sAsg, Q.sFor, Q.sPar2, Q.sPar3, Q.pNil, Q.pD, Q.pO, Q.pDn, Q.gN, Q.gT, Q.gsNil, Q.gsCons, Q.iQ, Q.itD, Q.iEn, Q.itE, Q.rg1, Q.rg2, Q.oNone, Q.oSome, Q.tSlQ, Q.revD, Q.tOwnM, Q.appC, Q.popC, Q.extC, Q.ownL, Q.tRepL, Q.repC, Q.sSetIx, Q.ixOwn, Q.tLcQ, Q.noOwn, Q.rstQ, Q.wipeQ, Q.sDn, Q.sSetD, Q.tDgetN, Q.dOwn, Q.tTupRg, Q.sNever, Q.isB, Q.listD, Q.listC, Q.reprD, Q.Sl.isOwn, List.map_cons, List.map_nil, List.replicate_succ, List.replicate_zero, List.cons_append, List.nil_append, List.append_nil, List.getElem?_cons_zero, List.getElem?_cons_succ, List.set_cons_zero, List.set_cons_succ, List.getD_cons_zero, List.getD_cons_succ, List.filterMap_cons, List.filterMap_nil, List.all_cons, List.all_nil, Bool.and_true, Bool.true_and, Bool.not_true, Bool.not_false, Bool.not_eq_true, Bool.false_eq_true, Bool.and_self, if_true, if_false, true_and, and_true, ↓reduceIte, eqD, neD, sh_int, eqv_int, eqv_strs, sDraw, List.length_cons, List.length_nil, Nat.zero_add, Nat.reduceAdd, decide_true, eq_self, sh_pl, sh_pile, eqv_pile]
    have step := loop_pos R x y ds c _ (s * d.length) (.d (deskD d)) (.d (.int p)) (fun z hz => hd z (by simp [hz])) ok.2 h
    by_cases hp : d.getD p.toNat false = true
    · rw [if_pos hp] at step
      rw [hp]
      simp only [Q.addF, Q.mulF, Q.bandI, Q.iZip, Q.itZ, Q.slD, Q.enOf, Q.tV, Q.tK, Q.t2, Q.t1, Q.tB, Q.cI, Q.cIp, Q.addI, Q.subI, Q.mulI, Q.fdivI, Q.modI, Q.powI, Q.ltI, Q.leI, Q.gtI, Q.geI, Q.negI, Q.vAnd, Q.vOr, Q.vNot, Q.qAnd, Q.qOr, Q.qNot, Q.qIf, Q.chI, Q.tTupQ, Q.dNil, Q.dCons, Q.tLstQ, Q.tFz, Q.tCA, Q.lenD, Q.tupD, Q.isD, Q.isInt, Q.isBool, Q.isTup, Q.isStr, Q.isLst, Q.tLenN, Q.tIxN, Q.setQ, Q.aNil, Q.aD, Q.aK, Q.tCallQ, Q.tCallKQ, Q.pick, Q.sNil, Q.sSeq, Q.sRet, Q.sRetN, Q.sExpr, Q.sIf, Q.sSet, Q.sSetL, Q.sAsg, Q.sFor, Q.sPar2, Q.sPar3, Q.pNil, Q.pD, Q.pO, Q.pDn, Q.gN, Q.gT, Q.gsNil, Q.gsCons, Q.iQ, Q.itD, Q.iEn, Q.itE, Q.rg1, Q.rg2, Q.oNone, Q.oSome, Q.tSlQ, Q.revD, Q.tOwnM, Q.appC, Q.popC, Q.extC, Q.ownL, Q.tRepL, Q.repC, Q.sSetIx, Q.ixOwn, Q.tLcQ, Q.noOwn, Q.rstQ, Q.wipeQ, Q.sDn, Q.sSetD, Q.tDgetN, Q.dOwn, Q.tTupRg, Q.sNever, Q.isB, Q.listD, Q.listC, Q.reprD, Q.Sl.isOwn, List.map_cons, List.map_nil, List.replicate_succ, List.replicate_zero, List.cons_append, List.nil_append, List.append_nil, List.getElem?_cons_zero, List.getElem?_cons_succ, List.set_cons_zero, List.set_cons_succ, List.getD_cons_zero, List.getD_cons_succ, List.filterMap_cons, List.filterMap_nil, List.all_cons, List.all_nil, Bool.and_true, Bool.true_and, Bool.not_true, Bool.not_false, Bool.not_eq_true, Bool.false_eq_true, Bool.and_self, if_true, if_false, true_and, and_true, ↓reduceIte, eqD, neD, sh_int, eqv_int, eqv_strs, sDraw, List.length_cons, List.length_nil, Nat.zero_add, Nat.reduceAdd, decide_true, eq_self, List.length_map]
      exact ⟨.inl ⟨by omega, by omega⟩, .inr ⟨by omega, by omega⟩, step⟩
    · rw [if_neg hp] at step
      have hp2 : d.getD p.toNat false = false := by simpa using hp
      rw [hp2]
      simp only [Q.addF, Q.mulF, Q.bandI, Q.iZip, Q.itZ, Q.slD, Q.enOf, Q.tV, Q.tK, Q.t2, Q.t1, Q.tB, Q.cI, Q.cIp, Q.addI, Q.subI, Q.mulI, Q.fdivI, Q.modI, Q.powI, Q.ltI, Q.leI, Q.gtI, Q.geI, Q.negI, Q.vAnd, Q.vOr, Q.vNot, Q.qAnd, Q.qOr, Q.qNot, Q.qIf, Q.chI, Q.tTupQ, Q.dNil, Q.dCons, Q.tLstQ, Q.tFz, Q.tCA, Q.lenD, Q.tupD, Q.isD, Q.isInt, Q.isBool, Q.isTup, Q.isStr, Q.isLst, Q.tLenN, Q.tIxN, Q.setQ, Q.aNil, Q.aD, Q.aK, Q.tCallQ, Q.tCallKQ, Q.pick, Q.sNil, Q.sSeq, Q.sRet, Q.sRetN, Q.sExpr, Q.sIf, Q.sSet, Q.sSetL, Q.sAsg, Q.sFor, Q.sPar2, Q.sPar3, Q.pNil, Q.pD, Q.pO, Q.pDn, Q.gN, Q.gT, Q.gsNil, Q.gsCons, Q.iQ, Q.itD, Q.iEn, Q.itE, Q.rg1, Q.rg2, Q.oNone, Q.oSome, Q.tSlQ, Q.revD, Q.tOwnM, Q.appC, Q.popC, Q.extC, Q.ownL, Q.tRepL, Q.repC, Q.sSetIx, Q.ixOwn, Q.tLcQ, Q.noOwn, Q.rstQ, Q.wipeQ, Q.sDn, Q.sSetD, Q.tDgetN, Q.dOwn, Q.tTupRg, Q.sNever, Q.isB, Q.listD, Q.listC, Q.reprD, Q.Sl.isOwn, List.map_cons, List.map_nil, List.replicate_succ, List.replicate_zero, List.cons_append, List.nil_append, List.append_nil, List.getElem?_cons_zero, List.getElem?_cons_succ, List.set_cons_zero, List.set_cons_succ, List.getD_cons_zero, List.getD_cons_succ, List.filterMap_cons, List.filterMap_nil, List.all_cons, List.all_nil, Bool.and_true, Bool.true_and, Bool.not_true, Bool.not_false, Bool.not_eq_true, Bool.false_eq_true, Bool.and_self, if_true, if_false, true_and, and_true, ↓reduceIte, eqD, neD, sh_int, eqv_int, eqv_strs, sDraw, List.length_cons, List.length_nil, Nat.zero_add, Nat.reduceAdd, decide_true, eq_self, List.length_map]
      exact ⟨.inl ⟨by omega, by omega⟩, .inr ⟨by omega, by omega⟩, step⟩
  | [], _ :: _, _, _, _, _, _, ok, _ => ok.elim
  | _ :: _, [], _, _, _, _, _, ok, _ => ok.elim
def sp_raw_position : PSpec := fun as R => ∃ (ds : List Desk) (c : List Int), as = [.d (desksD ds), .d (tupI c)] ∧ DsOk ds ∧ OkR ds c ∧ ds.length ≤ 12 ∧ R (.int (pos ds c))
theorem len_raw_position : ∀ as R, sp_raw_position as R → as.length = 2 := by rintro as R ⟨i, c, rfl, _⟩; rfl
theorem rd_raw_position : ∀ as R, sp_raw_position as R → t_raw_position { nx := fun _ => R .none, rt := R } (enOf as 4) := by
  rintro as R ⟨ds, c, rfl, h1, h2, h3, h⟩
  simp only [t_raw_position, desksD, tupI, Q.addF, Q.mulF, Q.bandI, Q.iZip, Q.itZ, Q.slD, Q.enOf, Q.tV, Q.tK, Q.t2, Q.t1, Q.tB, Q.cI, Q.cIp, Q.addI, Q.subI, Q.mulI, Q.fdivI, Q.modI, Q.powI, Q.ltI, Q.leI, Q.gtI, Q.geI, Q.negI, Q.vAnd, Q.vOr, Q.vNot, Q.qAnd, Q.qOr, Q.qNot, Q.qIf, Q.chI, Q.tTupQ, Q.dNil, Q.dCons, Q.tLstQ, Q.tFz, Q.tCA, Q.lenD, Q.tupD, Q.isD, Q.isInt, Q.isBool, Q.isTup, Q.isStr, Q.isLst, Q.tLenN, Q.tIxN, Q.setQ, Q.aNil, Q.aD, Q.aK, Q.tCallQ, Q.tCallKQ, Q.pick, Q.sNil, Q.sSeq, Q.sRet, Q.sRetN, Q.sExpr, Q.sIf, Q.sSet, Q.sSetL, Q.sAsg, Q.sFor, Q.sPar2, Q.sPar3, Q.pNil, Q.pD, Q.pO, Q.pDn, Q.gN, Q.gT, Q.gsNil, Q.gsCons, Q.iQ, Q.itD, Q.iEn, Q.itE, Q.rg1, Q.rg2, Q.oNone, Q.oSome, Q.tSlQ, Q.revD, Q.tOwnM, Q.appC, Q.popC, Q.extC, Q.ownL, Q.tRepL, Q.repC, Q.sSetIx, Q.ixOwn, Q.tLcQ, Q.noOwn, Q.rstQ, Q.wipeQ, Q.sDn, Q.sSetD, Q.tDgetN, Q.dOwn, Q.tTupRg, Q.sNever, Q.isB, Q.listD, Q.listC, Q.reprD, Q.Sl.isOwn, List.map_cons, List.map_nil, List.replicate_succ, List.replicate_zero, List.cons_append, List.nil_append, List.append_nil, List.getElem?_cons_zero, List.getElem?_cons_succ, List.set_cons_zero, List.set_cons_succ, List.getD_cons_zero, List.getD_cons_succ, List.filterMap_cons, List.filterMap_nil, List.all_cons, List.all_nil, Bool.and_true, Bool.true_and, Bool.not_true, Bool.not_false, Bool.not_eq_true, Bool.false_eq_true, Bool.and_self, if_true, if_false, true_and, and_true, ↓reduceIte, eqD, neD, sh_int, eqv_int, eqv_strs, sDraw, List.length_cons, List.length_nil, Nat.zero_add, Nat.reduceAdd, decide_true, eq_self, List.length_map]
  refine ⟨by decide, by omega, ?_⟩
  refine loop_pos _ _ _ ds c 0 1 _ _ h1 h2 fun s3 s4 s5 => ?_
  simp only [Q.addF, Q.mulF, Q.bandI, Q.iZip, Q.itZ, Q.slD, Q.enOf, Q.tV, Q.tK, Q.t2, Q.t1, Q.tB, Q.cI, Q.cIp, Q.addI, Q.subI, Q.mulI, Q.fdivI, Q.modI, Q.powI, Q.ltI, Q.leI, Q.gtI, Q.geI, Q.negI, Q.vAnd, Q.vOr, Q.vNot, Q.qAnd, Q.qOr, Q.qNot, Q.qIf, Q.chI, Q.tTupQ, Q.dNil, Q.dCons, Q.tLstQ, Q.tFz, Q.tCA, Q.lenD, Q.tupD, Q.isD, Q.isInt, Q.isBool, Q.isTup, Q.isStr, Q.isLst, Q.tLenN, Q.tIxN, Q.setQ, Q.aNil, Q.aD, Q.aK, Q.tCallQ, Q.tCallKQ, Q.pick, Q.sNil, Q.sSeq, Q.sRet, Q.sRetN, Q.sExpr, Q.sIf, Q.sSet, Q.sSetL, Q.sAsg, Q.sFor, Q.sPar2, Q.sPar3, Q.pNil, Q.pD, Q.pO, Q.pDn, Q.gN, Q.gT, Q.gsNil, Q.gsCons, Q.iQ, Q.itD, Q.iEn, Q.itE, Q.rg1, Q.rg2, Q.oNone, Q.oSome, Q.tSlQ, Q.revD, Q.tOwnM, Q.appC, Q.popC, Q.extC, Q.ownL, Q.tRepL, Q.repC, Q.sSetIx, Q.ixOwn, Q.tLcQ, Q.noOwn, Q.rstQ, Q.wipeQ, Q.sDn, Q.sSetD, Q.tDgetN, Q.dOwn, Q.tTupRg, Q.sNever, Q.isB, Q.listD, Q.listC, Q.reprD, Q.Sl.isOwn, List.map_cons, List.map_nil, List.replicate_succ, List.replicate_zero, List.cons_append, List.nil_append, List.append_nil, List.getElem?_cons_zero, List.getElem?_cons_succ, List.set_cons_zero, List.set_cons_succ, List.getD_cons_zero, List.getD_cons_succ, List.filterMap_cons, List.filterMap_nil, List.all_cons, List.all_nil, Bool.and_true, Bool.true_and, Bool.not_true, Bool.not_false, Bool.not_eq_true, Bool.false_eq_true, Bool.and_self, if_true, if_false, true_and, and_true, ↓reduceIte, eqD, neD, sh_int, eqv_int, eqv_strs, sDraw, List.length_cons, List.length_nil, Nat.zero_add, Nat.reduceAdd, decide_true, eq_self]
  rw [pos_eqL h2.length.symm]
  exact h
/-! ### folded -/
structure Dk (ds : List Desk) : Prop where
  ok : DsOk ds
  few : ds.length ≤ 12
def sp_need_desks : PSpec := fun as R => ∃ ds : List Desk, as = [.d (desksD ds)] ∧ T43.Dk ds ∧ R .none
theorem len_need_desks : ∀ as R, sp_need_desks as R → as.length = 1 := by rintro as R ⟨i, rfl, _⟩; rfl
theorem rd_need_desks : ∀ as R, sp_need_desks as R → t_need_desks sp_are_desks_value { nx := fun _ => R .none, rt := R } (enOf as 0) := by
  rintro as R ⟨ds, rfl, h1, h⟩
  simp only [t_need_desks, Q.addF, Q.mulF, Q.bandI, Q.iZip, Q.itZ, Q.slD, Q.enOf, Q.tV, Q.tK, Q.t2, Q.t1, Q.tB, Q.cI, Q.cIp, Q.addI, Q.subI, Q.mulI, Q.fdivI, Q.modI, Q.powI, Q.ltI, Q.leI, Q.gtI, Q.geI, Q.negI, Q.vAnd, Q.vOr, Q.vNot, Q.qAnd, Q.qOr, Q.qNot, Q.qIf, Q.chI, Q.tTupQ, Q.dNil, Q.dCons, Q.tLstQ, Q.tFz, Q.tCA, Q.lenD, Q.tupD, Q.isD, Q.isInt, Q.isBool, Q.isTup, Q.isStr, Q.isLst, Q.tLenN, Q.tIxN, Q.setQ, Q.aNil, Q.aD, Q.aK, Q.tCallQ, Q.tCallKQ, Q.pick, Q.sNil, Q.sSeq, Q.sRet, Q.sRetN, Q.sExpr, Q.sIf, Q.sSet, Q.sSetL, Q.sAsg, Q.sFor, Q.sPar2, Q.sPar3, Q.pNil, Q.pD, Q.pO, Q.pDn, Q.gN, Q.gT, Q.gsNil, Q.gsCons, Q.iQ, Q.itD, Q.iEn, Q.itE, Q.rg1, Q.rg2, Q.oNone, Q.oSome, Q.tSlQ, Q.revD, Q.tOwnM, Q.appC, Q.popC, Q.extC, Q.ownL, Q.tRepL, Q.repC, Q.sSetIx, Q.ixOwn, Q.tLcQ, Q.noOwn, Q.rstQ, Q.wipeQ, Q.sDn, Q.sSetD, Q.tDgetN, Q.dOwn, Q.tTupRg, Q.sNever, Q.isB, Q.listD, Q.listC, Q.reprD, Q.Sl.isOwn, List.map_cons, List.map_nil, List.replicate_succ, List.replicate_zero, List.cons_append, List.nil_append, List.append_nil, List.getElem?_cons_zero, List.getElem?_cons_succ, List.set_cons_zero, List.set_cons_succ, List.getD_cons_zero, List.getD_cons_succ, List.filterMap_cons, List.filterMap_nil, List.all_cons, List.all_nil, Bool.and_true, Bool.true_and, Bool.not_true, Bool.not_false, Bool.not_eq_true, Bool.false_eq_true, Bool.and_self, if_true, if_false, true_and, and_true, ↓reduceIte, eqD, neD, sh_int, eqv_int, eqv_strs, sDraw, List.length_cons, List.length_nil, Nat.zero_add, Nat.reduceAdd, decide_true, eq_self]
  exact ⟨ds, rfl, h1.ok, h1.few, by simpa only [Q.addF, Q.mulF, Q.bandI, Q.iZip, Q.itZ, Q.slD, Q.enOf, Q.tV, Q.tK, Q.t2, Q.t1, Q.tB, Q.cI, Q.cIp, Q.addI, Q.subI, Q.mulI, Q.fdivI, Q.modI, Q.powI, Q.ltI, Q.leI, Q.gtI, Q.geI, Q.negI, Q.vAnd, Q.vOr, Q.vNot, Q.qAnd, Q.qOr, Q.qNot, Q.qIf, Q.chI, Q.tTupQ, Q.dNil, Q.dCons, Q.tLstQ, Q.tFz, Q.tCA, Q.lenD, Q.tupD, Q.isD, Q.isInt, Q.isBool, Q.isTup, Q.isStr, Q.isLst, Q.tLenN, Q.tIxN, Q.setQ, Q.aNil, Q.aD, Q.aK, Q.tCallQ, Q.tCallKQ, Q.pick, Q.sNil, Q.sSeq, Q.sRet, Q.sRetN, Q.sExpr, Q.sIf, Q.sSet, Q.sSetL, Q.sAsg, Q.sFor, Q.sPar2, Q.sPar3, Q.pNil, Q.pD, Q.pO, Q.pDn, Q.gN, Q.gT, Q.gsNil, Q.gsCons, Q.iQ, Q.itD, Q.iEn, Q.itE, Q.rg1, Q.rg2, Q.oNone, Q.oSome, Q.tSlQ, Q.revD, Q.tOwnM, Q.appC, Q.popC, Q.extC, Q.ownL, Q.tRepL, Q.repC, Q.sSetIx, Q.ixOwn, Q.tLcQ, Q.noOwn, Q.rstQ, Q.wipeQ, Q.sDn, Q.sSetD, Q.tDgetN, Q.dOwn, Q.tTupRg, Q.sNever, Q.isB, Q.listD, Q.listC, Q.reprD, Q.Sl.isOwn, List.map_cons, List.map_nil, List.replicate_succ, List.replicate_zero, List.cons_append, List.nil_append, List.append_nil, List.getElem?_cons_zero, List.getElem?_cons_succ, List.set_cons_zero, List.set_cons_succ, List.getD_cons_zero, List.getD_cons_succ, List.filterMap_cons, List.filterMap_nil, List.all_cons, List.all_nil, Bool.and_true, Bool.true_and, Bool.not_true, Bool.not_false, Bool.not_eq_true, Bool.false_eq_true, Bool.and_self, if_true, if_false, true_and, and_true, ↓reduceIte, eqD, neD, sh_int, eqv_int, eqv_strs, sDraw, List.length_cons, List.length_nil, Nat.zero_add, Nat.reduceAdd, decide_true, eq_self] using h⟩
def sp_need_code : PSpec := fun as R => ∃ (ds : List Desk) (c : List Int), as = [.d (desksD ds), .d (tupI c)] ∧ T43.Dk ds ∧ OkR ds c ∧ R .none
theorem len_need_code : ∀ as R, sp_need_code as R → as.length = 2 := by rintro as R ⟨i, c, rfl, _⟩; rfl
theorem rd_need_code : ∀ as R, sp_need_code as R → t_need_code sp_need_desks sp_is_code_value { nx := fun _ => R .none, rt := R } (enOf as 0) := by
  rintro as R ⟨ds, c, rfl, h1, h2, h⟩
  simp only [t_need_code, Q.addF, Q.mulF, Q.bandI, Q.iZip, Q.itZ, Q.slD, Q.enOf, Q.tV, Q.tK, Q.t2, Q.t1, Q.tB, Q.cI, Q.cIp, Q.addI, Q.subI, Q.mulI, Q.fdivI, Q.modI, Q.powI, Q.ltI, Q.leI, Q.gtI, Q.geI, Q.negI, Q.vAnd, Q.vOr, Q.vNot, Q.qAnd, Q.qOr, Q.qNot, Q.qIf, Q.chI, Q.tTupQ, Q.dNil, Q.dCons, Q.tLstQ, Q.tFz, Q.tCA, Q.lenD, Q.tupD, Q.isD, Q.isInt, Q.isBool, Q.isTup, Q.isStr, Q.isLst, Q.tLenN, Q.tIxN, Q.setQ, Q.aNil, Q.aD, Q.aK, Q.tCallQ, Q.tCallKQ, Q.pick, Q.sNil, Q.sSeq, Q.sRet, Q.sRetN, Q.sExpr, Q.sIf, Q.sSet, Q.sSetL, Q.sAsg, Q.sFor, Q.sPar2, Q.sPar3, Q.pNil, Q.pD, Q.pO, Q.pDn, Q.gN, Q.gT, Q.gsNil, Q.gsCons, Q.iQ, Q.itD, Q.iEn, Q.itE, Q.rg1, Q.rg2, Q.oNone, Q.oSome, Q.tSlQ, Q.revD, Q.tOwnM, Q.appC, Q.popC, Q.extC, Q.ownL, Q.tRepL, Q.repC, Q.sSetIx, Q.ixOwn, Q.tLcQ, Q.noOwn, Q.rstQ, Q.wipeQ, Q.sDn, Q.sSetD, Q.tDgetN, Q.dOwn, Q.tTupRg, Q.sNever, Q.isB, Q.listD, Q.listC, Q.reprD, Q.Sl.isOwn, List.map_cons, List.map_nil, List.replicate_succ, List.replicate_zero, List.cons_append, List.nil_append, List.append_nil, List.getElem?_cons_zero, List.getElem?_cons_succ, List.set_cons_zero, List.set_cons_succ, List.getD_cons_zero, List.getD_cons_succ, List.filterMap_cons, List.filterMap_nil, List.all_cons, List.all_nil, Bool.and_true, Bool.true_and, Bool.not_true, Bool.not_false, Bool.not_eq_true, Bool.false_eq_true, Bool.and_self, if_true, if_false, true_and, and_true, ↓reduceIte, eqD, neD, sh_int, eqv_int, eqv_strs, sDraw, List.length_cons, List.length_nil, Nat.zero_add, Nat.reduceAdd, decide_true, eq_self]
  refine ⟨ds, rfl, h1, ?_⟩
  try simp only [Q.addF, Q.mulF, Q.bandI, Q.iZip, Q.itZ, Q.slD, Q.enOf, Q.tV, Q.tK, Q.t2, Q.t1, Q.tB, Q.cI, Q.cIp, Q.addI, Q.subI, Q.mulI, Q.fdivI, Q.modI, Q.powI, Q.ltI, Q.leI, Q.gtI, Q.geI, Q.negI, Q.vAnd, Q.vOr, Q.vNot, Q.qAnd, Q.qOr, Q.qNot, Q.qIf, Q.chI, Q.tTupQ, Q.dNil, Q.dCons, Q.tLstQ, Q.tFz, Q.tCA, Q.lenD, Q.tupD, Q.isD, Q.isInt, Q.isBool, Q.isTup, Q.isStr, Q.isLst, Q.tLenN, Q.tIxN, Q.setQ, Q.aNil, Q.aD, Q.aK, Q.tCallQ, Q.tCallKQ, Q.pick, Q.sNil, Q.sSeq, Q.sRet, Q.sRetN, Q.sExpr, Q.sIf, Q.sSet, Q.sSetL, Q.sAsg, Q.sFor, Q.sPar2, Q.sPar3, Q.pNil, Q.pD, Q.pO, Q.pDn, Q.gN, Q.gT, Q.gsNil, Q.gsCons, Q.iQ, Q.itD, Q.iEn, Q.itE, Q.rg1, Q.rg2, Q.oNone, Q.oSome, Q.tSlQ, Q.revD, Q.tOwnM, Q.appC, Q.popC, Q.extC, Q.ownL, Q.tRepL, Q.repC, Q.sSetIx, Q.ixOwn, Q.tLcQ, Q.noOwn, Q.rstQ, Q.wipeQ, Q.sDn, Q.sSetD, Q.tDgetN, Q.dOwn, Q.tTupRg, Q.sNever, Q.isB, Q.listD, Q.listC, Q.reprD, Q.Sl.isOwn, List.map_cons, List.map_nil, List.replicate_succ, List.replicate_zero, List.cons_append, List.nil_append, List.append_nil, List.getElem?_cons_zero, List.getElem?_cons_succ, List.set_cons_zero, List.set_cons_succ, List.getD_cons_zero, List.getD_cons_succ, List.filterMap_cons, List.filterMap_nil, List.all_cons, List.all_nil, Bool.and_true, Bool.true_and, Bool.not_true, Bool.not_false, Bool.not_eq_true, Bool.false_eq_true, Bool.and_self, if_true, if_false, true_and, and_true, ↓reduceIte, eqD, neD, sh_int, eqv_int, eqv_strs, sDraw, List.length_cons, List.length_nil, Nat.zero_add, Nat.reduceAdd, decide_true, eq_self]
  exact ⟨ds, c, rfl, h2, h1.few, by simpa only [Q.addF, Q.mulF, Q.bandI, Q.iZip, Q.itZ, Q.slD, Q.enOf, Q.tV, Q.tK, Q.t2, Q.t1, Q.tB, Q.cI, Q.cIp, Q.addI, Q.subI, Q.mulI, Q.fdivI, Q.modI, Q.powI, Q.ltI, Q.leI, Q.gtI, Q.geI, Q.negI, Q.vAnd, Q.vOr, Q.vNot, Q.qAnd, Q.qOr, Q.qNot, Q.qIf, Q.chI, Q.tTupQ, Q.dNil, Q.dCons, Q.tLstQ, Q.tFz, Q.tCA, Q.lenD, Q.tupD, Q.isD, Q.isInt, Q.isBool, Q.isTup, Q.isStr, Q.isLst, Q.tLenN, Q.tIxN, Q.setQ, Q.aNil, Q.aD, Q.aK, Q.tCallQ, Q.tCallKQ, Q.pick, Q.sNil, Q.sSeq, Q.sRet, Q.sRetN, Q.sExpr, Q.sIf, Q.sSet, Q.sSetL, Q.sAsg, Q.sFor, Q.sPar2, Q.sPar3, Q.pNil, Q.pD, Q.pO, Q.pDn, Q.gN, Q.gT, Q.gsNil, Q.gsCons, Q.iQ, Q.itD, Q.iEn, Q.itE, Q.rg1, Q.rg2, Q.oNone, Q.oSome, Q.tSlQ, Q.revD, Q.tOwnM, Q.appC, Q.popC, Q.extC, Q.ownL, Q.tRepL, Q.repC, Q.sSetIx, Q.ixOwn, Q.tLcQ, Q.noOwn, Q.rstQ, Q.wipeQ, Q.sDn, Q.sSetD, Q.tDgetN, Q.dOwn, Q.tTupRg, Q.sNever, Q.isB, Q.listD, Q.listC, Q.reprD, Q.Sl.isOwn, List.map_cons, List.map_nil, List.replicate_succ, List.replicate_zero, List.cons_append, List.nil_append, List.append_nil, List.getElem?_cons_zero, List.getElem?_cons_succ, List.set_cons_zero, List.set_cons_succ, List.getD_cons_zero, List.getD_cons_succ, List.filterMap_cons, List.filterMap_nil, List.all_cons, List.all_nil, Bool.and_true, Bool.true_and, Bool.not_true, Bool.not_false, Bool.not_eq_true, Bool.false_eq_true, Bool.and_self, if_true, if_false, true_and, and_true, ↓reduceIte, eqD, neD, sh_int, eqv_int, eqv_strs, sDraw, List.length_cons, List.length_nil, Nat.zero_add, Nat.reduceAdd, decide_true, eq_self] using h⟩
def sp_sign_of : PSpec := fun as R => ∃ (ds : List Desk) (c : List Int), as = [.d (desksD ds), .d (tupI c)] ∧ T43.Dk ds ∧ OkR ds c ∧ R (.int (sgn ds c))
theorem len_sign_of : ∀ as R, sp_sign_of as R → as.length = 2 := by rintro as R ⟨i, c, rfl, _⟩; rfl
theorem rd_sign_of : ∀ as R, sp_sign_of as R → t_sign_of sp_need_code sp_raw_sign { nx := fun _ => R .none, rt := R } (enOf as 0) := by
  rintro as R ⟨ds, c, rfl, h1, h2, h⟩
  simp only [t_sign_of, Q.addF, Q.mulF, Q.bandI, Q.iZip, Q.itZ, Q.slD, Q.enOf, Q.tV, Q.tK, Q.t2, Q.t1, Q.tB, Q.cI, Q.cIp, Q.addI, Q.subI, Q.mulI, Q.fdivI, Q.modI, Q.powI, Q.ltI, Q.leI, Q.gtI, Q.geI, Q.negI, Q.vAnd, Q.vOr, Q.vNot, Q.qAnd, Q.qOr, Q.qNot, Q.qIf, Q.chI, Q.tTupQ, Q.dNil, Q.dCons, Q.tLstQ, Q.tFz, Q.tCA, Q.lenD, Q.tupD, Q.isD, Q.isInt, Q.isBool, Q.isTup, Q.isStr, Q.isLst, Q.tLenN, Q.tIxN, Q.setQ, Q.aNil, Q.aD, Q.aK, Q.tCallQ, Q.tCallKQ, Q.pick, Q.sNil, Q.sSeq, Q.sRet, Q.sRetN, Q.sExpr, Q.sIf, Q.sSet, Q.sSetL, Q.sAsg, Q.sFor, Q.sPar2, Q.sPar3, Q.pNil, Q.pD, Q.pO, Q.pDn, Q.gN, Q.gT, Q.gsNil, Q.gsCons, Q.iQ, Q.itD, Q.iEn, Q.itE, Q.rg1, Q.rg2, Q.oNone, Q.oSome, Q.tSlQ, Q.revD, Q.tOwnM, Q.appC, Q.popC, Q.extC, Q.ownL, Q.tRepL, Q.repC, Q.sSetIx, Q.ixOwn, Q.tLcQ, Q.noOwn, Q.rstQ, Q.wipeQ, Q.sDn, Q.sSetD, Q.tDgetN, Q.dOwn, Q.tTupRg, Q.sNever, Q.isB, Q.listD, Q.listC, Q.reprD, Q.Sl.isOwn, List.map_cons, List.map_nil, List.replicate_succ, List.replicate_zero, List.cons_append, List.nil_append, List.append_nil, List.getElem?_cons_zero, List.getElem?_cons_succ, List.set_cons_zero, List.set_cons_succ, List.getD_cons_zero, List.getD_cons_succ, List.filterMap_cons, List.filterMap_nil, List.all_cons, List.all_nil, Bool.and_true, Bool.true_and, Bool.not_true, Bool.not_false, Bool.not_eq_true, Bool.false_eq_true, Bool.and_self, if_true, if_false, true_and, and_true, ↓reduceIte, eqD, neD, sh_int, eqv_int, eqv_strs, sDraw, List.length_cons, List.length_nil, Nat.zero_add, Nat.reduceAdd, decide_true, eq_self]
  refine ⟨ds, c, rfl, h1, h2, ?_⟩
  try simp only [Q.addF, Q.mulF, Q.bandI, Q.iZip, Q.itZ, Q.slD, Q.enOf, Q.tV, Q.tK, Q.t2, Q.t1, Q.tB, Q.cI, Q.cIp, Q.addI, Q.subI, Q.mulI, Q.fdivI, Q.modI, Q.powI, Q.ltI, Q.leI, Q.gtI, Q.geI, Q.negI, Q.vAnd, Q.vOr, Q.vNot, Q.qAnd, Q.qOr, Q.qNot, Q.qIf, Q.chI, Q.tTupQ, Q.dNil, Q.dCons, Q.tLstQ, Q.tFz, Q.tCA, Q.lenD, Q.tupD, Q.isD, Q.isInt, Q.isBool, Q.isTup, Q.isStr, Q.isLst, Q.tLenN, Q.tIxN, Q.setQ, Q.aNil, Q.aD, Q.aK, Q.tCallQ, Q.tCallKQ, Q.pick, Q.sNil, Q.sSeq, Q.sRet, Q.sRetN, Q.sExpr, Q.sIf, Q.sSet, Q.sSetL, Q.sAsg, Q.sFor, Q.sPar2, Q.sPar3, Q.pNil, Q.pD, Q.pO, Q.pDn, Q.gN, Q.gT, Q.gsNil, Q.gsCons, Q.iQ, Q.itD, Q.iEn, Q.itE, Q.rg1, Q.rg2, Q.oNone, Q.oSome, Q.tSlQ, Q.revD, Q.tOwnM, Q.appC, Q.popC, Q.extC, Q.ownL, Q.tRepL, Q.repC, Q.sSetIx, Q.ixOwn, Q.tLcQ, Q.noOwn, Q.rstQ, Q.wipeQ, Q.sDn, Q.sSetD, Q.tDgetN, Q.dOwn, Q.tTupRg, Q.sNever, Q.isB, Q.listD, Q.listC, Q.reprD, Q.Sl.isOwn, List.map_cons, List.map_nil, List.replicate_succ, List.replicate_zero, List.cons_append, List.nil_append, List.append_nil, List.getElem?_cons_zero, List.getElem?_cons_succ, List.set_cons_zero, List.set_cons_succ, List.getD_cons_zero, List.getD_cons_succ, List.filterMap_cons, List.filterMap_nil, List.all_cons, List.all_nil, Bool.and_true, Bool.true_and, Bool.not_true, Bool.not_false, Bool.not_eq_true, Bool.false_eq_true, Bool.and_self, if_true, if_false, true_and, and_true, ↓reduceIte, eqD, neD, sh_int, eqv_int, eqv_strs, sDraw, List.length_cons, List.length_nil, Nat.zero_add, Nat.reduceAdd, decide_true, eq_self]
  exact ⟨ds, c, rfl, h2, h1.few, h⟩
def sp_is_ahead : PSpec := fun as R => ∃ (ds : List Desk) (a b : List Int), as = [.d (desksD ds), .d (tupI a), .d (tupI b)] ∧ T43.Dk ds ∧ OkR ds a ∧ OkR ds b ∧ R (.bool (decide (pos ds a < pos ds b)))
theorem len_is_ahead : ∀ as R, sp_is_ahead as R → as.length = 3 := by rintro as R ⟨i, c, b, rfl, _⟩; rfl
theorem rd_is_ahead : ∀ as R, sp_is_ahead as R → t_is_ahead sp_need_code sp_raw_position { nx := fun _ => R .none, rt := R } (enOf as 0) := by
  rintro as R ⟨ds, a, b, rfl, h1, h2, h3, h⟩
  simp only [t_is_ahead, Q.addF, Q.mulF, Q.bandI, Q.iZip, Q.itZ, Q.slD, Q.enOf, Q.tV, Q.tK, Q.t2, Q.t1, Q.tB, Q.cI, Q.cIp, Q.addI, Q.subI, Q.mulI, Q.fdivI, Q.modI, Q.powI, Q.ltI, Q.leI, Q.gtI, Q.geI, Q.negI, Q.vAnd, Q.vOr, Q.vNot, Q.qAnd, Q.qOr, Q.qNot, Q.qIf, Q.chI, Q.tTupQ, Q.dNil, Q.dCons, Q.tLstQ, Q.tFz, Q.tCA, Q.lenD, Q.tupD, Q.isD, Q.isInt, Q.isBool, Q.isTup, Q.isStr, Q.isLst, Q.tLenN, Q.tIxN, Q.setQ, Q.aNil, Q.aD, Q.aK, Q.tCallQ, Q.tCallKQ, Q.pick, Q.sNil, Q.sSeq, Q.sRet, Q.sRetN, Q.sExpr, Q.sIf, Q.sSet, Q.sSetL, Q.sAsg, Q.sFor, Q.sPar2, Q.sPar3, Q.pNil, Q.pD, Q.pO, Q.pDn, Q.gN, Q.gT, Q.gsNil, Q.gsCons, Q.iQ, Q.itD, Q.iEn, Q.itE, Q.rg1, Q.rg2, Q.oNone, Q.oSome, Q.tSlQ, Q.revD, Q.tOwnM, Q.appC, Q.popC, Q.extC, Q.ownL, Q.tRepL, Q.repC, Q.sSetIx, Q.ixOwn, Q.tLcQ, Q.noOwn, Q.rstQ, Q.wipeQ, Q.sDn, Q.sSetD, Q.tDgetN, Q.dOwn, Q.tTupRg, Q.sNever, Q.isB, Q.listD, Q.listC, Q.reprD, Q.Sl.isOwn, List.map_cons, List.map_nil, List.replicate_succ, List.replicate_zero, List.cons_append, List.nil_append, List.append_nil, List.getElem?_cons_zero, List.getElem?_cons_succ, List.set_cons_zero, List.set_cons_succ, List.getD_cons_zero, List.getD_cons_succ, List.filterMap_cons, List.filterMap_nil, List.all_cons, List.all_nil, Bool.and_true, Bool.true_and, Bool.not_true, Bool.not_false, Bool.not_eq_true, Bool.false_eq_true, Bool.and_self, if_true, if_false, true_and, and_true, ↓reduceIte, eqD, neD, sh_int, eqv_int, eqv_strs, sDraw, List.length_cons, List.length_nil, Nat.zero_add, Nat.reduceAdd, decide_true, eq_self]
  refine ⟨ds, a, rfl, h1, h2, ?_⟩
  try simp only [Q.addF, Q.mulF, Q.bandI, Q.iZip, Q.itZ, Q.slD, Q.enOf, Q.tV, Q.tK, Q.t2, Q.t1, Q.tB, Q.cI, Q.cIp, Q.addI, Q.subI, Q.mulI, Q.fdivI, Q.modI, Q.powI, Q.ltI, Q.leI, Q.gtI, Q.geI, Q.negI, Q.vAnd, Q.vOr, Q.vNot, Q.qAnd, Q.qOr, Q.qNot, Q.qIf, Q.chI, Q.tTupQ, Q.dNil, Q.dCons, Q.tLstQ, Q.tFz, Q.tCA, Q.lenD, Q.tupD, Q.isD, Q.isInt, Q.isBool, Q.isTup, Q.isStr, Q.isLst, Q.tLenN, Q.tIxN, Q.setQ, Q.aNil, Q.aD, Q.aK, Q.tCallQ, Q.tCallKQ, Q.pick, Q.sNil, Q.sSeq, Q.sRet, Q.sRetN, Q.sExpr, Q.sIf, Q.sSet, Q.sSetL, Q.sAsg, Q.sFor, Q.sPar2, Q.sPar3, Q.pNil, Q.pD, Q.pO, Q.pDn, Q.gN, Q.gT, Q.gsNil, Q.gsCons, Q.iQ, Q.itD, Q.iEn, Q.itE, Q.rg1, Q.rg2, Q.oNone, Q.oSome, Q.tSlQ, Q.revD, Q.tOwnM, Q.appC, Q.popC, Q.extC, Q.ownL, Q.tRepL, Q.repC, Q.sSetIx, Q.ixOwn, Q.tLcQ, Q.noOwn, Q.rstQ, Q.wipeQ, Q.sDn, Q.sSetD, Q.tDgetN, Q.dOwn, Q.tTupRg, Q.sNever, Q.isB, Q.listD, Q.listC, Q.reprD, Q.Sl.isOwn, List.map_cons, List.map_nil, List.replicate_succ, List.replicate_zero, List.cons_append, List.nil_append, List.append_nil, List.getElem?_cons_zero, List.getElem?_cons_succ, List.set_cons_zero, List.set_cons_succ, List.getD_cons_zero, List.getD_cons_succ, List.filterMap_cons, List.filterMap_nil, List.all_cons, List.all_nil, Bool.and_true, Bool.true_and, Bool.not_true, Bool.not_false, Bool.not_eq_true, Bool.false_eq_true, Bool.and_self, if_true, if_false, true_and, and_true, ↓reduceIte, eqD, neD, sh_int, eqv_int, eqv_strs, sDraw, List.length_cons, List.length_nil, Nat.zero_add, Nat.reduceAdd, decide_true, eq_self]
  refine ⟨ds, b, rfl, h1, h3, ?_⟩
  try simp only [Q.addF, Q.mulF, Q.bandI, Q.iZip, Q.itZ, Q.slD, Q.enOf, Q.tV, Q.tK, Q.t2, Q.t1, Q.tB, Q.cI, Q.cIp, Q.addI, Q.subI, Q.mulI, Q.fdivI, Q.modI, Q.powI, Q.ltI, Q.leI, Q.gtI, Q.geI, Q.negI, Q.vAnd, Q.vOr, Q.vNot, Q.qAnd, Q.qOr, Q.qNot, Q.qIf, Q.chI, Q.tTupQ, Q.dNil, Q.dCons, Q.tLstQ, Q.tFz, Q.tCA, Q.lenD, Q.tupD, Q.isD, Q.isInt, Q.isBool, Q.isTup, Q.isStr, Q.isLst, Q.tLenN, Q.tIxN, Q.setQ, Q.aNil, Q.aD, Q.aK, Q.tCallQ, Q.tCallKQ, Q.pick, Q.sNil, Q.sSeq, Q.sRet, Q.sRetN, Q.sExpr, Q.sIf, Q.sSet, Q.sSetL, Q.sAsg, Q.sFor, Q.sPar2, Q.sPar3, Q.pNil, Q.pD, Q.pO, Q.pDn, Q.gN, Q.gT, Q.gsNil, Q.gsCons, Q.iQ, Q.itD, Q.iEn, Q.itE, Q.rg1, Q.rg2, Q.oNone, Q.oSome, Q.tSlQ, Q.revD, Q.tOwnM, Q.appC, Q.popC, Q.extC, Q.ownL, Q.tRepL, Q.repC, Q.sSetIx, Q.ixOwn, Q.tLcQ, Q.noOwn, Q.rstQ, Q.wipeQ, Q.sDn, Q.sSetD, Q.tDgetN, Q.dOwn, Q.tTupRg, Q.sNever, Q.isB, Q.listD, Q.listC, Q.reprD, Q.Sl.isOwn, List.map_cons, List.map_nil, List.replicate_succ, List.replicate_zero, List.cons_append, List.nil_append, List.append_nil, List.getElem?_cons_zero, List.getElem?_cons_succ, List.set_cons_zero, List.set_cons_succ, List.getD_cons_zero, List.getD_cons_succ, List.filterMap_cons, List.filterMap_nil, List.all_cons, List.all_nil, Bool.and_true, Bool.true_and, Bool.not_true, Bool.not_false, Bool.not_eq_true, Bool.false_eq_true, Bool.and_self, if_true, if_false, true_and, and_true, ↓reduceIte, eqD, neD, sh_int, eqv_int, eqv_strs, sDraw, List.length_cons, List.length_nil, Nat.zero_add, Nat.reduceAdd, decide_true, eq_self]
  refine ⟨ds, a, rfl, h1.ok, h2, h1.few, ?_⟩
  try simp only [Q.addF, Q.mulF, Q.bandI, Q.iZip, Q.itZ, Q.slD, Q.enOf, Q.tV, Q.tK, Q.t2, Q.t1, Q.tB, Q.cI, Q.cIp, Q.addI, Q.subI, Q.mulI, Q.fdivI, Q.modI, Q.powI, Q.ltI, Q.leI, Q.gtI, Q.geI, Q.negI, Q.vAnd, Q.vOr, Q.vNot, Q.qAnd, Q.qOr, Q.qNot, Q.qIf, Q.chI, Q.tTupQ, Q.dNil, Q.dCons, Q.tLstQ, Q.tFz, Q.tCA, Q.lenD, Q.tupD, Q.isD, Q.isInt, Q.isBool, Q.isTup, Q.isStr, Q.isLst, Q.tLenN, Q.tIxN, Q.setQ, Q.aNil, Q.aD, Q.aK, Q.tCallQ, Q.tCallKQ, Q.pick, Q.sNil, Q.sSeq, Q.sRet, Q.sRetN, Q.sExpr, Q.sIf, Q.sSet, Q.sSetL, Q.sAsg, Q.sFor, Q.sPar2, Q.sPar3, Q.pNil, Q.pD, Q.pO, Q.pDn, Q.gN, Q.gT, Q.gsNil, Q.gsCons, Q.iQ, Q.itD, Q.iEn, Q.itE, Q.rg1, Q.rg2, Q.oNone, Q.oSome, Q.tSlQ, Q.revD, Q.tOwnM, Q.appC, Q.popC, Q.extC, Q.ownL, Q.tRepL, Q.repC, Q.sSetIx, Q.ixOwn, Q.tLcQ, Q.noOwn, Q.rstQ, Q.wipeQ, Q.sDn, Q.sSetD, Q.tDgetN, Q.dOwn, Q.tTupRg, Q.sNever, Q.isB, Q.listD, Q.listC, Q.reprD, Q.Sl.isOwn, List.map_cons, List.map_nil, List.replicate_succ, List.replicate_zero, List.cons_append, List.nil_append, List.append_nil, List.getElem?_cons_zero, List.getElem?_cons_succ, List.set_cons_zero, List.set_cons_succ, List.getD_cons_zero, List.getD_cons_succ, List.filterMap_cons, List.filterMap_nil, List.all_cons, List.all_nil, Bool.and_true, Bool.true_and, Bool.not_true, Bool.not_false, Bool.not_eq_true, Bool.false_eq_true, Bool.and_self, if_true, if_false, true_and, and_true, ↓reduceIte, eqD, neD, sh_int, eqv_int, eqv_strs, sDraw, List.length_cons, List.length_nil, Nat.zero_add, Nat.reduceAdd, decide_true, eq_self]
  refine ⟨ds, b, rfl, h1.ok, h3, h1.few, ?_⟩
  try simp only [Q.addF, Q.mulF, Q.bandI, Q.iZip, Q.itZ, Q.slD, Q.enOf, Q.tV, Q.tK, Q.t2, Q.t1, Q.tB, Q.cI, Q.cIp, Q.addI, Q.subI, Q.mulI, Q.fdivI, Q.modI, Q.powI, Q.ltI, Q.leI, Q.gtI, Q.geI, Q.negI, Q.vAnd, Q.vOr, Q.vNot, Q.qAnd, Q.qOr, Q.qNot, Q.qIf, Q.chI, Q.tTupQ, Q.dNil, Q.dCons, Q.tLstQ, Q.tFz, Q.tCA, Q.lenD, Q.tupD, Q.isD, Q.isInt, Q.isBool, Q.isTup, Q.isStr, Q.isLst, Q.tLenN, Q.tIxN, Q.setQ, Q.aNil, Q.aD, Q.aK, Q.tCallQ, Q.tCallKQ, Q.pick, Q.sNil, Q.sSeq, Q.sRet, Q.sRetN, Q.sExpr, Q.sIf, Q.sSet, Q.sSetL, Q.sAsg, Q.sFor, Q.sPar2, Q.sPar3, Q.pNil, Q.pD, Q.pO, Q.pDn, Q.gN, Q.gT, Q.gsNil, Q.gsCons, Q.iQ, Q.itD, Q.iEn, Q.itE, Q.rg1, Q.rg2, Q.oNone, Q.oSome, Q.tSlQ, Q.revD, Q.tOwnM, Q.appC, Q.popC, Q.extC, Q.ownL, Q.tRepL, Q.repC, Q.sSetIx, Q.ixOwn, Q.tLcQ, Q.noOwn, Q.rstQ, Q.wipeQ, Q.sDn, Q.sSetD, Q.tDgetN, Q.dOwn, Q.tTupRg, Q.sNever, Q.isB, Q.listD, Q.listC, Q.reprD, Q.Sl.isOwn, List.map_cons, List.map_nil, List.replicate_succ, List.replicate_zero, List.cons_append, List.nil_append, List.append_nil, List.getElem?_cons_zero, List.getElem?_cons_succ, List.set_cons_zero, List.set_cons_succ, List.getD_cons_zero, List.getD_cons_succ, List.filterMap_cons, List.filterMap_nil, List.all_cons, List.all_nil, Bool.and_true, Bool.true_and, Bool.not_true, Bool.not_false, Bool.not_eq_true, Bool.false_eq_true, Bool.and_self, if_true, if_false, true_and, and_true, ↓reduceIte, eqD, neD, sh_int, eqv_int, eqv_strs, sDraw, List.length_cons, List.length_nil, Nat.zero_add, Nat.reduceAdd, decide_true, eq_self]
  exact h
def sp_codes_number : PSpec := fun as R => ∃ ds : List Desk, as = [.d (desksD ds)] ∧ T43.Dk ds ∧ R (.int (many ds))
theorem len_codes_number : ∀ as R, sp_codes_number as R → as.length = 1 := by rintro as R ⟨i, rfl, _⟩; rfl
theorem rd_codes_number : ∀ as R, sp_codes_number as R → t_codes_number sp_need_desks sp_many_codes { nx := fun _ => R .none, rt := R } (enOf as 0) := by
  rintro as R ⟨ds, rfl, h1, h⟩
  simp only [t_codes_number, Q.addF, Q.mulF, Q.bandI, Q.iZip, Q.itZ, Q.slD, Q.enOf, Q.tV, Q.tK, Q.t2, Q.t1, Q.tB, Q.cI, Q.cIp, Q.addI, Q.subI, Q.mulI, Q.fdivI, Q.modI, Q.powI, Q.ltI, Q.leI, Q.gtI, Q.geI, Q.negI, Q.vAnd, Q.vOr, Q.vNot, Q.qAnd, Q.qOr, Q.qNot, Q.qIf, Q.chI, Q.tTupQ, Q.dNil, Q.dCons, Q.tLstQ, Q.tFz, Q.tCA, Q.lenD, Q.tupD, Q.isD, Q.isInt, Q.isBool, Q.isTup, Q.isStr, Q.isLst, Q.tLenN, Q.tIxN, Q.setQ, Q.aNil, Q.aD, Q.aK, Q.tCallQ, Q.tCallKQ, Q.pick, Q.sNil, Q.sSeq, Q.sRet, Q.sRetN, Q.sExpr, Q.sIf, Q.sSet, Q.sSetL, Q.sAsg, Q.sFor, Q.sPar2, Q.sPar3, Q.pNil, Q.pD, Q.pO, Q.pDn, Q.gN, Q.gT, Q.gsNil, Q.gsCons, Q.iQ, Q.itD, Q.iEn, Q.itE, Q.rg1, Q.rg2, Q.oNone, Q.oSome, Q.tSlQ, Q.revD, Q.tOwnM, Q.appC, Q.popC, Q.extC, Q.ownL, Q.tRepL, Q.repC, Q.sSetIx, Q.ixOwn, Q.tLcQ, Q.noOwn, Q.rstQ, Q.wipeQ, Q.sDn, Q.sSetD, Q.tDgetN, Q.dOwn, Q.tTupRg, Q.sNever, Q.isB, Q.listD, Q.listC, Q.reprD, Q.Sl.isOwn, List.map_cons, List.map_nil, List.replicate_succ, List.replicate_zero, List.cons_append, List.nil_append, List.append_nil, List.getElem?_cons_zero, List.getElem?_cons_succ, List.set_cons_zero, List.set_cons_succ, List.getD_cons_zero, List.getD_cons_succ, List.filterMap_cons, List.filterMap_nil, List.all_cons, List.all_nil, Bool.and_true, Bool.true_and, Bool.not_true, Bool.not_false, Bool.not_eq_true, Bool.false_eq_true, Bool.and_self, if_true, if_false, true_and, and_true, ↓reduceIte, eqD, neD, sh_int, eqv_int, eqv_strs, sDraw, List.length_cons, List.length_nil, Nat.zero_add, Nat.reduceAdd, decide_true, eq_self]
  refine ⟨ds, rfl, h1, ?_⟩
  try simp only [Q.addF, Q.mulF, Q.bandI, Q.iZip, Q.itZ, Q.slD, Q.enOf, Q.tV, Q.tK, Q.t2, Q.t1, Q.tB, Q.cI, Q.cIp, Q.addI, Q.subI, Q.mulI, Q.fdivI, Q.modI, Q.powI, Q.ltI, Q.leI, Q.gtI, Q.geI, Q.negI, Q.vAnd, Q.vOr, Q.vNot, Q.qAnd, Q.qOr, Q.qNot, Q.qIf, Q.chI, Q.tTupQ, Q.dNil, Q.dCons, Q.tLstQ, Q.tFz, Q.tCA, Q.lenD, Q.tupD, Q.isD, Q.isInt, Q.isBool, Q.isTup, Q.isStr, Q.isLst, Q.tLenN, Q.tIxN, Q.setQ, Q.aNil, Q.aD, Q.aK, Q.tCallQ, Q.tCallKQ, Q.pick, Q.sNil, Q.sSeq, Q.sRet, Q.sRetN, Q.sExpr, Q.sIf, Q.sSet, Q.sSetL, Q.sAsg, Q.sFor, Q.sPar2, Q.sPar3, Q.pNil, Q.pD, Q.pO, Q.pDn, Q.gN, Q.gT, Q.gsNil, Q.gsCons, Q.iQ, Q.itD, Q.iEn, Q.itE, Q.rg1, Q.rg2, Q.oNone, Q.oSome, Q.tSlQ, Q.revD, Q.tOwnM, Q.appC, Q.popC, Q.extC, Q.ownL, Q.tRepL, Q.repC, Q.sSetIx, Q.ixOwn, Q.tLcQ, Q.noOwn, Q.rstQ, Q.wipeQ, Q.sDn, Q.sSetD, Q.tDgetN, Q.dOwn, Q.tTupRg, Q.sNever, Q.isB, Q.listD, Q.listC, Q.reprD, Q.Sl.isOwn, List.map_cons, List.map_nil, List.replicate_succ, List.replicate_zero, List.cons_append, List.nil_append, List.append_nil, List.getElem?_cons_zero, List.getElem?_cons_succ, List.set_cons_zero, List.set_cons_succ, List.getD_cons_zero, List.getD_cons_succ, List.filterMap_cons, List.filterMap_nil, List.all_cons, List.all_nil, Bool.and_true, Bool.true_and, Bool.not_true, Bool.not_false, Bool.not_eq_true, Bool.false_eq_true, Bool.and_self, if_true, if_false, true_and, and_true, ↓reduceIte, eqD, neD, sh_int, eqv_int, eqv_strs, sDraw, List.length_cons, List.length_nil, Nat.zero_add, Nat.reduceAdd, decide_true, eq_self]
  exact ⟨ds, rfl, h1.ok, h⟩
def sp_code_at : PSpec := fun as R => ∃ (ds : List Desk) (n : Int), as = [.d (desksD ds), .d (.int n)] ∧ T43.Dk ds ∧ 0 ≤ n ∧ n < many ds ∧ R (tupI (codeAt ds n))
theorem len_code_at : ∀ as R, sp_code_at as R → as.length = 2 := by rintro as R ⟨i, c, rfl, _⟩; rfl
theorem rd_code_at : ∀ as R, sp_code_at as R → t_code_at sp_need_desks sp_is_between sp_many_codes sp_raw_code_at { nx := fun _ => R .none, rt := R } (enOf as 0) := by
  rintro as R ⟨ds, n, rfl, h1, h2, h3, h⟩
  simp only [t_code_at, Q.addF, Q.mulF, Q.bandI, Q.iZip, Q.itZ, Q.slD, Q.enOf, Q.tV, Q.tK, Q.t2, Q.t1, Q.tB, Q.cI, Q.cIp, Q.addI, Q.subI, Q.mulI, Q.fdivI, Q.modI, Q.powI, Q.ltI, Q.leI, Q.gtI, Q.geI, Q.negI, Q.vAnd, Q.vOr, Q.vNot, Q.qAnd, Q.qOr, Q.qNot, Q.qIf, Q.chI, Q.tTupQ, Q.dNil, Q.dCons, Q.tLstQ, Q.tFz, Q.tCA, Q.lenD, Q.tupD, Q.isD, Q.isInt, Q.isBool, Q.isTup, Q.isStr, Q.isLst, Q.tLenN, Q.tIxN, Q.setQ, Q.aNil, Q.aD, Q.aK, Q.tCallQ, Q.tCallKQ, Q.pick, Q.sNil, Q.sSeq, Q.sRet, Q.sRetN, Q.sExpr, Q.sIf, Q.sSet, Q.sSetL, Q.sAsg, Q.sFor, Q.sPar2, Q.sPar3, Q.pNil, Q.pD, Q.pO, Q.pDn, Q.gN, Q.gT, Q.gsNil, Q.gsCons, Q.iQ, Q.itD, Q.iEn, Q.itE, Q.rg1, Q.rg2, Q.oNone, Q.oSome, Q.tSlQ, Q.revD, Q.tOwnM, Q.appC, Q.popC, Q.extC, Q.ownL, Q.tRepL, Q.repC, Q.sSetIx, Q.ixOwn, Q.tLcQ, Q.noOwn, Q.rstQ, Q.wipeQ, Q.sDn, Q.sSetD, Q.tDgetN, Q.dOwn, Q.tTupRg, Q.sNever, Q.isB, Q.listD, Q.listC, Q.reprD, Q.Sl.isOwn, List.map_cons, List.map_nil, List.replicate_succ, List.replicate_zero, List.cons_append, List.nil_append, List.append_nil, List.getElem?_cons_zero, List.getElem?_cons_succ, List.set_cons_zero, List.set_cons_succ, List.getD_cons_zero, List.getD_cons_succ, List.filterMap_cons, List.filterMap_nil, List.all_cons, List.all_nil, Bool.and_true, Bool.true_and, Bool.not_true, Bool.not_false, Bool.not_eq_true, Bool.false_eq_true, Bool.and_self, if_true, if_false, true_and, and_true, ↓reduceIte, eqD, neD, sh_int, eqv_int, eqv_strs, sDraw, List.length_cons, List.length_nil, Nat.zero_add, Nat.reduceAdd, decide_true, eq_self]
  refine ⟨ds, rfl, h1, ?_⟩
  try simp only [Q.addF, Q.mulF, Q.bandI, Q.iZip, Q.itZ, Q.slD, Q.enOf, Q.tV, Q.tK, Q.t2, Q.t1, Q.tB, Q.cI, Q.cIp, Q.addI, Q.subI, Q.mulI, Q.fdivI, Q.modI, Q.powI, Q.ltI, Q.leI, Q.gtI, Q.geI, Q.negI, Q.vAnd, Q.vOr, Q.vNot, Q.qAnd, Q.qOr, Q.qNot, Q.qIf, Q.chI, Q.tTupQ, Q.dNil, Q.dCons, Q.tLstQ, Q.tFz, Q.tCA, Q.lenD, Q.tupD, Q.isD, Q.isInt, Q.isBool, Q.isTup, Q.isStr, Q.isLst, Q.tLenN, Q.tIxN, Q.setQ, Q.aNil, Q.aD, Q.aK, Q.tCallQ, Q.tCallKQ, Q.pick, Q.sNil, Q.sSeq, Q.sRet, Q.sRetN, Q.sExpr, Q.sIf, Q.sSet, Q.sSetL, Q.sAsg, Q.sFor, Q.sPar2, Q.sPar3, Q.pNil, Q.pD, Q.pO, Q.pDn, Q.gN, Q.gT, Q.gsNil, Q.gsCons, Q.iQ, Q.itD, Q.iEn, Q.itE, Q.rg1, Q.rg2, Q.oNone, Q.oSome, Q.tSlQ, Q.revD, Q.tOwnM, Q.appC, Q.popC, Q.extC, Q.ownL, Q.tRepL, Q.repC, Q.sSetIx, Q.ixOwn, Q.tLcQ, Q.noOwn, Q.rstQ, Q.wipeQ, Q.sDn, Q.sSetD, Q.tDgetN, Q.dOwn, Q.tTupRg, Q.sNever, Q.isB, Q.listD, Q.listC, Q.reprD, Q.Sl.isOwn, List.map_cons, List.map_nil, List.replicate_succ, List.replicate_zero, List.cons_append, List.nil_append, List.append_nil, List.getElem?_cons_zero, List.getElem?_cons_succ, List.set_cons_zero, List.set_cons_succ, List.getD_cons_zero, List.getD_cons_succ, List.filterMap_cons, List.filterMap_nil, List.all_cons, List.all_nil, Bool.and_true, Bool.true_and, Bool.not_true, Bool.not_false, Bool.not_eq_true, Bool.false_eq_true, Bool.and_self, if_true, if_false, true_and, and_true, ↓reduceIte, eqD, neD, sh_int, eqv_int, eqv_strs, sDraw, List.length_cons, List.length_nil, Nat.zero_add, Nat.reduceAdd, decide_true, eq_self]
  refine ⟨ds, rfl, h1.ok, ?_⟩
  try simp only [Q.addF, Q.mulF, Q.bandI, Q.iZip, Q.itZ, Q.slD, Q.enOf, Q.tV, Q.tK, Q.t2, Q.t1, Q.tB, Q.cI, Q.cIp, Q.addI, Q.subI, Q.mulI, Q.fdivI, Q.modI, Q.powI, Q.ltI, Q.leI, Q.gtI, Q.geI, Q.negI, Q.vAnd, Q.vOr, Q.vNot, Q.qAnd, Q.qOr, Q.qNot, Q.qIf, Q.chI, Q.tTupQ, Q.dNil, Q.dCons, Q.tLstQ, Q.tFz, Q.tCA, Q.lenD, Q.tupD, Q.isD, Q.isInt, Q.isBool, Q.isTup, Q.isStr, Q.isLst, Q.tLenN, Q.tIxN, Q.setQ, Q.aNil, Q.aD, Q.aK, Q.tCallQ, Q.tCallKQ, Q.pick, Q.sNil, Q.sSeq, Q.sRet, Q.sRetN, Q.sExpr, Q.sIf, Q.sSet, Q.sSetL, Q.sAsg, Q.sFor, Q.sPar2, Q.sPar3, Q.pNil, Q.pD, Q.pO, Q.pDn, Q.gN, Q.gT, Q.gsNil, Q.gsCons, Q.iQ, Q.itD, Q.iEn, Q.itE, Q.rg1, Q.rg2, Q.oNone, Q.oSome, Q.tSlQ, Q.revD, Q.tOwnM, Q.appC, Q.popC, Q.extC, Q.ownL, Q.tRepL, Q.repC, Q.sSetIx, Q.ixOwn, Q.tLcQ, Q.noOwn, Q.rstQ, Q.wipeQ, Q.sDn, Q.sSetD, Q.tDgetN, Q.dOwn, Q.tTupRg, Q.sNever, Q.isB, Q.listD, Q.listC, Q.reprD, Q.Sl.isOwn, List.map_cons, List.map_nil, List.replicate_succ, List.replicate_zero, List.cons_append, List.nil_append, List.append_nil, List.getElem?_cons_zero, List.getElem?_cons_succ, List.set_cons_zero, List.set_cons_succ, List.getD_cons_zero, List.getD_cons_succ, List.filterMap_cons, List.filterMap_nil, List.all_cons, List.all_nil, Bool.and_true, Bool.true_and, Bool.not_true, Bool.not_false, Bool.not_eq_true, Bool.false_eq_true, Bool.and_self, if_true, if_false, true_and, and_true, ↓reduceIte, eqD, neD, sh_int, eqv_int, eqv_strs, sDraw, List.length_cons, List.length_nil, Nat.zero_add, Nat.reduceAdd, decide_true, eq_self]
  refine ⟨n, 0, _, rfl, ?_⟩
  have e1 : decide ((0 : Int) ≤ n) = true := by simp [h2]
  have e2 : decide (n ≤ many ds - 1) = true := by simp; omega
  rw [e1, e2]
  try simp only [Q.addF, Q.mulF, Q.bandI, Q.iZip, Q.itZ, Q.slD, Q.enOf, Q.tV, Q.tK, Q.t2, Q.t1, Q.tB, Q.cI, Q.cIp, Q.addI, Q.subI, Q.mulI, Q.fdivI, Q.modI, Q.powI, Q.ltI, Q.leI, Q.gtI, Q.geI, Q.negI, Q.vAnd, Q.vOr, Q.vNot, Q.qAnd, Q.qOr, Q.qNot, Q.qIf, Q.chI, Q.tTupQ, Q.dNil, Q.dCons, Q.tLstQ, Q.tFz, Q.tCA, Q.lenD, Q.tupD, Q.isD, Q.isInt, Q.isBool, Q.isTup, Q.isStr, Q.isLst, Q.tLenN, Q.tIxN, Q.setQ, Q.aNil, Q.aD, Q.aK, Q.tCallQ, Q.tCallKQ, Q.pick, Q.sNil, Q.sSeq, Q.sRet, Q.sRetN, Q.sExpr, Q.sIf, Q.sSet, Q.sSetL, Q.sAsg, Q.sFor, Q.sPar2, Q.sPar3, Q.pNil, Q.pD, Q.pO, Q.pDn, Q.gN, Q.gT, Q.gsNil, Q.gsCons, Q.iQ, Q.itD, Q.iEn, Q.itE, Q.rg1, Q.rg2, Q.oNone, Q.oSome, Q.tSlQ, Q.revD, Q.tOwnM, Q.appC, Q.popC, Q.extC, Q.ownL, Q.tRepL, Q.repC, Q.sSetIx, Q.ixOwn, Q.tLcQ, Q.noOwn, Q.rstQ, Q.wipeQ, Q.sDn, Q.sSetD, Q.tDgetN, Q.dOwn, Q.tTupRg, Q.sNever, Q.isB, Q.listD, Q.listC, Q.reprD, Q.Sl.isOwn, List.map_cons, List.map_nil, List.replicate_succ, List.replicate_zero, List.cons_append, List.nil_append, List.append_nil, List.getElem?_cons_zero, List.getElem?_cons_succ, List.set_cons_zero, List.set_cons_succ, List.getD_cons_zero, List.getD_cons_succ, List.filterMap_cons, List.filterMap_nil, List.all_cons, List.all_nil, Bool.and_true, Bool.true_and, Bool.not_true, Bool.not_false, Bool.not_eq_true, Bool.false_eq_true, Bool.and_self, if_true, if_false, true_and, and_true, ↓reduceIte, eqD, neD, sh_int, eqv_int, eqv_strs, sDraw, List.length_cons, List.length_nil, Nat.zero_add, Nat.reduceAdd, decide_true, eq_self]
  exact ⟨ds, n, rfl, h1.ok, h1.few, h2, h3, h⟩
def sp_position_of : PSpec := fun as R => ∃ (ds : List Desk) (c : List Int), as = [.d (desksD ds), .d (tupI c)] ∧ T43.Dk ds ∧ OkR ds c ∧ R (.int (pos ds c))
theorem len_position_of : ∀ as R, sp_position_of as R → as.length = 2 := by rintro as R ⟨i, c, rfl, _⟩; rfl
theorem rd_position_of : ∀ as R, sp_position_of as R → t_position_of sp_need_code sp_raw_position { nx := fun _ => R .none, rt := R } (enOf as 0) := by
  rintro as R ⟨ds, c, rfl, h1, h2, h⟩
  simp only [t_position_of, Q.addF, Q.mulF, Q.bandI, Q.iZip, Q.itZ, Q.slD, Q.enOf, Q.tV, Q.tK, Q.t2, Q.t1, Q.tB, Q.cI, Q.cIp, Q.addI, Q.subI, Q.mulI, Q.fdivI, Q.modI, Q.powI, Q.ltI, Q.leI, Q.gtI, Q.geI, Q.negI, Q.vAnd, Q.vOr, Q.vNot, Q.qAnd, Q.qOr, Q.qNot, Q.qIf, Q.chI, Q.tTupQ, Q.dNil, Q.dCons, Q.tLstQ, Q.tFz, Q.tCA, Q.lenD, Q.tupD, Q.isD, Q.isInt, Q.isBool, Q.isTup, Q.isStr, Q.isLst, Q.tLenN, Q.tIxN, Q.setQ, Q.aNil, Q.aD, Q.aK, Q.tCallQ, Q.tCallKQ, Q.pick, Q.sNil, Q.sSeq, Q.sRet, Q.sRetN, Q.sExpr, Q.sIf, Q.sSet, Q.sSetL, Q.sAsg, Q.sFor, Q.sPar2, Q.sPar3, Q.pNil, Q.pD, Q.pO, Q.pDn, Q.gN, Q.gT, Q.gsNil, Q.gsCons, Q.iQ, Q.itD, Q.iEn, Q.itE, Q.rg1, Q.rg2, Q.oNone, Q.oSome, Q.tSlQ, Q.revD, Q.tOwnM, Q.appC, Q.popC, Q.extC, Q.ownL, Q.tRepL, Q.repC, Q.sSetIx, Q.ixOwn, Q.tLcQ, Q.noOwn, Q.rstQ, Q.wipeQ, Q.sDn, Q.sSetD, Q.tDgetN, Q.dOwn, Q.tTupRg, Q.sNever, Q.isB, Q.listD, Q.listC, Q.reprD, Q.Sl.isOwn, List.map_cons, List.map_nil, List.replicate_succ, List.replicate_zero, List.cons_append, List.nil_append, List.append_nil, List.getElem?_cons_zero, List.getElem?_cons_succ, List.set_cons_zero, List.set_cons_succ, List.getD_cons_zero, List.getD_cons_succ, List.filterMap_cons, List.filterMap_nil, List.all_cons, List.all_nil, Bool.and_true, Bool.true_and, Bool.not_true, Bool.not_false, Bool.not_eq_true, Bool.false_eq_true, Bool.and_self, if_true, if_false, true_and, and_true, ↓reduceIte, eqD, neD, sh_int, eqv_int, eqv_strs, sDraw, List.length_cons, List.length_nil, Nat.zero_add, Nat.reduceAdd, decide_true, eq_self]
  refine ⟨ds, c, rfl, h1, h2, ?_⟩
  try simp only [Q.addF, Q.mulF, Q.bandI, Q.iZip, Q.itZ, Q.slD, Q.enOf, Q.tV, Q.tK, Q.t2, Q.t1, Q.tB, Q.cI, Q.cIp, Q.addI, Q.subI, Q.mulI, Q.fdivI, Q.modI, Q.powI, Q.ltI, Q.leI, Q.gtI, Q.geI, Q.negI, Q.vAnd, Q.vOr, Q.vNot, Q.qAnd, Q.qOr, Q.qNot, Q.qIf, Q.chI, Q.tTupQ, Q.dNil, Q.dCons, Q.tLstQ, Q.tFz, Q.tCA, Q.lenD, Q.tupD, Q.isD, Q.isInt, Q.isBool, Q.isTup, Q.isStr, Q.isLst, Q.tLenN, Q.tIxN, Q.setQ, Q.aNil, Q.aD, Q.aK, Q.tCallQ, Q.tCallKQ, Q.pick, Q.sNil, Q.sSeq, Q.sRet, Q.sRetN, Q.sExpr, Q.sIf, Q.sSet, Q.sSetL, Q.sAsg, Q.sFor, Q.sPar2, Q.sPar3, Q.pNil, Q.pD, Q.pO, Q.pDn, Q.gN, Q.gT, Q.gsNil, Q.gsCons, Q.iQ, Q.itD, Q.iEn, Q.itE, Q.rg1, Q.rg2, Q.oNone, Q.oSome, Q.tSlQ, Q.revD, Q.tOwnM, Q.appC, Q.popC, Q.extC, Q.ownL, Q.tRepL, Q.repC, Q.sSetIx, Q.ixOwn, Q.tLcQ, Q.noOwn, Q.rstQ, Q.wipeQ, Q.sDn, Q.sSetD, Q.tDgetN, Q.dOwn, Q.tTupRg, Q.sNever, Q.isB, Q.listD, Q.listC, Q.reprD, Q.Sl.isOwn, List.map_cons, List.map_nil, List.replicate_succ, List.replicate_zero, List.cons_append, List.nil_append, List.append_nil, List.getElem?_cons_zero, List.getElem?_cons_succ, List.set_cons_zero, List.set_cons_succ, List.getD_cons_zero, List.getD_cons_succ, List.filterMap_cons, List.filterMap_nil, List.all_cons, List.all_nil, Bool.and_true, Bool.true_and, Bool.not_true, Bool.not_false, Bool.not_eq_true, Bool.false_eq_true, Bool.and_self, if_true, if_false, true_and, and_true, ↓reduceIte, eqD, neD, sh_int, eqv_int, eqv_strs, sDraw, List.length_cons, List.length_nil, Nat.zero_add, Nat.reduceAdd, decide_true, eq_self]
  exact ⟨ds, c, rfl, h1.ok, h2, h1.few, h⟩
end T43
end P22
section P23
open PySem PySem.Spec PyProof.Rows L2 HT Q
namespace T43
def row (n : Nat) : List Int := (List.range n).map fun (i : Nat) => (i : Int)
theorem rg_row (n : Nat) : rg 0 n = (row n).map .int := by simp [rg, row]
theorem mem_row {n : Nat} {i : Int} : i ∈ row n ↔ 0 ≤ i ∧ i < n := by
  simp only [row, List.mem_map, List.mem_range]
  constructor
  · rintro ⟨k, hk, rfl⟩; omega
  · rintro ⟨h1, h2⟩; exact ⟨i.toNat, by omega, by omega⟩
theorem row_up (n : Nat) : (row n).Pairwise (· < ·) := by
  unfold row
  rw [List.pairwise_map]
  exact List.Pairwise.imp (fun h => by omega) (List.pairwise_lt_range (n := n))
theorem tn_big {i : Int} (h : i.natAbs.log2 < 40) : Tn 0 41 (.int i) := by
  refine ⟨by rw [PyData.showable]; exact decide_eq_true (by omega), by simp [PyData.canLay0], by simp [PyData.depth], ?_, ?_⟩
  · rw [PyData.shown, PySem.ofString_length]
    exact PySem.int_text_length_le (k := 40) (by decide) h
  · rw [PyData.shown]
    unfold PyData.strOk
    rw [Array.all_eq_true]
    intro k hk
    have := PySem.W.KSb.asc_num i (Str.ofString (toString i)).cps[k] (by simp)
    exact decide_eq_true (Nat.lt_of_lt_of_le this (by decide))
theorem tn_pos {i : Int} (h0 : -10 ≤ i) (h1 : i ≤ 2176782336) : Tn 0 41 (.int i) := tn_big (by
  have h : i.natAbs ≤ 2176782336 := by omega
  have h2 : i.natAbs < 2 ^ 40 := Nat.lt_of_le_of_lt h (by decide)
  by_cases z : i.natAbs = 0
  · rw [z]; decide
  · exact (Nat.log2_lt z).mpr h2)
theorem tn_pl {b : Bool} : Tn 0 8 (plD b) := by
  refine ⟨by simp [plD, PyData.showable], ?_, by simp [plD, PyData.depth], ?_, ?_⟩
  · cases b <;> (simp only [plD, PyData.canLay0]; decide +kernel)
  · cases b <;> (simp only [plD, PyData.shown]; decide +kernel)
  · cases b <;> (simp only [plD, PyData.shown]; decide +kernel)
theorem tn_desk {d : Desk} (h : d.length ≤ 6) : Tn 1 63 (deskD d) := tn_tup (k := 0) (B := 8) (n := 6) (fun x hx => by obtain ⟨b, _, rfl⟩ := List.mem_map.mp hx; exact tn_pl) (by simpa using h)
theorem tn_desks {ds : List Desk} (h : DsOk ds) (hl : ds.length ≤ 12) : Tn 2 783 (desksD ds) := tn_tup (k := 1) (B := 63) (n := 12) (fun x hx => by obtain ⟨d, hd, rfl⟩ := List.mem_map.mp hx; exact tn_desk (h d hd).2) (by simpa using hl)
theorem tn_code {ds : List Desk} {c : List Int} (hd : T43.Dk ds) (h : OkR ds c) : Tn 1 75 (tupI c) := tn_ints (n := 12) (fun i hi => by
  have : ∀ (ds : List Desk) (c : List Int), DsOk ds → OkR ds c → i ∈ c → -1000 < i ∧ i < 1000 := by
    intro ds
    induction ds with
    | nil => intro c _ ok hi; cases c with | nil => simp at hi | cons _ _ => exact ok.elim
    | cons d ds ih =>
      intro c hd ok hi
      cases c with
      | nil => exact ok.elim
      | cons p c =>
        have := hd d (by simp)
        rcases List.mem_cons.mp hi with rfl | hi
        · have := ok.1; omega
        · exact ih c (fun z hz => hd z (by simp [hz])) ok.2 hi
  exact this ds c hd.ok h hi) (by rw [h.length]; exact hd.few)
theorem rep2 {k B : Nat} {d : PyData} (h : Tn k B d) (hk : k ≤ 60) (hB : B ≤ 10000000) : RepOk d := h.rep hk hB
/-! ### draws -/
def sp__law_pick : PSpec := fun as R => ∃ xs : List Int, as = [.dk, .d (.list (xs.map .int))] ∧ xs ≠ [] ∧ xs.length ≤ 1000 ∧ ∀ x, x ∈ xs → R (.int x)
theorem len__law_pick : ∀ as R, sp__law_pick as R → as.length = 2 := by rintro as R ⟨n, rfl, _⟩; rfl
theorem rd__law_pick : ∀ as R, sp__law_pick as R → t__law_pick sDraw { nx := fun _ => R .none, rt := R } (enOf as 0) := by
  rintro as R ⟨xs, rfl, h1, h2, h⟩
  have h0 := List.length_pos_iff.mpr h1
  simp only [t__law_pick, Q.addF, Q.mulF, Q.bandI, Q.iZip, Q.itZ, Q.slD, Q.enOf, Q.tV, Q.tK, Q.t2, Q.t1, Q.tB, Q.cI, Q.cIp, Q.addI, Q.subI, Q.mulI, Q.fdivI, Q.modI, Q.powI, Q.ltI, Q.leI, Q.gtI, Q.geI, Q.negI, Q.vAnd, Q.vOr, Q.vNot, Q.qAnd, Q.qOr, Q.qNot, Q.qIf, Q.chI, Q.tTupQ, Q.dNil, Q.dCons, Q.tLstQ, Q.tFz, Q.tCA, Q.lenD, Q.tupD, Q.isD, Q.isInt, Q.isBool, Q.isTup, Q.isStr, Q.isLst, Q.tLenN, Q.tIxN, Q.setQ, Q.aNil, Q.aD, Q.aK, Q.tCallQ, Q.tCallKQ, Q.pick, Q.sNil, Q.sSeq, Q.sRet, Q.sRetN, Q.sExpr, Q.sIf, Q.sSet, Q.sSetL, Q.sAsg, Q.sFor, Q.sPar2, Q.sPar3, Q.pNil, Q.pD, Q.pO, Q.pDn, Q.gN, Q.gT, Q.gsNil, Q.gsCons, Q.iQ, Q.itD, Q.iEn, Q.itE, Q.rg1, Q.rg2, Q.oNone, Q.oSome, Q.tSlQ, Q.revD, Q.tOwnM, Q.appC, Q.popC, Q.extC, Q.ownL, Q.tRepL, Q.repC, Q.sSetIx, Q.ixOwn, Q.tLcQ, Q.noOwn, Q.rstQ, Q.wipeQ, Q.sDn, Q.sSetD, Q.tDgetN, Q.dOwn, Q.tTupRg, Q.sNever, Q.isB, Q.listD, Q.listC, Q.reprD, Q.Sl.isOwn, List.map_cons, List.map_nil, List.replicate_succ, List.replicate_zero, List.cons_append, List.nil_append, List.append_nil, List.getElem?_cons_zero, List.getElem?_cons_succ, List.set_cons_zero, List.set_cons_succ, List.getD_cons_zero, List.getD_cons_succ, List.filterMap_cons, List.filterMap_nil, List.all_cons, List.all_nil, Bool.and_true, Bool.true_and, Bool.not_true, Bool.not_false, Bool.not_eq_true, Bool.false_eq_true, Bool.and_self, if_true, if_false, true_and, and_true, ↓reduceIte, eqD, neD, sh_int, eqv_int, eqv_strs, sDraw, List.length_cons, List.length_nil, Nat.zero_add, Nat.reduceAdd, decide_true, eq_self, List.length_map]
  refine ⟨by omega, by omega, fun r hr1 hr2 => ?_⟩
  simp only [ixD]
  refine ⟨_, at_int hr1 hr2, h _ ?_⟩
  have h3 : r.toNat < xs.length := by omega
  simp [List.getD_eq_getElem?_getD, h3]
def sp__law_is_integer : PSpec := fun as R => ∃ i a b : Int, as = [.d (.int i), .d (.int a), .d (.int b)] ∧ R (.bool (decide (a ≤ i) && decide (i ≤ b)))
theorem len__law_is_integer : ∀ as R, sp__law_is_integer as R → as.length = 3 := by rintro as R ⟨i, a, b, rfl, _⟩; rfl
theorem rd__law_is_integer : ∀ as R, sp__law_is_integer as R → t__law_is_integer { nx := fun _ => R .none, rt := R } (enOf as 0) := by
  rintro as R ⟨i, a, b, rfl, h⟩
  simp only [t__law_is_integer, Q.addF, Q.mulF, Q.bandI, Q.iZip, Q.itZ, Q.slD, Q.enOf, Q.tV, Q.tK, Q.t2, Q.t1, Q.tB, Q.cI, Q.cIp, Q.addI, Q.subI, Q.mulI, Q.fdivI, Q.modI, Q.powI, Q.ltI, Q.leI, Q.gtI, Q.geI, Q.negI, Q.vAnd, Q.vOr, Q.vNot, Q.qAnd, Q.qOr, Q.qNot, Q.qIf, Q.chI, Q.tTupQ, Q.dNil, Q.dCons, Q.tLstQ, Q.tFz, Q.tCA, Q.lenD, Q.tupD, Q.isD, Q.isInt, Q.isBool, Q.isTup, Q.isStr, Q.isLst, Q.tLenN, Q.tIxN, Q.setQ, Q.aNil, Q.aD, Q.aK, Q.tCallQ, Q.tCallKQ, Q.pick, Q.sNil, Q.sSeq, Q.sRet, Q.sRetN, Q.sExpr, Q.sIf, Q.sSet, Q.sSetL, Q.sAsg, Q.sFor, Q.sPar2, Q.sPar3, Q.pNil, Q.pD, Q.pO, Q.pDn, Q.gN, Q.gT, Q.gsNil, Q.gsCons, Q.iQ, Q.itD, Q.iEn, Q.itE, Q.rg1, Q.rg2, Q.oNone, Q.oSome, Q.tSlQ, Q.revD, Q.tOwnM, Q.appC, Q.popC, Q.extC, Q.ownL, Q.tRepL, Q.repC, Q.sSetIx, Q.ixOwn, Q.tLcQ, Q.noOwn, Q.rstQ, Q.wipeQ, Q.sDn, Q.sSetD, Q.tDgetN, Q.dOwn, Q.tTupRg, Q.sNever, Q.isB, Q.listD, Q.listC, Q.reprD, Q.Sl.isOwn, List.map_cons, List.map_nil, List.replicate_succ, List.replicate_zero, List.cons_append, List.nil_append, List.append_nil, List.getElem?_cons_zero, List.getElem?_cons_succ, List.set_cons_zero, List.set_cons_succ, List.getD_cons_zero, List.getD_cons_succ, List.filterMap_cons, List.filterMap_nil, List.all_cons, List.all_nil, Bool.and_true, Bool.true_and, Bool.not_true, Bool.not_false, Bool.not_eq_true, Bool.false_eq_true, Bool.and_self, if_true, if_false, true_and, and_true, ↓reduceIte, eqD, neD, sh_int, eqv_int, eqv_strs, sDraw, List.length_cons, List.length_nil, Nat.zero_add, Nat.reduceAdd, decide_true, eq_self]
  exact and_b h
theorem two_at {w : Int} (h0 : 0 ≤ w) (h1 : w < 2) : ∃ b : Bool, atI [PyData.str (Str.ofString "tray"), PyData.str (Str.ofString "pile")] w = some (plD b) := by
  rcases (by omega : w = 0 ∨ w = 1) with rfl | rfl
  · exact ⟨false, atI_nat (j := 0) rfl⟩
  · exact ⟨true, atI_nat (j := 1) rfl⟩
theorem flat_rep (n : Nat) (x : PyData) : (List.replicate n [x]).flatten = List.replicate n x := by
  induction n with
  | zero => rfl
  | succ n ih => rw [List.replicate_succ, List.flatten_cons, ih]; rfl
theorem F2.pls {α : Type} {as : List α} {bs : List PyData} (h : F2 (fun _ y => ∃ b : Bool, y = plD b) as bs) : ∃ d : Desk, bs = d.map plD ∧ d.length = as.length := by
  induction h with
  | nil => exact ⟨[], rfl, rfl⟩
  | cons a _ ih =>
    obtain ⟨d, rfl, hl⟩ := ih
    obtain ⟨b, rfl⟩ := a
    exact ⟨b :: d, rfl, by simp [hl]⟩
def sp__law_desk : PSpec := fun as R => ∃ m : Int, as = [.dk, .d (.int m)] ∧ 1 ≤ m ∧ m ≤ 6 ∧ ∀ d : Desk, 1 ≤ d.length → d.length ≤ 6 → R (deskD d)
theorem len__law_desk : ∀ as R, sp__law_desk as R → as.length = 2 := by rintro as R ⟨i, rfl, _⟩; rfl
theorem rd__law_desk : ∀ as R, sp__law_desk as R → t__law_desk sDraw { nx := fun _ => R .none, rt := R } (enOf as 3) := by
  rintro as R ⟨m, rfl, h1, h2, h⟩
  simp only [t__law_desk, Q.addF, Q.mulF, Q.bandI, Q.iZip, Q.itZ, Q.slD, Q.enOf, Q.tV, Q.tK, Q.t2, Q.t1, Q.tB, Q.cI, Q.cIp, Q.addI, Q.subI, Q.mulI, Q.fdivI, Q.modI, Q.powI, Q.ltI, Q.leI, Q.gtI, Q.geI, Q.negI, Q.vAnd, Q.vOr, Q.vNot, Q.qAnd, Q.qOr, Q.qNot, Q.qIf, Q.chI, Q.tTupQ, Q.dNil, Q.dCons, Q.tLstQ, Q.tFz, Q.tCA, Q.lenD, Q.tupD, Q.isD, Q.isInt, Q.isBool, Q.isTup, Q.isStr, Q.isLst, Q.tLenN, Q.tIxN, Q.setQ, Q.aNil, Q.aD, Q.aK, Q.tCallQ, Q.tCallKQ, Q.pick, Q.sNil, Q.sSeq, Q.sRet, Q.sRetN, Q.sExpr, Q.sIf, Q.sSet, Q.sSetL, Q.sAsg, Q.sFor, Q.sPar2, Q.sPar3, Q.pNil, Q.pD, Q.pO, Q.pDn, Q.gN, Q.gT, Q.gsNil, Q.gsCons, Q.iQ, Q.itD, Q.iEn, Q.itE, Q.rg1, Q.rg2, Q.oNone, Q.oSome, Q.tSlQ, Q.revD, Q.tOwnM, Q.appC, Q.popC, Q.extC, Q.ownL, Q.tRepL, Q.repC, Q.sSetIx, Q.ixOwn, Q.tLcQ, Q.noOwn, Q.rstQ, Q.wipeQ, Q.sDn, Q.sSetD, Q.tDgetN, Q.dOwn, Q.tTupRg, Q.sNever, Q.isB, Q.listD, Q.listC, Q.reprD, Q.Sl.isOwn, List.map_cons, List.map_nil, List.replicate_succ, List.replicate_zero, List.cons_append, List.nil_append, List.append_nil, List.getElem?_cons_zero, List.getElem?_cons_succ, List.set_cons_zero, List.set_cons_succ, List.getD_cons_zero, List.getD_cons_succ, List.filterMap_cons, List.filterMap_nil, List.all_cons, List.all_nil, Bool.and_true, Bool.true_and, Bool.not_true, Bool.not_false, Bool.not_eq_true, Bool.false_eq_true, Bool.and_self, if_true, if_false, true_and, and_true, ↓reduceIte, eqD, neD, sh_int, eqv_int, eqv_strs, sDraw, List.length_cons, List.length_nil, Nat.zero_add, Nat.reduceAdd, decide_true, eq_self]
  refine ⟨by omega, by omega, fun r hr1 hr2 => ⟨by omega, by omega, fun w hw1 hw2 => ?_⟩⟩
  cases e : decide (w < 2) with
  | true =>
    simp only [Q.addF, Q.mulF, Q.bandI, Q.iZip, Q.itZ, Q.slD, Q.enOf, Q.tV, Q.tK, Q.t2, Q.t1, Q.tB, Q.cI, Q.cIp, Q.addI, Q.subI, Q.mulI, Q.fdivI, Q.modI, Q.powI, Q.ltI, Q.leI, Q.gtI, Q.geI, Q.negI, Q.vAnd, Q.vOr, Q.vNot, Q.qAnd, Q.qOr, Q.qNot, Q.qIf, Q.chI, Q.tTupQ, Q.dNil, Q.dCons, Q.tLstQ, Q.tFz, Q.tCA, Q.lenD, Q.tupD, Q.isD, Q.isInt, Q.isBool, Q.isTup, Q.isStr, Q.isLst, Q.tLenN, Q.tIxN, Q.setQ, Q.aNil, Q.aD, Q.aK, Q.tCallQ, Q.tCallKQ, Q.pick, Q.sNil, Q.sSeq, Q.sRet, Q.sRetN, Q.sExpr, Q.sIf, Q.sSet, Q.sSetL, Q.sAsg, Q.sFor, Q.sPar2, Q.sPar3, Q.pNil, Q.pD, Q.pO, Q.pDn, Q.gN, Q.gT, Q.gsNil, Q.gsCons, Q.iQ, Q.itD, Q.iEn, Q.itE, Q.rg1, Q.rg2, Q.oNone, Q.oSome, Q.tSlQ, Q.revD, Q.tOwnM, Q.appC, Q.popC, Q.extC, Q.ownL, Q.tRepL, Q.repC, Q.sSetIx, Q.ixOwn, Q.tLcQ, Q.noOwn, Q.rstQ, Q.wipeQ, Q.sDn, Q.sSetD, Q.tDgetN, Q.dOwn, Q.tTupRg, Q.sNever, Q.isB, Q.listD, Q.listC, Q.reprD, Q.Sl.isOwn, List.map_cons, List.map_nil, List.replicate_succ, List.replicate_zero, List.cons_append, List.nil_append, List.append_nil, List.getElem?_cons_zero, List.getElem?_cons_succ, List.set_cons_zero, List.set_cons_succ, List.getD_cons_zero, List.getD_cons_succ, List.filterMap_cons, List.filterMap_nil, List.all_cons, List.all_nil, Bool.and_true, Bool.true_and, Bool.not_true, Bool.not_false, Bool.not_eq_true, Bool.false_eq_true, Bool.and_self, if_true, if_false, true_and, and_true, ↓reduceIte, eqD, neD, sh_int, eqv_int, eqv_strs, sDraw, List.length_cons, List.length_nil, Nat.zero_add, Nat.reduceAdd, decide_true, eq_self, ixD]
    have hw3 : w < 2 := of_decide_eq_true e
    obtain ⟨b, hb⟩ := two_at hw1 hw3
    refine ⟨by decide, _, hb, by decide, by simp, by omega, by omega, by decide, ?_⟩
    rw [flat_rep, ← List.map_replicate]
    exact h (List.replicate (1 + r).toNat b) (by rw [List.length_replicate]; omega) (by rw [List.length_replicate]; omega)
  | false =>
    simp only [Q.addF, Q.mulF, Q.bandI, Q.iZip, Q.itZ, Q.slD, Q.enOf, Q.tV, Q.tK, Q.t2, Q.t1, Q.tB, Q.cI, Q.cIp, Q.addI, Q.subI, Q.mulI, Q.fdivI, Q.modI, Q.powI, Q.ltI, Q.leI, Q.gtI, Q.geI, Q.negI, Q.vAnd, Q.vOr, Q.vNot, Q.qAnd, Q.qOr, Q.qNot, Q.qIf, Q.chI, Q.tTupQ, Q.dNil, Q.dCons, Q.tLstQ, Q.tFz, Q.tCA, Q.lenD, Q.tupD, Q.isD, Q.isInt, Q.isBool, Q.isTup, Q.isStr, Q.isLst, Q.tLenN, Q.tIxN, Q.setQ, Q.aNil, Q.aD, Q.aK, Q.tCallQ, Q.tCallKQ, Q.pick, Q.sNil, Q.sSeq, Q.sRet, Q.sRetN, Q.sExpr, Q.sIf, Q.sSet, Q.sSetL, Q.sAsg, Q.sFor, Q.sPar2, Q.sPar3, Q.pNil, Q.pD, Q.pO, Q.pDn, Q.gN, Q.gT, Q.gsNil, Q.gsCons, Q.iQ, Q.itD, Q.iEn, Q.itE, Q.rg1, Q.rg2, Q.oNone, Q.oSome, Q.tSlQ, Q.revD, Q.tOwnM, Q.appC, Q.popC, Q.extC, Q.ownL, Q.tRepL, Q.repC, Q.sSetIx, Q.ixOwn, Q.tLcQ, Q.noOwn, Q.rstQ, Q.wipeQ, Q.sDn, Q.sSetD, Q.tDgetN, Q.dOwn, Q.tTupRg, Q.sNever, Q.isB, Q.listD, Q.listC, Q.reprD, Q.Sl.isOwn, List.map_cons, List.map_nil, List.replicate_succ, List.replicate_zero, List.cons_append, List.nil_append, List.append_nil, List.getElem?_cons_zero, List.getElem?_cons_succ, List.set_cons_zero, List.set_cons_succ, List.getD_cons_zero, List.getD_cons_succ, List.filterMap_cons, List.filterMap_nil, List.all_cons, List.all_nil, Bool.and_true, Bool.true_and, Bool.not_true, Bool.not_false, Bool.not_eq_true, Bool.false_eq_true, Bool.and_self, if_true, if_false, true_and, and_true, ↓reduceIte, eqD, neD, sh_int, eqv_int, eqv_strs, sDraw, List.length_cons, List.length_nil, Nat.zero_add, Nat.reduceAdd, decide_true, eq_self]
    refine ⟨by omega, by omega, ?_⟩
    refine comp_any (fun _ y => ∃ b : Bool, y = plD b) (fun x hx Rk hk => ?_) fun outs ho => ?_
    · simp only [Q.addF, Q.mulF, Q.bandI, Q.iZip, Q.itZ, Q.slD, Q.enOf, Q.tV, Q.tK, Q.t2, Q.t1, Q.tB, Q.cI, Q.cIp, Q.addI, Q.subI, Q.mulI, Q.fdivI, Q.modI, Q.powI, Q.ltI, Q.leI, Q.gtI, Q.geI, Q.negI, Q.vAnd, Q.vOr, Q.vNot, Q.qAnd, Q.qOr, Q.qNot, Q.qIf, Q.chI, Q.tTupQ, Q.dNil, Q.dCons, Q.tLstQ, Q.tFz, Q.tCA, Q.lenD, Q.tupD, Q.isD, Q.isInt, Q.isBool, Q.isTup, Q.isStr, Q.isLst, Q.tLenN, Q.tIxN, Q.setQ, Q.aNil, Q.aD, Q.aK, Q.tCallQ, Q.tCallKQ, Q.pick, Q.sNil, Q.sSeq, Q.sRet, Q.sRetN, Q.sExpr, Q.sIf, Q.sSet, Q.sSetL, Q.sAsg, Q.sFor, Q.sPar2, Q.sPar3, Q.pNil, Q.pD, Q.pO, Q.pDn, Q.gN, Q.gT, Q.gsNil, Q.gsCons, Q.iQ, Q.itD, Q.iEn, Q.itE, Q.rg1, Q.rg2, Q.oNone, Q.oSome, Q.tSlQ, Q.revD, Q.tOwnM, Q.appC, Q.popC, Q.extC, Q.ownL, Q.tRepL, Q.repC, Q.sSetIx, Q.ixOwn, Q.tLcQ, Q.noOwn, Q.rstQ, Q.wipeQ, Q.sDn, Q.sSetD, Q.tDgetN, Q.dOwn, Q.tTupRg, Q.sNever, Q.isB, Q.listD, Q.listC, Q.reprD, Q.Sl.isOwn, List.map_cons, List.map_nil, List.replicate_succ, List.replicate_zero, List.cons_append, List.nil_append, List.append_nil, List.getElem?_cons_zero, List.getElem?_cons_succ, List.set_cons_zero, List.set_cons_succ, List.getD_cons_zero, List.getD_cons_succ, List.filterMap_cons, List.filterMap_nil, List.all_cons, List.all_nil, Bool.and_true, Bool.true_and, Bool.not_true, Bool.not_false, Bool.not_eq_true, Bool.false_eq_true, Bool.and_self, if_true, if_false, true_and, and_true, ↓reduceIte, eqD, neD, sh_int, eqv_int, eqv_strs, sDraw, List.length_cons, List.length_nil, Nat.zero_add, Nat.reduceAdd, decide_true, eq_self, ixD]
      refine ⟨by decide, by decide, by decide, fun z hz1 hz2 => ?_⟩
      obtain ⟨b, hb⟩ := two_at hz1 hz2
      exact ⟨_, hb, hk _ _ ⟨b, rfl⟩ (by simp only [Q.addF, Q.mulF, Q.bandI, Q.iZip, Q.itZ, Q.slD, Q.enOf, Q.tV, Q.tK, Q.t2, Q.t1, Q.tB, Q.cI, Q.cIp, Q.addI, Q.subI, Q.mulI, Q.fdivI, Q.modI, Q.powI, Q.ltI, Q.leI, Q.gtI, Q.geI, Q.negI, Q.vAnd, Q.vOr, Q.vNot, Q.qAnd, Q.qOr, Q.qNot, Q.qIf, Q.chI, Q.tTupQ, Q.dNil, Q.dCons, Q.tLstQ, Q.tFz, Q.tCA, Q.lenD, Q.tupD, Q.isD, Q.isInt, Q.isBool, Q.isTup, Q.isStr, Q.isLst, Q.tLenN, Q.tIxN, Q.setQ, Q.aNil, Q.aD, Q.aK, Q.tCallQ, Q.tCallKQ, Q.pick, Q.sNil, Q.sSeq, Q.sRet, Q.sRetN, Q.sExpr, Q.sIf, Q.sSet, Q.sSetL, Q.sAsg, Q.sFor, Q.sPar2, Q.sPar3, Q.pNil, Q.pD, Q.pO, Q.pDn, Q.gN, Q.gT, Q.gsNil, Q.gsCons, Q.iQ, Q.itD, Q.iEn, Q.itE, Q.rg1, Q.rg2, Q.oNone, Q.oSome, Q.tSlQ, Q.revD, Q.tOwnM, Q.appC, Q.popC, Q.extC, Q.ownL, Q.tRepL, Q.repC, Q.sSetIx, Q.ixOwn, Q.tLcQ, Q.noOwn, Q.rstQ, Q.wipeQ, Q.sDn, Q.sSetD, Q.tDgetN, Q.dOwn, Q.tTupRg, Q.sNever, Q.isB, Q.listD, Q.listC, Q.reprD, Q.Sl.isOwn, List.map_cons, List.map_nil, List.replicate_succ, List.replicate_zero, List.cons_append, List.nil_append, List.append_nil, List.getElem?_cons_zero, List.getElem?_cons_succ, List.set_cons_zero, List.set_cons_succ, List.getD_cons_zero, List.getD_cons_succ, List.filterMap_cons, List.filterMap_nil, List.all_cons, List.all_nil, Bool.and_true, Bool.true_and, Bool.not_true, Bool.not_false, Bool.not_eq_true, Bool.false_eq_true, Bool.and_self, if_true, if_false, true_and, and_true, ↓reduceIte, eqD, neD, sh_int, eqv_int, eqv_strs, sDraw, List.length_cons, List.length_nil, Nat.zero_add, Nat.reduceAdd, decide_true, eq_self])⟩
    · obtain ⟨d, rfl, hl⟩ := F2.pls ho
      rw [rg_length] at hl
      try simp only [Q.addF, Q.mulF, Q.bandI, Q.iZip, Q.itZ, Q.slD, Q.enOf, Q.tV, Q.tK, Q.t2, Q.t1, Q.tB, Q.cI, Q.cIp, Q.addI, Q.subI, Q.mulI, Q.fdivI, Q.modI, Q.powI, Q.ltI, Q.leI, Q.gtI, Q.geI, Q.negI, Q.vAnd, Q.vOr, Q.vNot, Q.qAnd, Q.qOr, Q.qNot, Q.qIf, Q.chI, Q.tTupQ, Q.dNil, Q.dCons, Q.tLstQ, Q.tFz, Q.tCA, Q.lenD, Q.tupD, Q.isD, Q.isInt, Q.isBool, Q.isTup, Q.isStr, Q.isLst, Q.tLenN, Q.tIxN, Q.setQ, Q.aNil, Q.aD, Q.aK, Q.tCallQ, Q.tCallKQ, Q.pick, Q.sNil, Q.sSeq, Q.sRet, Q.sRetN, Q.sExpr, Q.sIf, Q.sSet, Q.sSetL, Q.sAsg, Q.sFor, Q.sPar2, Q.sPar3, Q.pNil, Q.pD, Q.pO, Q.pDn, Q.gN, Q.gT, Q.gsNil, Q.gsCons, Q.iQ, Q.itD, Q.iEn, Q.itE, Q.rg1, Q.rg2, Q.oNone, Q.oSome, Q.tSlQ, Q.revD, Q.tOwnM, Q.appC, Q.popC, Q.extC, Q.ownL, Q.tRepL, Q.repC, Q.sSetIx, Q.ixOwn, Q.tLcQ, Q.noOwn, Q.rstQ, Q.wipeQ, Q.sDn, Q.sSetD, Q.tDgetN, Q.dOwn, Q.tTupRg, Q.sNever, Q.isB, Q.listD, Q.listC, Q.reprD, Q.Sl.isOwn, List.map_cons, List.map_nil, List.replicate_succ, List.replicate_zero, List.cons_append, List.nil_append, List.append_nil, List.getElem?_cons_zero, List.getElem?_cons_succ, List.set_cons_zero, List.set_cons_succ, List.getD_cons_zero, List.getD_cons_succ, List.filterMap_cons, List.filterMap_nil, List.all_cons, List.all_nil, Bool.and_true, Bool.true_and, Bool.not_true, Bool.not_false, Bool.not_eq_true, Bool.false_eq_true, Bool.and_self, if_true, if_false, true_and, and_true, ↓reduceIte, eqD, neD, sh_int, eqv_int, eqv_strs, sDraw, List.length_cons, List.length_nil, Nat.zero_add, Nat.reduceAdd, decide_true, eq_self]
      exact h d (by omega) (by omega)
def lpTail : TQS := (sIf (tB (t2 leI (t2 mulF (tV 4) (tLenN 8)) (tV 2))) (sSeq (sExpr (tOwnM 3 appC (dCons (tV 8) dNil)))
  (sSet 4 (t2 mulF (tV 4) (tLenN 8)))) sNil)
def lpBody : TQS := (sSeq (sSet 8 (qIf (tB (tV 6)) (tV 5) (tCallQ sp__law_desk (aK 0 (aD (tCallQ sp__law_pick (aK 0 (aD (tFz (tLstQ (dCons (tK (.int 2)) (dCons (tK (.int 3)) (dCons (tK (.int 2)) (dCons (tK (.int 6)) dNil)))))) aNil))) aNil)))))
  (sIf (tB (t2 leI (t2 mulF (tV 4) (tLenN 8)) (tV 2))) (sSeq (sExpr (tOwnM 3 appC (dCons (tV 8) dNil)))
  (sSet 4 (t2 mulF (tV 4) (tLenN 8)))) sNil))
theorem loop_desks (R : EndsQ) (s1 : Sl) (lim : Int) (first : Desk) (hf1 : 1 ≤ first.length) (hf2 : first.length ≤ 6) (one : Bool) : ∀ (xs : List PyData) (found : List Desk) (codes : Int) (s7 s8 : Sl), DsOk found → found.length + xs.length ≤ 12 →
    (∀ (found : List Desk) s4 s7 s8, DsOk found → found.length ≤ 12 → R.nx [.dk, s1, .d (.int lim), .own (found.map deskD), s4, .d (deskD first), .d (.bool one), s7, s8]) →
    forQ (gN 7) lpBody R xs [.dk, s1, .d (.int lim), .own (found.map deskD), .d (.int codes), .d (deskD first), .d (.bool one), s7, s8]
  | [], found, codes, s7, s8, ok, hl, h => by simpa only [forQ] using h found (.d (.int codes)) s7 s8 ok (by simpa using hl)
  | x :: xs, found, codes, s7, s8, ok, hl, h => by
    rw [List.length_cons] at hl
    have next : ∀ d : Desk, 1 ≤ d.length → d.length ≤ 6 → lpTail { R with nx := forQ (gN 7) lpBody R xs, bk := R.nx, ct := forQ (gN 7) lpBody R xs } [.dk, s1, .d (.int lim), .own (found.map deskD), .d (.int codes), .d (deskD first), .d (.bool one), .d x, .d (deskD d)] := fun d hd1 hd2 => by
      simp only [lpTail, deskD, Q.addF, Q.mulF, Q.bandI, Q.iZip, Q.itZ, Q.slD, Q.enOf, Q.tV, Q.tK, Q.t2, Q.t1, Q.tB, Q.cI, Q.cIp, Q.addI, Q.subI, Q.mulI, Q.fdivI, Q.modI, Q.powI, Q.ltI, Q.leI, Q.gtI, Q.geI, Q.negI, Q.vAnd, Q.vOr, Q.vNot, Q.qAnd, Q.qOr, Q.qNot, Q.qIf, Q.chI, Q.tTupQ, Q.dNil, Q.dCons, Q.tLstQ, Q.tFz, Q.tCA, Q.lenD, Q.tupD, Q.isD, Q.isInt, Q.isBool, Q.isTup, Q.isStr, Q.isLst, Q.tLenN, Q.tIxN, Q.setQ, Q.aNil, Q.aD, Q.aK, Q.tCallQ, Q.tCallKQ, Q.pick, Q.sNil, Q.sSeq, Q.sRet, Q.sRetN, Q.sExpr, Q.sIf, Q.sSet, Q.sSetL, Q.sAsg, Q.sFor, Q.sPar2, Q.sPar3, Q.pNil, Q.pD, Q.pO, Q.pDn, Q.gN, Q.gT, Q.gsNil, Q.gsCons, Q.iQ, Q.itD, Q.iEn, Q.itE, Q.rg1, Q.rg2, Q.oNone, Q.oSome, Q.tSlQ, Q.revD, Q.tOwnM, Q.appC, Q.popC, Q.extC, Q.ownL, Q.tRepL, Q.repC, Q.sSetIx, Q.ixOwn, Q.tLcQ, Q.noOwn, Q.rstQ, Q.wipeQ, Q.sDn, Q.sSetD, Q.tDgetN, Q.dOwn, Q.tTupRg, Q.sNever, Q.isB, Q.listD, Q.listC, Q.reprD, Q.Sl.isOwn, List.map_cons, List.map_nil, List.replicate_succ, List.replicate_zero, List.cons_append, List.nil_append, List.append_nil, List.getElem?_cons_zero, List.getElem?_cons_succ, List.set_cons_zero, List.set_cons_succ, List.getD_cons_zero, List.getD_cons_succ, List.filterMap_cons, List.filterMap_nil, List.all_cons, List.all_nil, Bool.and_true, Bool.true_and, Bool.not_true, Bool.not_false, Bool.not_eq_true, Bool.false_eq_true, Bool.and_self, if_true, if_false, true_and, and_true, ↓reduceIte, eqD, neD, sh_int, eqv_int, eqv_strs, sDraw, List.length_cons, List.length_nil, Nat.zero_add, Nat.reduceAdd, decide_true, eq_self, List.length_map]
      refine ⟨.inr ⟨by omega, by omega⟩, ?_⟩
      cases e : decide (codes * (d.length : Int) ≤ lim) with
      | true =>
        simp only [Q.addF, Q.mulF, Q.bandI, Q.iZip, Q.itZ, Q.slD, Q.enOf, Q.tV, Q.tK, Q.t2, Q.t1, Q.tB, Q.cI, Q.cIp, Q.addI, Q.subI, Q.mulI, Q.fdivI, Q.modI, Q.powI, Q.ltI, Q.leI, Q.gtI, Q.geI, Q.negI, Q.vAnd, Q.vOr, Q.vNot, Q.qAnd, Q.qOr, Q.qNot, Q.qIf, Q.chI, Q.tTupQ, Q.dNil, Q.dCons, Q.tLstQ, Q.tFz, Q.tCA, Q.lenD, Q.tupD, Q.isD, Q.isInt, Q.isBool, Q.isTup, Q.isStr, Q.isLst, Q.tLenN, Q.tIxN, Q.setQ, Q.aNil, Q.aD, Q.aK, Q.tCallQ, Q.tCallKQ, Q.pick, Q.sNil, Q.sSeq, Q.sRet, Q.sRetN, Q.sExpr, Q.sIf, Q.sSet, Q.sSetL, Q.sAsg, Q.sFor, Q.sPar2, Q.sPar3, Q.pNil, Q.pD, Q.pO, Q.pDn, Q.gN, Q.gT, Q.gsNil, Q.gsCons, Q.iQ, Q.itD, Q.iEn, Q.itE, Q.rg1, Q.rg2, Q.oNone, Q.oSome, Q.tSlQ, Q.revD, Q.tOwnM, Q.appC, Q.popC, Q.extC, Q.ownL, Q.tRepL, Q.repC, Q.sSetIx, Q.ixOwn, Q.tLcQ, Q.noOwn, Q.rstQ, Q.wipeQ, Q.sDn, Q.sSetD, Q.tDgetN, Q.dOwn, Q.tTupRg, Q.sNever, Q.isB, Q.listD, Q.listC, Q.reprD, Q.Sl.isOwn, List.map_cons, List.map_nil, List.replicate_succ, List.replicate_zero, List.cons_append, List.nil_append, List.append_nil, List.getElem?_cons_zero, List.getElem?_cons_succ, List.set_cons_zero, List.set_cons_succ, List.getD_cons_zero, List.getD_cons_succ, List.filterMap_cons, List.filterMap_nil, List.all_cons, List.all_nil, Bool.and_true, Bool.true_and, Bool.not_true, Bool.not_false, Bool.not_eq_true, Bool.false_eq_true, Bool.and_self, if_true, if_false, true_and, and_true, ↓reduceIte, eqD, neD, sh_int, eqv_int, eqv_strs, sDraw, List.length_cons, List.length_nil, Nat.zero_add, Nat.reduceAdd, decide_true, eq_self, List.length_map]
        refine ⟨by omega, .inr ⟨by omega, by omega⟩, ?_⟩
        have step := loop_desks R s1 lim first hf1 hf2 one xs (found ++ [d]) (codes * (d.length : Int)) (.d x) (.d (deskD d)) (fun z hz => by
          rcases List.mem_append.mp hz with hz | hz
          · exact ok z hz
          · rw [List.mem_singleton] at hz; subst hz; exact ⟨hd1, hd2⟩) (by rw [List.length_append]; simp; omega) h
        rw [List.map_append] at step
        exact step
      | false =>
        simp only [Q.addF, Q.mulF, Q.bandI, Q.iZip, Q.itZ, Q.slD, Q.enOf, Q.tV, Q.tK, Q.t2, Q.t1, Q.tB, Q.cI, Q.cIp, Q.addI, Q.subI, Q.mulI, Q.fdivI, Q.modI, Q.powI, Q.ltI, Q.leI, Q.gtI, Q.geI, Q.negI, Q.vAnd, Q.vOr, Q.vNot, Q.qAnd, Q.qOr, Q.qNot, Q.qIf, Q.chI, Q.tTupQ, Q.dNil, Q.dCons, Q.tLstQ, Q.tFz, Q.tCA, Q.lenD, Q.tupD, Q.isD, Q.isInt, Q.isBool, Q.isTup, Q.isStr, Q.isLst, Q.tLenN, Q.tIxN, Q.setQ, Q.aNil, Q.aD, Q.aK, Q.tCallQ, Q.tCallKQ, Q.pick, Q.sNil, Q.sSeq, Q.sRet, Q.sRetN, Q.sExpr, Q.sIf, Q.sSet, Q.sSetL, Q.sAsg, Q.sFor, Q.sPar2, Q.sPar3, Q.pNil, Q.pD, Q.pO, Q.pDn, Q.gN, Q.gT, Q.gsNil, Q.gsCons, Q.iQ, Q.itD, Q.iEn, Q.itE, Q.rg1, Q.rg2, Q.oNone, Q.oSome, Q.tSlQ, Q.revD, Q.tOwnM, Q.appC, Q.popC, Q.extC, Q.ownL, Q.tRepL, Q.repC, Q.sSetIx, Q.ixOwn, Q.tLcQ, Q.noOwn, Q.rstQ, Q.wipeQ, Q.sDn, Q.sSetD, Q.tDgetN, Q.dOwn, Q.tTupRg, Q.sNever, Q.isB, Q.listD, Q.listC, Q.reprD, Q.Sl.isOwn, List.map_cons, List.map_nil, List.replicate_succ, List.replicate_zero, List.cons_append, List.nil_append, List.append_nil, List.getElem?_cons_zero, List.getElem?_cons_succ, List.set_cons_zero, List.set_cons_succ, List.getD_cons_zero, List.getD_cons_succ, List.filterMap_cons, List.filterMap_nil, List.all_cons, List.all_nil, Bool.and_true, Bool.true_and, Bool.not_true, Bool.not_false, Bool.not_eq_true, Bool.false_eq_true, Bool.and_self, if_true, if_false, true_and, and_true, ↓reduceIte, eqD, neD, sh_int, eqv_int, eqv_strs, sDraw, List.length_cons, List.length_nil, Nat.zero_add, Nat.reduceAdd, decide_true, eq_self]
        exact loop_desks R s1 lim first hf1 hf2 one xs found codes (.d x) (.d (deskD d)) ok (by omega) h
    simp only [forQ, lpBody, gN]
    show sSeq _ lpTail _ _
    simp only [Q.addF, Q.mulF, Q.bandI, Q.iZip, Q.itZ, Q.slD, Q.enOf, Q.tV, Q.tK, Q.t2, Q.t1, Q.tB, Q.cI, Q.cIp, Q.addI, Q.subI, Q.mulI, Q.fdivI, Q.modI, Q.powI, Q.ltI, Q.leI, Q.gtI, Q.geI, Q.negI, Q.vAnd, Q.vOr, Q.vNot, Q.qAnd, Q.qOr, Q.qNot, Q.qIf, Q.chI, Q.tTupQ, Q.dNil, Q.dCons, Q.tLstQ, Q.tFz, Q.tCA, Q.lenD, Q.tupD, Q.isD, Q.isInt, Q.isBool, Q.isTup, Q.isStr, Q.isLst, Q.tLenN, Q.tIxN, Q.setQ, Q.aNil, Q.aD, Q.aK, Q.tCallQ, Q.tCallKQ, Q.pick, Q.sNil, Q.sSeq, Q.sRet, Q.sRetN, Q.sExpr, Q.sIf, Q.sSet, Q.sSetL, Q.sAsg, Q.sFor, Q.sPar2, Q.sPar3, Q.pNil, Q.pD, Q.pO, Q.pDn, Q.gN, Q.gT, Q.gsNil, Q.gsCons, Q.iQ, Q.itD, Q.iEn, Q.itE, Q.rg1, Q.rg2, Q.oNone, Q.oSome, Q.tSlQ, Q.revD, Q.tOwnM, Q.appC, Q.popC, Q.extC, Q.ownL, Q.tRepL, Q.repC, Q.sSetIx, Q.ixOwn, Q.tLcQ, Q.noOwn, Q.rstQ, Q.wipeQ, Q.sDn, Q.sSetD, Q.tDgetN, Q.dOwn, Q.tTupRg, Q.sNever, Q.isB, Q.listD, Q.listC, Q.reprD, Q.Sl.isOwn, List.map_cons, List.map_nil, List.replicate_succ, List.replicate_zero, List.cons_append, List.nil_append, List.append_nil, List.getElem?_cons_zero, List.getElem?_cons_succ, List.set_cons_zero, List.set_cons_succ, List.getD_cons_zero, List.getD_cons_succ, List.filterMap_cons, List.filterMap_nil, List.all_cons, List.all_nil, Bool.and_true, Bool.true_and, Bool.not_true, Bool.not_false, Bool.not_eq_true, Bool.false_eq_true, Bool.and_self, if_true, if_false, true_and, and_true, ↓reduceIte, eqD, neD, sh_int, eqv_int, eqv_strs, sDraw, List.length_cons, List.length_nil, Nat.zero_add, Nat.reduceAdd, decide_true, eq_self]
    cases one with
    | true => simp only [Q.addF, Q.mulF, Q.bandI, Q.iZip, Q.itZ, Q.slD, Q.enOf, Q.tV, Q.tK, Q.t2, Q.t1, Q.tB, Q.cI, Q.cIp, Q.addI, Q.subI, Q.mulI, Q.fdivI, Q.modI, Q.powI, Q.ltI, Q.leI, Q.gtI, Q.geI, Q.negI, Q.vAnd, Q.vOr, Q.vNot, Q.qAnd, Q.qOr, Q.qNot, Q.qIf, Q.chI, Q.tTupQ, Q.dNil, Q.dCons, Q.tLstQ, Q.tFz, Q.tCA, Q.lenD, Q.tupD, Q.isD, Q.isInt, Q.isBool, Q.isTup, Q.isStr, Q.isLst, Q.tLenN, Q.tIxN, Q.setQ, Q.aNil, Q.aD, Q.aK, Q.tCallQ, Q.tCallKQ, Q.pick, Q.sNil, Q.sSeq, Q.sRet, Q.sRetN, Q.sExpr, Q.sIf, Q.sSet, Q.sSetL, Q.sAsg, Q.sFor, Q.sPar2, Q.sPar3, Q.pNil, Q.pD, Q.pO, Q.pDn, Q.gN, Q.gT, Q.gsNil, Q.gsCons, Q.iQ, Q.itD, Q.iEn, Q.itE, Q.rg1, Q.rg2, Q.oNone, Q.oSome, Q.tSlQ, Q.revD, Q.tOwnM, Q.appC, Q.popC, Q.extC, Q.ownL, Q.tRepL, Q.repC, Q.sSetIx, Q.ixOwn, Q.tLcQ, Q.noOwn, Q.rstQ, Q.wipeQ, Q.sDn, Q.sSetD, Q.tDgetN, Q.dOwn, Q.tTupRg, Q.sNever, Q.isB, Q.listD, Q.listC, Q.reprD, Q.Sl.isOwn, List.map_cons, List.map_nil, List.replicate_succ, List.replicate_zero, List.cons_append, List.nil_append, List.append_nil, List.getElem?_cons_zero, List.getElem?_cons_succ, List.set_cons_zero, List.set_cons_succ, List.getD_cons_zero, List.getD_cons_succ, List.filterMap_cons, List.filterMap_nil, List.all_cons, List.all_nil, Bool.and_true, Bool.true_and, Bool.not_true, Bool.not_false, Bool.not_eq_true, Bool.false_eq_true, Bool.and_self, if_true, if_false, true_and, and_true, ↓reduceIte, eqD, neD, sh_int, eqv_int, eqv_strs, sDraw, List.length_cons, List.length_nil, Nat.zero_add, Nat.reduceAdd, decide_true, eq_self]; exact next first hf1 hf2
    | false =>
      simp only [Q.addF, Q.mulF, Q.bandI, Q.iZip, Q.itZ, Q.slD, Q.enOf, Q.tV, Q.tK, Q.t2, Q.t1, Q.tB, Q.cI, Q.cIp, Q.addI, Q.subI, Q.mulI, Q.fdivI, Q.modI, Q.powI, Q.ltI, Q.leI, Q.gtI, Q.geI, Q.negI, Q.vAnd, Q.vOr, Q.vNot, Q.qAnd, Q.qOr, Q.qNot, Q.qIf, Q.chI, Q.tTupQ, Q.dNil, Q.dCons, Q.tLstQ, Q.tFz, Q.tCA, Q.lenD, Q.tupD, Q.isD, Q.isInt, Q.isBool, Q.isTup, Q.isStr, Q.isLst, Q.tLenN, Q.tIxN, Q.setQ, Q.aNil, Q.aD, Q.aK, Q.tCallQ, Q.tCallKQ, Q.pick, Q.sNil, Q.sSeq, Q.sRet, Q.sRetN, Q.sExpr, Q.sIf, Q.sSet, Q.sSetL, Q.sAsg, Q.sFor, Q.sPar2, Q.sPar3, Q.pNil, Q.pD, Q.pO, Q.pDn, Q.gN, Q.gT, Q.gsNil, Q.gsCons, Q.iQ, Q.itD, Q.iEn, Q.itE, Q.rg1, Q.rg2, Q.oNone, Q.oSome, Q.tSlQ, Q.revD, Q.tOwnM, Q.appC, Q.popC, Q.extC, Q.ownL, Q.tRepL, Q.repC, Q.sSetIx, Q.ixOwn, Q.tLcQ, Q.noOwn, Q.rstQ, Q.wipeQ, Q.sDn, Q.sSetD, Q.tDgetN, Q.dOwn, Q.tTupRg, Q.sNever, Q.isB, Q.listD, Q.listC, Q.reprD, Q.Sl.isOwn, List.map_cons, List.map_nil, List.replicate_succ, List.replicate_zero, List.cons_append, List.nil_append, List.append_nil, List.getElem?_cons_zero, List.getElem?_cons_succ, List.set_cons_zero, List.set_cons_succ, List.getD_cons_zero, List.getD_cons_succ, List.filterMap_cons, List.filterMap_nil, List.all_cons, List.all_nil, Bool.and_true, Bool.true_and, Bool.not_true, Bool.not_false, Bool.not_eq_true, Bool.false_eq_true, Bool.and_self, if_true, if_false, true_and, and_true, ↓reduceIte, eqD, neD, sh_int, eqv_int, eqv_strs, sDraw, List.length_cons, List.length_nil, Nat.zero_add, Nat.reduceAdd, decide_true, eq_self]
      refine ⟨by decide, [2, 3, 2, 6], rfl, by simp, by simp, fun m hm => ?_⟩
      have hm2 : 1 ≤ m ∧ m ≤ 6 := by
        simp only [List.mem_cons, List.not_mem_nil, or_false] at hm
        omega
      try simp only [Q.addF, Q.mulF, Q.bandI, Q.iZip, Q.itZ, Q.slD, Q.enOf, Q.tV, Q.tK, Q.t2, Q.t1, Q.tB, Q.cI, Q.cIp, Q.addI, Q.subI, Q.mulI, Q.fdivI, Q.modI, Q.powI, Q.ltI, Q.leI, Q.gtI, Q.geI, Q.negI, Q.vAnd, Q.vOr, Q.vNot, Q.qAnd, Q.qOr, Q.qNot, Q.qIf, Q.chI, Q.tTupQ, Q.dNil, Q.dCons, Q.tLstQ, Q.tFz, Q.tCA, Q.lenD, Q.tupD, Q.isD, Q.isInt, Q.isBool, Q.isTup, Q.isStr, Q.isLst, Q.tLenN, Q.tIxN, Q.setQ, Q.aNil, Q.aD, Q.aK, Q.tCallQ, Q.tCallKQ, Q.pick, Q.sNil, Q.sSeq, Q.sRet, Q.sRetN, Q.sExpr, Q.sIf, Q.sSet, Q.sSetL, Q.sAsg, Q.sFor, Q.sPar2, Q.sPar3, Q.pNil, Q.pD, Q.pO, Q.pDn, Q.gN, Q.gT, Q.gsNil, Q.gsCons, Q.iQ, Q.itD, Q.iEn, Q.itE, Q.rg1, Q.rg2, Q.oNone, Q.oSome, Q.tSlQ, Q.revD, Q.tOwnM, Q.appC, Q.popC, Q.extC, Q.ownL, Q.tRepL, Q.repC, Q.sSetIx, Q.ixOwn, Q.tLcQ, Q.noOwn, Q.rstQ, Q.wipeQ, Q.sDn, Q.sSetD, Q.tDgetN, Q.dOwn, Q.tTupRg, Q.sNever, Q.isB, Q.listD, Q.listC, Q.reprD, Q.Sl.isOwn, List.map_cons, List.map_nil, List.replicate_succ, List.replicate_zero, List.cons_append, List.nil_append, List.append_nil, List.getElem?_cons_zero, List.getElem?_cons_succ, List.set_cons_zero, List.set_cons_succ, List.getD_cons_zero, List.getD_cons_succ, List.filterMap_cons, List.filterMap_nil, List.all_cons, List.all_nil, Bool.and_true, Bool.true_and, Bool.not_true, Bool.not_false, Bool.not_eq_true, Bool.false_eq_true, Bool.and_self, if_true, if_false, true_and, and_true, ↓reduceIte, eqD, neD, sh_int, eqv_int, eqv_strs, sDraw, List.length_cons, List.length_nil, Nat.zero_add, Nat.reduceAdd, decide_true, eq_self]
      exact ⟨m, rfl, hm2.1, hm2.2, fun d h1 h2 => next d h1 h2⟩
def sp__law_desks : PSpec := fun as R => ∃ lim : Int, as = [.dk, .d (.int 12), .d (.int lim)] ∧ ∀ ds : List Desk, T43.Dk ds → R (desksD ds)
theorem len__law_desks : ∀ as R, sp__law_desks as R → as.length = 3 := by rintro as R ⟨i, rfl, _⟩; rfl
theorem rd__law_desks : ∀ as R, sp__law_desks as R → t__law_desks sp__law_desk sDraw sp__law_pick { nx := fun _ => R .none, rt := R } (enOf as 6) := by
  rintro as R ⟨lim, rfl, h⟩
  show (sSeq _ (sSeq _ (sSeq (sFor _ (gN 7) lpBody) _))) _ _
  simp only [Q.addF, Q.mulF, Q.bandI, Q.iZip, Q.itZ, Q.slD, Q.enOf, Q.tV, Q.tK, Q.t2, Q.t1, Q.tB, Q.cI, Q.cIp, Q.addI, Q.subI, Q.mulI, Q.fdivI, Q.modI, Q.powI, Q.ltI, Q.leI, Q.gtI, Q.geI, Q.negI, Q.vAnd, Q.vOr, Q.vNot, Q.qAnd, Q.qOr, Q.qNot, Q.qIf, Q.chI, Q.tTupQ, Q.dNil, Q.dCons, Q.tLstQ, Q.tFz, Q.tCA, Q.lenD, Q.tupD, Q.isD, Q.isInt, Q.isBool, Q.isTup, Q.isStr, Q.isLst, Q.tLenN, Q.tIxN, Q.setQ, Q.aNil, Q.aD, Q.aK, Q.tCallQ, Q.tCallKQ, Q.pick, Q.sNil, Q.sSeq, Q.sRet, Q.sRetN, Q.sExpr, Q.sIf, Q.sSet, Q.sSetL, Q.sAsg, Q.sFor, Q.sPar2, Q.sPar3, Q.pNil, Q.pD, Q.pO, Q.pDn, Q.gN, Q.gT, Q.gsNil, Q.gsCons, Q.iQ, Q.itD, Q.iEn, Q.itE, Q.rg1, Q.rg2, Q.oNone, Q.oSome, Q.tSlQ, Q.revD, Q.tOwnM, Q.appC, Q.popC, Q.extC, Q.ownL, Q.tRepL, Q.repC, Q.sSetIx, Q.ixOwn, Q.tLcQ, Q.noOwn, Q.rstQ, Q.wipeQ, Q.sDn, Q.sSetD, Q.tDgetN, Q.dOwn, Q.tTupRg, Q.sNever, Q.isB, Q.listD, Q.listC, Q.reprD, Q.Sl.isOwn, List.map_cons, List.map_nil, List.replicate_succ, List.replicate_zero, List.cons_append, List.nil_append, List.append_nil, List.getElem?_cons_zero, List.getElem?_cons_succ, List.set_cons_zero, List.set_cons_succ, List.getD_cons_zero, List.getD_cons_succ, List.filterMap_cons, List.filterMap_nil, List.all_cons, List.all_nil, Bool.and_true, Bool.true_and, Bool.not_true, Bool.not_false, Bool.not_eq_true, Bool.false_eq_true, Bool.and_self, if_true, if_false, true_and, and_true, ↓reduceIte, eqD, neD, sh_int, eqv_int, eqv_strs, sDraw, List.length_cons, List.length_nil, Nat.zero_add, Nat.reduceAdd, decide_true, eq_self]
  refine ⟨by decide, 6, rfl, by decide, by decide, fun first hf1 hf2 => ⟨by decide, by decide, fun o ho1 ho2 => ⟨by decide, by decide, fun r hr1 hr2 => ⟨by omega, by omega, ?_⟩⟩⟩⟩
  refine loop_desks _ _ lim first hf1 hf2 _ (rg 0 r.toNat) [] 1 .un .un (fun d hd => by simp at hd) (by rw [rg_length]; simp; omega) fun found s4 s7 s8 ok hl => ?_
  simp only [Q.addF, Q.mulF, Q.bandI, Q.iZip, Q.itZ, Q.slD, Q.enOf, Q.tV, Q.tK, Q.t2, Q.t1, Q.tB, Q.cI, Q.cIp, Q.addI, Q.subI, Q.mulI, Q.fdivI, Q.modI, Q.powI, Q.ltI, Q.leI, Q.gtI, Q.geI, Q.negI, Q.vAnd, Q.vOr, Q.vNot, Q.qAnd, Q.qOr, Q.qNot, Q.qIf, Q.chI, Q.tTupQ, Q.dNil, Q.dCons, Q.tLstQ, Q.tFz, Q.tCA, Q.lenD, Q.tupD, Q.isD, Q.isInt, Q.isBool, Q.isTup, Q.isStr, Q.isLst, Q.tLenN, Q.tIxN, Q.setQ, Q.aNil, Q.aD, Q.aK, Q.tCallQ, Q.tCallKQ, Q.pick, Q.sNil, Q.sSeq, Q.sRet, Q.sRetN, Q.sExpr, Q.sIf, Q.sSet, Q.sSetL, Q.sAsg, Q.sFor, Q.sPar2, Q.sPar3, Q.pNil, Q.pD, Q.pO, Q.pDn, Q.gN, Q.gT, Q.gsNil, Q.gsCons, Q.iQ, Q.itD, Q.iEn, Q.itE, Q.rg1, Q.rg2, Q.oNone, Q.oSome, Q.tSlQ, Q.revD, Q.tOwnM, Q.appC, Q.popC, Q.extC, Q.ownL, Q.tRepL, Q.repC, Q.sSetIx, Q.ixOwn, Q.tLcQ, Q.noOwn, Q.rstQ, Q.wipeQ, Q.sDn, Q.sSetD, Q.tDgetN, Q.dOwn, Q.tTupRg, Q.sNever, Q.isB, Q.listD, Q.listC, Q.reprD, Q.Sl.isOwn, List.map_cons, List.map_nil, List.replicate_succ, List.replicate_zero, List.cons_append, List.nil_append, List.append_nil, List.getElem?_cons_zero, List.getElem?_cons_succ, List.set_cons_zero, List.set_cons_succ, List.getD_cons_zero, List.getD_cons_succ, List.filterMap_cons, List.filterMap_nil, List.all_cons, List.all_nil, Bool.and_true, Bool.true_and, Bool.not_true, Bool.not_false, Bool.not_eq_true, Bool.false_eq_true, Bool.and_self, if_true, if_false, true_and, and_true, ↓reduceIte, eqD, neD, sh_int, eqv_int, eqv_strs, sDraw, List.length_cons, List.length_nil, Nat.zero_add, Nat.reduceAdd, decide_true, eq_self]
  exact h found ⟨ok, hl⟩
theorem F2.code : ∀ {ds : List Desk} {bs : List PyData}, F2 (fun x y => ∃ p : Int, y = .int p ∧ 0 ≤ p ∧ ∀ xs, x = PyData.tuple xs → p < xs.length) (ds.map deskD) bs → ∃ c : List Int, bs = c.map .int ∧ OkR ds c := by
  intro ds
  induction ds with
  | nil => intro bs h; cases h; exact ⟨[], rfl, True.intro⟩
  | cons d ds ih =>
    intro bs h
    cases h with
    | cons a t =>
      obtain ⟨c, rfl, ok⟩ := ih t
      obtain ⟨p, rfl, h1, h2⟩ := a
      exact ⟨p :: c, rfl, ⟨h1, by have := h2 _ rfl; simpa using this⟩, ok⟩
def sp__law_code : PSpec := fun as R => ∃ ds : List Desk, as = [.dk, .d (desksD ds)] ∧ T43.Dk ds ∧ ∀ c : List Int, OkR ds c → R (tupI c)
theorem len__law_code : ∀ as R, sp__law_code as R → as.length = 2 := by rintro as R ⟨i, rfl, _⟩; rfl
theorem rd__law_code : ∀ as R, sp__law_code as R → t__law_code sDraw { nx := fun _ => R .none, rt := R } (enOf as 1) := by
  rintro as R ⟨ds, rfl, hd, h⟩
  simp only [t__law_code, desksD, Q.addF, Q.mulF, Q.bandI, Q.iZip, Q.itZ, Q.slD, Q.enOf, Q.tV, Q.tK, Q.t2, Q.t1, Q.tB, Q.cI, Q.cIp, Q.addI, Q.subI, Q.mulI, Q.fdivI, Q.modI, Q.powI, Q.ltI, Q.leI, Q.gtI, Q.geI, Q.negI, Q.vAnd, Q.vOr, Q.vNot, Q.qAnd, Q.qOr, Q.qNot, Q.qIf, Q.chI, Q.tTupQ, Q.dNil, Q.dCons, Q.tLstQ, Q.tFz, Q.tCA, Q.lenD, Q.tupD, Q.isD, Q.isInt, Q.isBool, Q.isTup, Q.isStr, Q.isLst, Q.tLenN, Q.tIxN, Q.setQ, Q.aNil, Q.aD, Q.aK, Q.tCallQ, Q.tCallKQ, Q.pick, Q.sNil, Q.sSeq, Q.sRet, Q.sRetN, Q.sExpr, Q.sIf, Q.sSet, Q.sSetL, Q.sAsg, Q.sFor, Q.sPar2, Q.sPar3, Q.pNil, Q.pD, Q.pO, Q.pDn, Q.gN, Q.gT, Q.gsNil, Q.gsCons, Q.iQ, Q.itD, Q.iEn, Q.itE, Q.rg1, Q.rg2, Q.oNone, Q.oSome, Q.tSlQ, Q.revD, Q.tOwnM, Q.appC, Q.popC, Q.extC, Q.ownL, Q.tRepL, Q.repC, Q.sSetIx, Q.ixOwn, Q.tLcQ, Q.noOwn, Q.rstQ, Q.wipeQ, Q.sDn, Q.sSetD, Q.tDgetN, Q.dOwn, Q.tTupRg, Q.sNever, Q.isB, Q.listD, Q.listC, Q.reprD, Q.Sl.isOwn, List.map_cons, List.map_nil, List.replicate_succ, List.replicate_zero, List.cons_append, List.nil_append, List.append_nil, List.getElem?_cons_zero, List.getElem?_cons_succ, List.set_cons_zero, List.set_cons_succ, List.getD_cons_zero, List.getD_cons_succ, List.filterMap_cons, List.filterMap_nil, List.all_cons, List.all_nil, Bool.and_true, Bool.true_and, Bool.not_true, Bool.not_false, Bool.not_eq_true, Bool.false_eq_true, Bool.and_self, if_true, if_false, true_and, and_true, ↓reduceIte, eqD, neD, sh_int, eqv_int, eqv_strs, sDraw, List.length_cons, List.length_nil, Nat.zero_add, Nat.reduceAdd, decide_true, eq_self]
  refine comp_any (fun x y => ∃ p : Int, y = .int p ∧ 0 ≤ p ∧ ∀ xs, x = PyData.tuple xs → p < xs.length) (fun x hx Rk hk => ?_) fun outs ho => ?_
  · obtain ⟨d, hdm, rfl⟩ := List.mem_map.mp hx
    have := hd.ok d hdm
    simp only [deskD, Q.addF, Q.mulF, Q.bandI, Q.iZip, Q.itZ, Q.slD, Q.enOf, Q.tV, Q.tK, Q.t2, Q.t1, Q.tB, Q.cI, Q.cIp, Q.addI, Q.subI, Q.mulI, Q.fdivI, Q.modI, Q.powI, Q.ltI, Q.leI, Q.gtI, Q.geI, Q.negI, Q.vAnd, Q.vOr, Q.vNot, Q.qAnd, Q.qOr, Q.qNot, Q.qIf, Q.chI, Q.tTupQ, Q.dNil, Q.dCons, Q.tLstQ, Q.tFz, Q.tCA, Q.lenD, Q.tupD, Q.isD, Q.isInt, Q.isBool, Q.isTup, Q.isStr, Q.isLst, Q.tLenN, Q.tIxN, Q.setQ, Q.aNil, Q.aD, Q.aK, Q.tCallQ, Q.tCallKQ, Q.pick, Q.sNil, Q.sSeq, Q.sRet, Q.sRetN, Q.sExpr, Q.sIf, Q.sSet, Q.sSetL, Q.sAsg, Q.sFor, Q.sPar2, Q.sPar3, Q.pNil, Q.pD, Q.pO, Q.pDn, Q.gN, Q.gT, Q.gsNil, Q.gsCons, Q.iQ, Q.itD, Q.iEn, Q.itE, Q.rg1, Q.rg2, Q.oNone, Q.oSome, Q.tSlQ, Q.revD, Q.tOwnM, Q.appC, Q.popC, Q.extC, Q.ownL, Q.tRepL, Q.repC, Q.sSetIx, Q.ixOwn, Q.tLcQ, Q.noOwn, Q.rstQ, Q.wipeQ, Q.sDn, Q.sSetD, Q.tDgetN, Q.dOwn, Q.tTupRg, Q.sNever, Q.isB, Q.listD, Q.listC, Q.reprD, Q.Sl.isOwn, List.map_cons, List.map_nil, List.replicate_succ, List.replicate_zero, List.cons_append, List.nil_append, List.append_nil, List.getElem?_cons_zero, List.getElem?_cons_succ, List.set_cons_zero, List.set_cons_succ, List.getD_cons_zero, List.getD_cons_succ, List.filterMap_cons, List.filterMap_nil, List.all_cons, List.all_nil, Bool.and_true, Bool.true_and, Bool.not_true, Bool.not_false, Bool.not_eq_true, Bool.false_eq_true, Bool.and_self, if_true, if_false, true_and, and_true, ↓reduceIte, eqD, neD, sh_int, eqv_int, eqv_strs, sDraw, List.length_cons, List.length_nil, Nat.zero_add, Nat.reduceAdd, decide_true, eq_self, List.length_map]
    exact ⟨by omega, by omega, fun p hp1 hp2 => hk _ _ ⟨p, rfl, hp1, fun xs e => by cases e; simpa using hp2⟩ (by simp only [Q.addF, Q.mulF, Q.bandI, Q.iZip, Q.itZ, Q.slD, Q.enOf, Q.tV, Q.tK, Q.t2, Q.t1, Q.tB, Q.cI, Q.cIp, Q.addI, Q.subI, Q.mulI, Q.fdivI, Q.modI, Q.powI, Q.ltI, Q.leI, Q.gtI, Q.geI, Q.negI, Q.vAnd, Q.vOr, Q.vNot, Q.qAnd, Q.qOr, Q.qNot, Q.qIf, Q.chI, Q.tTupQ, Q.dNil, Q.dCons, Q.tLstQ, Q.tFz, Q.tCA, Q.lenD, Q.tupD, Q.isD, Q.isInt, Q.isBool, Q.isTup, Q.isStr, Q.isLst, Q.tLenN, Q.tIxN, Q.setQ, Q.aNil, Q.aD, Q.aK, Q.tCallQ, Q.tCallKQ, Q.pick, Q.sNil, Q.sSeq, Q.sRet, Q.sRetN, Q.sExpr, Q.sIf, Q.sSet, Q.sSetL, Q.sAsg, Q.sFor, Q.sPar2, Q.sPar3, Q.pNil, Q.pD, Q.pO, Q.pDn, Q.gN, Q.gT, Q.gsNil, Q.gsCons, Q.iQ, Q.itD, Q.iEn, Q.itE, Q.rg1, Q.rg2, Q.oNone, Q.oSome, Q.tSlQ, Q.revD, Q.tOwnM, Q.appC, Q.popC, Q.extC, Q.ownL, Q.tRepL, Q.repC, Q.sSetIx, Q.ixOwn, Q.tLcQ, Q.noOwn, Q.rstQ, Q.wipeQ, Q.sDn, Q.sSetD, Q.tDgetN, Q.dOwn, Q.tTupRg, Q.sNever, Q.isB, Q.listD, Q.listC, Q.reprD, Q.Sl.isOwn, List.map_cons, List.map_nil, List.replicate_succ, List.replicate_zero, List.cons_append, List.nil_append, List.append_nil, List.getElem?_cons_zero, List.getElem?_cons_succ, List.set_cons_zero, List.set_cons_succ, List.getD_cons_zero, List.getD_cons_succ, List.filterMap_cons, List.filterMap_nil, List.all_cons, List.all_nil, Bool.and_true, Bool.true_and, Bool.not_true, Bool.not_false, Bool.not_eq_true, Bool.false_eq_true, Bool.and_self, if_true, if_false, true_and, and_true, ↓reduceIte, eqD, neD, sh_int, eqv_int, eqv_strs, sDraw, List.length_cons, List.length_nil, Nat.zero_add, Nat.reduceAdd, decide_true, eq_self, deskD])⟩
  · obtain ⟨c, rfl, ok⟩ := F2.code ho
    try simp only [Q.addF, Q.mulF, Q.bandI, Q.iZip, Q.itZ, Q.slD, Q.enOf, Q.tV, Q.tK, Q.t2, Q.t1, Q.tB, Q.cI, Q.cIp, Q.addI, Q.subI, Q.mulI, Q.fdivI, Q.modI, Q.powI, Q.ltI, Q.leI, Q.gtI, Q.geI, Q.negI, Q.vAnd, Q.vOr, Q.vNot, Q.qAnd, Q.qOr, Q.qNot, Q.qIf, Q.chI, Q.tTupQ, Q.dNil, Q.dCons, Q.tLstQ, Q.tFz, Q.tCA, Q.lenD, Q.tupD, Q.isD, Q.isInt, Q.isBool, Q.isTup, Q.isStr, Q.isLst, Q.tLenN, Q.tIxN, Q.setQ, Q.aNil, Q.aD, Q.aK, Q.tCallQ, Q.tCallKQ, Q.pick, Q.sNil, Q.sSeq, Q.sRet, Q.sRetN, Q.sExpr, Q.sIf, Q.sSet, Q.sSetL, Q.sAsg, Q.sFor, Q.sPar2, Q.sPar3, Q.pNil, Q.pD, Q.pO, Q.pDn, Q.gN, Q.gT, Q.gsNil, Q.gsCons, Q.iQ, Q.itD, Q.iEn, Q.itE, Q.rg1, Q.rg2, Q.oNone, Q.oSome, Q.tSlQ, Q.revD, Q.tOwnM, Q.appC, Q.popC, Q.extC, Q.ownL, Q.tRepL, Q.repC, Q.sSetIx, Q.ixOwn, Q.tLcQ, Q.noOwn, Q.rstQ, Q.wipeQ, Q.sDn, Q.sSetD, Q.tDgetN, Q.dOwn, Q.tTupRg, Q.sNever, Q.isB, Q.listD, Q.listC, Q.reprD, Q.Sl.isOwn, List.map_cons, List.map_nil, List.replicate_succ, List.replicate_zero, List.cons_append, List.nil_append, List.append_nil, List.getElem?_cons_zero, List.getElem?_cons_succ, List.set_cons_zero, List.set_cons_succ, List.getD_cons_zero, List.getD_cons_succ, List.filterMap_cons, List.filterMap_nil, List.all_cons, List.all_nil, Bool.and_true, Bool.true_and, Bool.not_true, Bool.not_false, Bool.not_eq_true, Bool.false_eq_true, Bool.and_self, if_true, if_false, true_and, and_true, ↓reduceIte, eqD, neD, sh_int, eqv_int, eqv_strs, sDraw, List.length_cons, List.length_nil, Nat.zero_add, Nat.reduceAdd, decide_true, eq_self]
    exact h c ok
/-! ### the law's own sign, position and order -/
def pileP : PyData → Bool
  | .tuple [.tuple xs, .int k] => PyData.eqv (xs.getD k.toNat .none) (.str (Str.ofString "pile"))
  | _ => false
theorem pile_at {d : Desk} {p : Int} (h0 : 0 ≤ p) (h1 : p < d.length) : pileP (.tuple [deskD d, .int p]) = d.getD p.toNat false := by
  have h2 : p.toNat < d.length := by omega
  show PyData.eqv ((d.map plD).getD p.toNat .none) (.str (Str.ofString "pile")) = _
  have e : (d.map plD).getD p.toNat .none = plD (d.getD p.toNat false) := by simp [List.getD_eq_getElem?_getD, h2]
  rw [e, eqv_pile]
theorem pile_count : ∀ {ds : List Desk} {c : List Int}, OkR ds c → ((zipD (ds.map deskD) (c.map .int)).filter pileP).length = piles ds c
  | [], [], _ => rfl
  | d :: ds, p :: c, ok => by
    rw [zip_c]
    have ih := pile_count ok.2
    have e := pile_at ok.1.1 ok.1.2
    rw [show piles (d :: ds) (p :: c) = (if d.getD p.toNat false = true then 1 else 0) + piles ds c from rfl, List.filter_cons, e]
    by_cases hp : d.getD p.toNat false = true
    · rw [if_pos hp, if_pos hp, List.length_cons, ih]; omega
    · rw [if_neg hp, if_neg hp, ih]; omega
  | [], _ :: _, ok => ok.elim
  | _ :: _, [], ok => ok.elim
def sp__law_sign : PSpec := fun as R => ∃ (ds : List Desk) (c : List Int), as = [.d (desksD ds), .d (tupI c)] ∧ OkR ds c ∧ ds.length ≤ 12 ∧ R (.int (sgn ds c))
theorem len__law_sign : ∀ as R, sp__law_sign as R → as.length = 2 := by rintro as R ⟨i, c, rfl, _⟩; rfl
theorem rd__law_sign : ∀ as R, sp__law_sign as R → t__law_sign { nx := fun _ => R .none, rt := R } (enOf as 3) := by
  rintro as R ⟨ds, c, rfl, h1, h2, h⟩
  simp only [t__law_sign, desksD, tupI, Q.addF, Q.mulF, Q.bandI, Q.iZip, Q.itZ, Q.slD, Q.enOf, Q.tV, Q.tK, Q.t2, Q.t1, Q.tB, Q.cI, Q.cIp, Q.addI, Q.subI, Q.mulI, Q.fdivI, Q.modI, Q.powI, Q.ltI, Q.leI, Q.gtI, Q.geI, Q.negI, Q.vAnd, Q.vOr, Q.vNot, Q.qAnd, Q.qOr, Q.qNot, Q.qIf, Q.chI, Q.tTupQ, Q.dNil, Q.dCons, Q.tLstQ, Q.tFz, Q.tCA, Q.lenD, Q.tupD, Q.isD, Q.isInt, Q.isBool, Q.isTup, Q.isStr, Q.isLst, Q.tLenN, Q.tIxN, Q.setQ, Q.aNil, Q.aD, Q.aK, Q.tCallQ, Q.tCallKQ, Q.pick, Q.sNil, Q.sSeq, Q.sRet, Q.sRetN, Q.sExpr, Q.sIf, Q.sSet, Q.sSetL, Q.sAsg, Q.sFor, Q.sPar2, Q.sPar3, Q.pNil, Q.pD, Q.pO, Q.pDn, Q.gN, Q.gT, Q.gsNil, Q.gsCons, Q.iQ, Q.itD, Q.iEn, Q.itE, Q.rg1, Q.rg2, Q.oNone, Q.oSome, Q.tSlQ, Q.revD, Q.tOwnM, Q.appC, Q.popC, Q.extC, Q.ownL, Q.tRepL, Q.repC, Q.sSetIx, Q.ixOwn, Q.tLcQ, Q.noOwn, Q.rstQ, Q.wipeQ, Q.sDn, Q.sSetD, Q.tDgetN, Q.dOwn, Q.tTupRg, Q.sNever, Q.isB, Q.listD, Q.listC, Q.reprD, Q.Sl.isOwn, List.map_cons, List.map_nil, List.replicate_succ, List.replicate_zero, List.cons_append, List.nil_append, List.append_nil, List.getElem?_cons_zero, List.getElem?_cons_succ, List.set_cons_zero, List.set_cons_succ, List.getD_cons_zero, List.getD_cons_succ, List.filterMap_cons, List.filterMap_nil, List.all_cons, List.all_nil, Bool.and_true, Bool.true_and, Bool.not_true, Bool.not_false, Bool.not_eq_true, Bool.false_eq_true, Bool.and_self, if_true, if_false, true_and, and_true, ↓reduceIte, eqD, neD, sh_int, eqv_int, eqv_strs, sDraw, List.length_cons, List.length_nil, Nat.zero_add, Nat.reduceAdd, decide_true, eq_self, List.length_map]
  refine ⟨by omega, ?_⟩
  refine comp_if pileP (fun _ => .int 1) (fun x hx Rk Rf hk hf => ?_) ?_
  · obtain ⟨d, p, rfl, q1, q2⟩ := zip_mem h1 hx
    have e := pile_at q1 q2
    rw [e] at hk hf
    simp only [deskD, Q.addF, Q.mulF, Q.bandI, Q.iZip, Q.itZ, Q.slD, Q.enOf, Q.tV, Q.tK, Q.t2, Q.t1, Q.tB, Q.cI, Q.cIp, Q.addI, Q.subI, Q.mulI, Q.fdivI, Q.modI, Q.powI, Q.ltI, Q.leI, Q.gtI, Q.geI, Q.negI, Q.vAnd, Q.vOr, Q.vNot, Q.qAnd, Q.qOr, Q.qNot, Q.qIf, Q.chI, Q.tTupQ, Q.dNil, Q.dCons, Q.tLstQ, Q.tFz, Q.tCA, Q.lenD, Q.tupD, Q.isD, Q.isInt, Q.isBool, Q.isTup, Q.isStr, Q.isLst, Q.tLenN, Q.tIxN, Q.setQ, Q.aNil, Q.aD, Q.aK, Q.tCallQ, Q.tCallKQ, Q.pick, Q.sNil, Q.sSeq, Q.sRet, Q.sRetN, Q.sExpr, Q.sIf, Q.sSet, Q.sSetL, Q.sAsg, Q.sFor, Q.sPar2, Q.sPar3, Q.pNil, Q.pD, Q.pO, Q.pDn, Q.gN, Q.gT, Q.gsNil, Q.gsCons, Q.iQ, Q.itD, Q.iEn, Q.itE, Q.rg1, Q.rg2, Q.oNone, Q.oSome, Q.tSlQ, Q.revD, Q.tOwnM, Q.appC, Q.popC, Q.extC, Q.ownL, Q.tRepL, Q.repC, Q.sSetIx, Q.ixOwn, Q.tLcQ, Q.noOwn, Q.rstQ, Q.wipeQ, Q.sDn, Q.sSetD, Q.tDgetN, Q.dOwn, Q.tTupRg, Q.sNever, Q.isB, Q.listD, Q.listC, Q.reprD, Q.Sl.isOwn, List.map_cons, List.map_nil, List.replicate_succ, List.replicate_zero, List.cons_append, List.nil_append, List.append_nil, List.getElem?_cons_zero, List.getElem?_cons_succ, List.set_cons_zero, List.set_cons_succ, List.getD_cons_zero, List.getD_cons_succ, List.filterMap_cons, List.filterMap_nil, List.all_cons, List.all_nil, Bool.and_true, Bool.true_and, Bool.not_true, Bool.not_false, Bool.not_eq_true, Bool.false_eq_true, Bool.and_self, if_true, if_false, true_and, and_true, ↓reduceIte, eqD, neD, sh_int, eqv_int, eqv_strs, sDraw, List.length_cons, List.length_nil, Nat.zero_add, Nat.reduceAdd, decide_true, eq_self, ixD]
    refine ⟨_, at_pl q1 q2, ?_⟩
    simp only [Q.addF, Q.mulF, Q.bandI, Q.iZip, Q.itZ, Q.slD, Q.enOf, Q.tV, Q.tK, Q.t2, Q.t1, Q.tB, Q.cI, Q.cIp, Q.addI, Q.subI, Q.mulI, Q.fdivI, Q.modI, Q.powI, Q.ltI, Q.leI, Q.gtI, Q.geI, Q.negI, Q.vAnd, Q.vOr, Q.vNot, Q.qAnd, Q.qOr, Q.qNot, Q.qIf, Q.chI, Q.tTupQ, Q.dNil, Q.dCons, Q.tLstQ, Q.tFz, Q.tCA, Q.lenD, Q.tupD, Q.isD, Q.isInt, Q.isBool, Q.isTup, Q.isStr, Q.isLst, Q.tLenN, Q.tIxN, Q.setQ, Q.aNil, Q.aD, Q.aK, Q.tCallQ, Q.tCallKQ, Q.pick, Q.sNil, Q.sSeq, Q.sRet, Q.sRetN, Q.sExpr, Q.sIf, Q.sSet, Q.sSetL, Q.sAsg, Q.sFor, Q.sPar2, Q.sPar3, Q.pNil, Q.pD, Q.pO, Q.pDn, Q.gN, Q.gT, Q.gsNil, Q.gsCons, Q.iQ, Q.itD, Q.iEn, Q.itE, Q.rg1, Q.rg2, Q.oNone, Q.oSome, Q.tSlQ, Q.revD, Q.tOwnM, Q.appC, Q.popC, Q.extC, Q.ownL, Q.tRepL, Q.repC, Q.sSetIx, Q.ixOwn, Q.tLcQ, Q.noOwn, Q.rstQ, Q.wipeQ, Q.sDn, Q.sSetD, Q.tDgetN, Q.dOwn, Q.tTupRg, Q.sNever, Q.isB, Q.listD, Q.listC, Q.reprD, Q.Sl.isOwn, List.map_cons, List.map_nil, List.replicate_succ, List.replicate_zero, List.cons_append, List.nil_append, List.append_nil, List.getElem?_cons_zero, List.getElem?_cons_succ, List.set_cons_zero, List.set_cons_succ, List.getD_cons_zero, List.getD_cons_succ, List.filterMap_cons, List.filterMap_nil, List.all_cons, List.all_nil, Bool.and_true, Bool.true_and, Bool.not_true, Bool.not_false, Bool.not_eq_true, Bool.false_eq_true, Bool.and_self, if_true, if_false, true_and, and_true, ↓reduceIte, eqD, neD, sh_int, eqv_int, eqv_strs, sDraw, List.length_cons, List.length_nil, Nat.zero_add, Nat.reduceAdd, decide_true, eq_self, sh_pl, sh_pile, eqv_pile]
    cases e2 : d.getD p.toNat false with
    | true => exact hk _ e2 (by simp only [Q.addF, Q.mulF, Q.bandI, Q.iZip, Q.itZ, Q.slD, Q.enOf, Q.tV, Q.tK, Q.t2, Q.t1, Q.tB, Q.cI, Q.cIp, Q.addI, Q.subI, Q.mulI, Q.fdivI, Q.modI, Q.powI, Q.ltI, Q.leI, Q.gtI, Q.geI, Q.negI, Q.vAnd, Q.vOr, Q.vNot, Q.qAnd, Q.qOr, Q.qNot, Q.qIf, Q.chI, Q.tTupQ, Q.dNil, Q.dCons, Q.tLstQ, Q.tFz, Q.tCA, Q.lenD, Q.tupD, Q.isD, Q.isInt, Q.isBool, Q.isTup, Q.isStr, Q.isLst, Q.tLenN, Q.tIxN, Q.setQ, Q.aNil, Q.aD, Q.aK, Q.tCallQ, Q.tCallKQ, Q.pick, Q.sNil, Q.sSeq, Q.sRet, Q.sRetN, Q.sExpr, Q.sIf, Q.sSet, Q.sSetL, Q.sAsg, Q.sFor, Q.sPar2, Q.sPar3, Q.pNil, Q.pD, Q.pO, Q.pDn, Q.gN, Q.gT, Q.gsNil, Q.gsCons, Q.iQ, Q.itD, Q.iEn, Q.itE, Q.rg1, Q.rg2, Q.oNone, Q.oSome, Q.tSlQ, Q.revD, Q.tOwnM, Q.appC, Q.popC, Q.extC, Q.ownL, Q.tRepL, Q.repC, Q.sSetIx, Q.ixOwn, Q.tLcQ, Q.noOwn, Q.rstQ, Q.wipeQ, Q.sDn, Q.sSetD, Q.tDgetN, Q.dOwn, Q.tTupRg, Q.sNever, Q.isB, Q.listD, Q.listC, Q.reprD, Q.Sl.isOwn, List.map_cons, List.map_nil, List.replicate_succ, List.replicate_zero, List.cons_append, List.nil_append, List.append_nil, List.getElem?_cons_zero, List.getElem?_cons_succ, List.set_cons_zero, List.set_cons_succ, List.getD_cons_zero, List.getD_cons_succ, List.filterMap_cons, List.filterMap_nil, List.all_cons, List.all_nil, Bool.and_true, Bool.true_and, Bool.not_true, Bool.not_false, Bool.not_eq_true, Bool.false_eq_true, Bool.and_self, if_true, if_false, true_and, and_true, ↓reduceIte, eqD, neD, sh_int, eqv_int, eqv_strs, sDraw, List.length_cons, List.length_nil, Nat.zero_add, Nat.reduceAdd, decide_true, eq_self])
    | false => exact hf _ e2 (by simp only [Q.addF, Q.mulF, Q.bandI, Q.iZip, Q.itZ, Q.slD, Q.enOf, Q.tV, Q.tK, Q.t2, Q.t1, Q.tB, Q.cI, Q.cIp, Q.addI, Q.subI, Q.mulI, Q.fdivI, Q.modI, Q.powI, Q.ltI, Q.leI, Q.gtI, Q.geI, Q.negI, Q.vAnd, Q.vOr, Q.vNot, Q.qAnd, Q.qOr, Q.qNot, Q.qIf, Q.chI, Q.tTupQ, Q.dNil, Q.dCons, Q.tLstQ, Q.tFz, Q.tCA, Q.lenD, Q.tupD, Q.isD, Q.isInt, Q.isBool, Q.isTup, Q.isStr, Q.isLst, Q.tLenN, Q.tIxN, Q.setQ, Q.aNil, Q.aD, Q.aK, Q.tCallQ, Q.tCallKQ, Q.pick, Q.sNil, Q.sSeq, Q.sRet, Q.sRetN, Q.sExpr, Q.sIf, Q.sSet, Q.sSetL, Q.sAsg, Q.sFor, Q.sPar2, Q.sPar3, Q.pNil, Q.pD, Q.pO, Q.pDn, Q.gN, Q.gT, Q.gsNil, Q.gsCons, Q.iQ, Q.itD, Q.iEn, Q.itE, Q.rg1, Q.rg2, Q.oNone, Q.oSome, Q.tSlQ, Q.revD, Q.tOwnM, Q.appC, Q.popC, Q.extC, Q.ownL, Q.tRepL, Q.repC, Q.sSetIx, Q.ixOwn, Q.tLcQ, Q.noOwn, Q.rstQ, Q.wipeQ, Q.sDn, Q.sSetD, Q.tDgetN, Q.dOwn, Q.tTupRg, Q.sNever, Q.isB, Q.listD, Q.listC, Q.reprD, Q.Sl.isOwn, List.map_cons, List.map_nil, List.replicate_succ, List.replicate_zero, List.cons_append, List.nil_append, List.append_nil, List.getElem?_cons_zero, List.getElem?_cons_succ, List.set_cons_zero, List.set_cons_succ, List.getD_cons_zero, List.getD_cons_succ, List.filterMap_cons, List.filterMap_nil, List.all_cons, List.all_nil, Bool.and_true, Bool.true_and, Bool.not_true, Bool.not_false, Bool.not_eq_true, Bool.false_eq_true, Bool.and_self, if_true, if_false, true_and, and_true, ↓reduceIte, eqD, neD, sh_int, eqv_int, eqv_strs, sDraw, List.length_cons, List.length_nil, Nat.zero_add, Nat.reduceAdd, decide_true, eq_self])
  · simp only [Q.addF, Q.mulF, Q.bandI, Q.iZip, Q.itZ, Q.slD, Q.enOf, Q.tV, Q.tK, Q.t2, Q.t1, Q.tB, Q.cI, Q.cIp, Q.addI, Q.subI, Q.mulI, Q.fdivI, Q.modI, Q.powI, Q.ltI, Q.leI, Q.gtI, Q.geI, Q.negI, Q.vAnd, Q.vOr, Q.vNot, Q.qAnd, Q.qOr, Q.qNot, Q.qIf, Q.chI, Q.tTupQ, Q.dNil, Q.dCons, Q.tLstQ, Q.tFz, Q.tCA, Q.lenD, Q.tupD, Q.isD, Q.isInt, Q.isBool, Q.isTup, Q.isStr, Q.isLst, Q.tLenN, Q.tIxN, Q.setQ, Q.aNil, Q.aD, Q.aK, Q.tCallQ, Q.tCallKQ, Q.pick, Q.sNil, Q.sSeq, Q.sRet, Q.sRetN, Q.sExpr, Q.sIf, Q.sSet, Q.sSetL, Q.sAsg, Q.sFor, Q.sPar2, Q.sPar3, Q.pNil, Q.pD, Q.pO, Q.pDn, Q.gN, Q.gT, Q.gsNil, Q.gsCons, Q.iQ, Q.itD, Q.iEn, Q.itE, Q.rg1, Q.rg2, Q.oNone, Q.oSome, Q.tSlQ, Q.revD, Q.tOwnM, Q.appC, Q.popC, Q.extC, Q.ownL, Q.tRepL, Q.repC, Q.sSetIx, Q.ixOwn, Q.tLcQ, Q.noOwn, Q.rstQ, Q.wipeQ, Q.sDn, Q.sSetD, Q.tDgetN, Q.dOwn, Q.tTupRg, Q.sNever, Q.isB, Q.listD, Q.listC, Q.reprD, Q.Sl.isOwn, List.map_cons, List.map_nil, List.replicate_succ, List.replicate_zero, List.cons_append, List.nil_append, List.append_nil, List.getElem?_cons_zero, List.getElem?_cons_succ, List.set_cons_zero, List.set_cons_succ, List.getD_cons_zero, List.getD_cons_succ, List.filterMap_cons, List.filterMap_nil, List.all_cons, List.all_nil, Bool.and_true, Bool.true_and, Bool.not_true, Bool.not_false, Bool.not_eq_true, Bool.false_eq_true, Bool.and_self, if_true, if_false, true_and, and_true, ↓reduceIte, eqD, neD, sh_int, eqv_int, eqv_strs, sDraw, List.length_cons, List.length_nil, Nat.zero_add, Nat.reduceAdd, decide_true, eq_self, List.length_map, pile_count h1, band1]
    unfold sgn at h
    by_cases hp : piles ds c % 2 = 0
    · rw [if_pos hp] at h
      have e : decide (((piles ds c : Nat) : Int) % 2 = 0) = true := by simp; omega
      rw [e]
      simpa only [Q.addF, Q.mulF, Q.bandI, Q.iZip, Q.itZ, Q.slD, Q.enOf, Q.tV, Q.tK, Q.t2, Q.t1, Q.tB, Q.cI, Q.cIp, Q.addI, Q.subI, Q.mulI, Q.fdivI, Q.modI, Q.powI, Q.ltI, Q.leI, Q.gtI, Q.geI, Q.negI, Q.vAnd, Q.vOr, Q.vNot, Q.qAnd, Q.qOr, Q.qNot, Q.qIf, Q.chI, Q.tTupQ, Q.dNil, Q.dCons, Q.tLstQ, Q.tFz, Q.tCA, Q.lenD, Q.tupD, Q.isD, Q.isInt, Q.isBool, Q.isTup, Q.isStr, Q.isLst, Q.tLenN, Q.tIxN, Q.setQ, Q.aNil, Q.aD, Q.aK, Q.tCallQ, Q.tCallKQ, Q.pick, Q.sNil, Q.sSeq, Q.sRet, Q.sRetN, Q.sExpr, Q.sIf, Q.sSet, Q.sSetL, Q.sAsg, Q.sFor, Q.sPar2, Q.sPar3, Q.pNil, Q.pD, Q.pO, Q.pDn, Q.gN, Q.gT, Q.gsNil, Q.gsCons, Q.iQ, Q.itD, Q.iEn, Q.itE, Q.rg1, Q.rg2, Q.oNone, Q.oSome, Q.tSlQ, Q.revD, Q.tOwnM, Q.appC, Q.popC, Q.extC, Q.ownL, Q.tRepL, Q.repC, Q.sSetIx, Q.ixOwn, Q.tLcQ, Q.noOwn, Q.rstQ, Q.wipeQ, Q.sDn, Q.sSetD, Q.tDgetN, Q.dOwn, Q.tTupRg, Q.sNever, Q.isB, Q.listD, Q.listC, Q.reprD, Q.Sl.isOwn, List.map_cons, List.map_nil, List.replicate_succ, List.replicate_zero, List.cons_append, List.nil_append, List.append_nil, List.getElem?_cons_zero, List.getElem?_cons_succ, List.set_cons_zero, List.set_cons_succ, List.getD_cons_zero, List.getD_cons_succ, List.filterMap_cons, List.filterMap_nil, List.all_cons, List.all_nil, Bool.and_true, Bool.true_and, Bool.not_true, Bool.not_false, Bool.not_eq_true, Bool.false_eq_true, Bool.and_self, if_true, if_false, true_and, and_true, ↓reduceIte, eqD, neD, sh_int, eqv_int, eqv_strs, sDraw, List.length_cons, List.length_nil, Nat.zero_add, Nat.reduceAdd, decide_true, eq_self] using h
    · rw [if_neg hp] at h
      have e : decide (((piles ds c : Nat) : Int) % 2 = 0) = false := by simp; omega
      rw [e]
      simpa only [Q.addF, Q.mulF, Q.bandI, Q.iZip, Q.itZ, Q.slD, Q.enOf, Q.tV, Q.tK, Q.t2, Q.t1, Q.tB, Q.cI, Q.cIp, Q.addI, Q.subI, Q.mulI, Q.fdivI, Q.modI, Q.powI, Q.ltI, Q.leI, Q.gtI, Q.geI, Q.negI, Q.vAnd, Q.vOr, Q.vNot, Q.qAnd, Q.qOr, Q.qNot, Q.qIf, Q.chI, Q.tTupQ, Q.dNil, Q.dCons, Q.tLstQ, Q.tFz, Q.tCA, Q.lenD, Q.tupD, Q.isD, Q.isInt, Q.isBool, Q.isTup, Q.isStr, Q.isLst, Q.tLenN, Q.tIxN, Q.setQ, Q.aNil, Q.aD, Q.aK, Q.tCallQ, Q.tCallKQ, Q.pick, Q.sNil, Q.sSeq, Q.sRet, Q.sRetN, Q.sExpr, Q.sIf, Q.sSet, Q.sSetL, Q.sAsg, Q.sFor, Q.sPar2, Q.sPar3, Q.pNil, Q.pD, Q.pO, Q.pDn, Q.gN, Q.gT, Q.gsNil, Q.gsCons, Q.iQ, Q.itD, Q.iEn, Q.itE, Q.rg1, Q.rg2, Q.oNone, Q.oSome, Q.tSlQ, Q.revD, Q.tOwnM, Q.appC, Q.popC, Q.extC, Q.ownL, Q.tRepL, Q.repC, Q.sSetIx, Q.ixOwn, Q.tLcQ, Q.noOwn, Q.rstQ, Q.wipeQ, Q.sDn, Q.sSetD, Q.tDgetN, Q.dOwn, Q.tTupRg, Q.sNever, Q.isB, Q.listD, Q.listC, Q.reprD, Q.Sl.isOwn, List.map_cons, List.map_nil, List.replicate_succ, List.replicate_zero, List.cons_append, List.nil_append, List.append_nil, List.getElem?_cons_zero, List.getElem?_cons_succ, List.set_cons_zero, List.set_cons_succ, List.getD_cons_zero, List.getD_cons_succ, List.filterMap_cons, List.filterMap_nil, List.all_cons, List.all_nil, Bool.and_true, Bool.true_and, Bool.not_true, Bool.not_false, Bool.not_eq_true, Bool.false_eq_true, Bool.and_self, if_true, if_false, true_and, and_true, ↓reduceIte, eqD, neD, sh_int, eqv_int, eqv_strs, sDraw, List.length_cons, List.length_nil, Nat.zero_add, Nat.reduceAdd, decide_true, eq_self] using h
theorem loop_lpos (R : EndsQ) (x y : Sl) : ∀ (ds : List Desk) (c : List Int) (f s : Int) (s4 s5 : Sl), DsOk ds → OkR ds c → (∀ s3 s4 s5, R.nx [x, y, .d (.int (posL f s ds c)), s3, s4, s5]) →
    forQ (gT 2 (gsCons (gN 4) (gsCons (gN 5) gsNil))) (sSeq (sSet 2 (t2 addF (t2 mulF (tV 5) (tV 3)) (qIf (tB (t2 eqD (tIxN 4 (tV 5)) (tK (.str "tray")))) (tV 2) (t2 subI (t2 subI (tV 3) (tK (.int 1))) (tV 2)))))
  (sSet 3 (t2 mulF (tV 3) (tLenN 4)))) R (zipD (ds.map deskD) (c.map .int)) [x, y, .d (.int f), .d (.int s), s4, s5]
  | [], [], f, s, s4, s5, _, _, h => by simpa only [zipD, List.map_nil, List.zipWith_nil_left, forQ, posL] using h _ s4 s5
  | d :: ds, p :: c, f, s, s4, s5, hd, ok, h => by
    have dl := hd d (by simp)
    have ok1 := ok.1
    rw [zip_c]
    simp only [forQ, deskD, Q.addF, Q.mulF, Q.bandI, Q.iZip, Q.itZ, Q.slD, Q.enOf, Q.tV, Q.tK, Q.t2, Q.t1, Q.tB, Q.cI, Q.cIp, Q.addI, Q.subI, Q.mulI, Q.fdivI, Q.modI, Q.powI, Q.ltI, Q.leI, Q.gtI, Q.geI, Q.negI, Q.vAnd, Q.vOr, Q.vNot, Q.qAnd, Q.qOr, Q.qNot, Q.qIf, Q.chI, Q.tTupQ, Q.dNil, Q.dCons, Q.tLstQ, Q.tFz, Q.tCA, Q.lenD, Q.tupD, Q.isD, Q.isInt, Q.isBool, Q.isTup, Q.isStr, Q.isLst, Q.tLenN, Q.tIxN, Q.setQ, Q.aNil, Q.aD, Q.aK, Q.tCallQ, Q.tCallKQ, Q.pick, Q.sNil, Q.sSeq, Q.sRet, Q.sRetN, Q.sExpr, Q.sIf, Q.sSet, Q.sSetL, Q.sAsg, Q.sFor, Q.sPar2, Q.sPar3, Q.pNil, Q.pD, Q.pO, Q.pDn, Q.gN, Q.gT, Q.gsNil, Q.gsCons, Q.iQ, Q.itD, Q.iEn, Q.itE, Q.rg1, Q.rg2, Q.oNone, Q.oSome, Q.tSlQ, Q.revD, Q.tOwnM, Q.appC, Q.popC, Q.extC, Q.ownL, Q.tRepL, Q.repC, Q.sSetIx, Q.ixOwn, Q.tLcQ, Q.noOwn, Q.rstQ, Q.wipeQ, Q.sDn, Q.sSetD, Q.tDgetN, Q.dOwn, Q.tTupRg, Q.sNever, Q.isB, Q.listD, Q.listC, Q.reprD, Q.Sl.isOwn, List.map_cons, List.map_nil, List.replicate_succ, List.replicate_zero, List.cons_append, List.nil_append, List.append_nil, List.getElem?_cons_zero, List.getElem?_cons_succ, List.set_cons_zero, List.set_cons_succ, List.getD_cons_zero, List.getD_cons_succ, List.filterMap_cons, List.filterMap_nil, List.all_cons, List.all_nil, Bool.and_true, Bool.true_and, Bool.not_true, Bool.not_false, Bool.not_eq_true, Bool.false_eq_true, Bool.and_self, if_true, if_false, true_and, and_true, ↓reduceIte, eqD, neD, sh_int, eqv_int, eqv_strs, sDraw, List.length_cons, List.length_nil, Nat.zero_add, Nat.reduceAdd, decide_true, eq_self, ixD]
    refine ⟨.inl ⟨by omega, by omega⟩, _, at_pl ok.1.1 ok.1.2, ?_⟩
    simp only [Q.addF, Q.mulF, Q.bandI, Q.iZip, Q.itZ, Q.slD, Q.enOf, Q.tV, Q.tK, Q.t2, Q.t1, Q.tB, Q.cI, Q.cIp, Q.addI, Q.subI, Q.mulI, Q.fdivI, Q.modI, Q.powI, Q.ltI, Q.leI, Q.gtI, Q.geI, Q.negI, Q.vAnd, Q.vOr, Q.vNot, Q.qAnd, Q.qOr, Q.qNot, Q.qIf, Q.chI, Q.tTupQ, Q.dNil, Q.dCons, Q.tLstQ, Q.tFz, Q.tCA, Q.lenD, Q.tupD, Q.isD, Q.isInt, Q.isBool, Q.isTup, Q.isStr, Q.isLst, Q.tLenN, Q.tIxN, Q.setQ, Q.aNil, Q.aD, Q.aK, Q.tCallQ, Q.tCallKQ, Q.pick, Q.sNil, Q.sSeq, Q.sRet, Q.sRetN, Q.sExpr, Q.sIf, Q.sSet, Q.sSetL, Q.sAsg, Q.sFor, Q.sPar2, Q.sPar3, Q.pNil, Q.pD, Q.pO, Q.pDn, Q.gN, Q.gT, Q.gsNil, Q.gsCons, Q.iQ, Q.itD, Q.iEn, Q.itE, Q.rg1, Q.rg2, Q.oNone, Q.oSome, Q.tSlQ, Q.revD, Q.tOwnM, Q.appC, Q.popC, Q.extC, Q.ownL, Q.tRepL, Q.repC, Q.sSetIx, Q.ixOwn, Q.tLcQ, Q.noOwn, Q.rstQ, Q.wipeQ, Q.sDn, Q.sSetD, Q.tDgetN, Q.dOwn, Q.tTupRg, Q.sNever, Q.isB, Q.listD, Q.listC, Q.reprD, Q.Sl.isOwn, List.map_cons, List.map_nil, List.replicate_succ, List.replicate_zero, List.cons_append, List.nil_append, List.append_nil, List.getElem?_cons_zero, List.getElem?_cons_succ, List.set_cons_zero, List.set_cons_succ, List.getD_cons_zero, List.getD_cons_succ, List.filterMap_cons, List.filterMap_nil, List.all_cons, List.all_nil, Bool.and_true, Bool.true_and, Bool.not_true, Bool.not_false, Bool.not_eq_true, Bool.false_eq_true, Bool.and_self, if_true, if_false, true_and, and_true, ↓reduceIte, eqD, neD, sh_int, eqv_int, eqv_strs, sDraw, List.length_cons, List.length_nil, Nat.zero_add, Nat.reduceAdd, decide_true, eq_self, sh_pl, sh_tray, eqv_tray]
    have step := loop_lpos R x y ds c _ (s * d.length) (.d (deskD d)) (.d (.int p)) (fun z hz => hd z (by simp [hz])) ok.2 h
    by_cases hp : d.getD p.toNat false = true
    · rw [if_pos hp] at step
      rw [hp]
      simp only [Q.addF, Q.mulF, Q.bandI, Q.iZip, Q.itZ, Q.slD, Q.enOf, Q.tV, Q.tK, Q.t2, Q.t1, Q.tB, Q.cI, Q.cIp, Q.addI, Q.subI, Q.mulI, Q.fdivI, Q.modI, Q.powI, Q.ltI, Q.leI, Q.gtI, Q.geI, Q.negI, Q.vAnd, Q.vOr, Q.vNot, Q.qAnd, Q.qOr, Q.qNot, Q.qIf, Q.chI, Q.tTupQ, Q.dNil, Q.dCons, Q.tLstQ, Q.tFz, Q.tCA, Q.lenD, Q.tupD, Q.isD, Q.isInt, Q.isBool, Q.isTup, Q.isStr, Q.isLst, Q.tLenN, Q.tIxN, Q.setQ, Q.aNil, Q.aD, Q.aK, Q.tCallQ, Q.tCallKQ, Q.pick, Q.sNil, Q.sSeq, Q.sRet, Q.sRetN, Q.sExpr, Q.sIf, Q.sSet, Q.sSetL, Q.sAsg, Q.sFor, Q.sPar2, Q.sPar3, Q.pNil, Q.pD, Q.pO, Q.pDn, Q.gN, Q.gT, Q.gsNil, Q.gsCons, Q.iQ, Q.itD, Q.iEn, Q.itE, Q.rg1, Q.rg2, Q.oNone, Q.oSome, Q.tSlQ, Q.revD, Q.tOwnM, Q.appC, Q.popC, Q.extC, Q.ownL, Q.tRepL, Q.repC, Q.sSetIx, Q.ixOwn, Q.tLcQ, Q.noOwn, Q.rstQ, Q.wipeQ, Q.sDn, Q.sSetD, Q.tDgetN, Q.dOwn, Q.tTupRg, Q.sNever, Q.isB, Q.listD, Q.listC, Q.reprD, Q.Sl.isOwn, List.map_cons, List.map_nil, List.replicate_succ, List.replicate_zero, List.cons_append, List.nil_append, List.append_nil, List.getElem?_cons_zero, List.getElem?_cons_succ, List.set_cons_zero, List.set_cons_succ, List.getD_cons_zero, List.getD_cons_succ, List.filterMap_cons, List.filterMap_nil, List.all_cons, List.all_nil, Bool.and_true, Bool.true_and, Bool.not_true, Bool.not_false, Bool.not_eq_true, Bool.false_eq_true, Bool.and_self, if_true, if_false, true_and, and_true, ↓reduceIte, eqD, neD, sh_int, eqv_int, eqv_strs, sDraw, List.length_cons, List.length_nil, Nat.zero_add, Nat.reduceAdd, decide_true, eq_self, List.length_map]
      exact ⟨.inr ⟨by omega, by omega⟩, step⟩
    · rw [if_neg hp] at step
      have hp2 : d.getD p.toNat false = false := by simpa using hp
      rw [hp2]
      simp only [Q.addF, Q.mulF, Q.bandI, Q.iZip, Q.itZ, Q.slD, Q.enOf, Q.tV, Q.tK, Q.t2, Q.t1, Q.tB, Q.cI, Q.cIp, Q.addI, Q.subI, Q.mulI, Q.fdivI, Q.modI, Q.powI, Q.ltI, Q.leI, Q.gtI, Q.geI, Q.negI, Q.vAnd, Q.vOr, Q.vNot, Q.qAnd, Q.qOr, Q.qNot, Q.qIf, Q.chI, Q.tTupQ, Q.dNil, Q.dCons, Q.tLstQ, Q.tFz, Q.tCA, Q.lenD, Q.tupD, Q.isD, Q.isInt, Q.isBool, Q.isTup, Q.isStr, Q.isLst, Q.tLenN, Q.tIxN, Q.setQ, Q.aNil, Q.aD, Q.aK, Q.tCallQ, Q.tCallKQ, Q.pick, Q.sNil, Q.sSeq, Q.sRet, Q.sRetN, Q.sExpr, Q.sIf, Q.sSet, Q.sSetL, Q.sAsg, Q.sFor, Q.sPar2, Q.sPar3, Q.pNil, Q.pD, Q.pO, Q.pDn, Q.gN, Q.gT, Q.gsNil, Q.gsCons, Q.iQ, Q.itD, Q.iEn, Q.itE, Q.rg1, Q.rg2, Q.oNone, Q.oSome, Q.tSlQ, Q.revD, Q.tOwnM, Q.appC, Q.popC, Q.extC, Q.ownL, Q.tRepL, Q.repC, Q.sSetIx, Q.ixOwn, Q.tLcQ, Q.noOwn, Q.rstQ, Q.wipeQ, Q.sDn, Q.sSetD, Q.tDgetN, Q.dOwn, Q.tTupRg, Q.sNever, Q.isB, Q.listD, Q.listC, Q.reprD, Q.Sl.isOwn, List.map_cons, List.map_nil, List.replicate_succ, List.replicate_zero, List.cons_append, List.nil_append, List.append_nil, List.getElem?_cons_zero, List.getElem?_cons_succ, List.set_cons_zero, List.set_cons_succ, List.getD_cons_zero, List.getD_cons_succ, List.filterMap_cons, List.filterMap_nil, List.all_cons, List.all_nil, Bool.and_true, Bool.true_and, Bool.not_true, Bool.not_false, Bool.not_eq_true, Bool.false_eq_true, Bool.and_self, if_true, if_false, true_and, and_true, ↓reduceIte, eqD, neD, sh_int, eqv_int, eqv_strs, sDraw, List.length_cons, List.length_nil, Nat.zero_add, Nat.reduceAdd, decide_true, eq_self, List.length_map]
      exact ⟨.inr ⟨by omega, by omega⟩, step⟩
  | [], _ :: _, _, _, _, _, _, ok, _ => ok.elim
  | _ :: _, [], _, _, _, _, _, ok, _ => ok.elim
def sp__law_position : PSpec := sp_raw_position
theorem len__law_position : ∀ as R, sp__law_position as R → as.length = 2 := len_raw_position
theorem rd__law_position : ∀ as R, sp__law_position as R → t__law_position { nx := fun _ => R .none, rt := R } (enOf as 4) := by
  rintro as R ⟨ds, c, rfl, h1, h2, h3, h⟩
  simp only [t__law_position, desksD, tupI, Q.addF, Q.mulF, Q.bandI, Q.iZip, Q.itZ, Q.slD, Q.enOf, Q.tV, Q.tK, Q.t2, Q.t1, Q.tB, Q.cI, Q.cIp, Q.addI, Q.subI, Q.mulI, Q.fdivI, Q.modI, Q.powI, Q.ltI, Q.leI, Q.gtI, Q.geI, Q.negI, Q.vAnd, Q.vOr, Q.vNot, Q.qAnd, Q.qOr, Q.qNot, Q.qIf, Q.chI, Q.tTupQ, Q.dNil, Q.dCons, Q.tLstQ, Q.tFz, Q.tCA, Q.lenD, Q.tupD, Q.isD, Q.isInt, Q.isBool, Q.isTup, Q.isStr, Q.isLst, Q.tLenN, Q.tIxN, Q.setQ, Q.aNil, Q.aD, Q.aK, Q.tCallQ, Q.tCallKQ, Q.pick, Q.sNil, Q.sSeq, Q.sRet, Q.sRetN, Q.sExpr, Q.sIf, Q.sSet, Q.sSetL, Q.sAsg, Q.sFor, Q.sPar2, Q.sPar3, Q.pNil, Q.pD, Q.pO, Q.pDn, Q.gN, Q.gT, Q.gsNil, Q.gsCons, Q.iQ, Q.itD, Q.iEn, Q.itE, Q.rg1, Q.rg2, Q.oNone, Q.oSome, Q.tSlQ, Q.revD, Q.tOwnM, Q.appC, Q.popC, Q.extC, Q.ownL, Q.tRepL, Q.repC, Q.sSetIx, Q.ixOwn, Q.tLcQ, Q.noOwn, Q.rstQ, Q.wipeQ, Q.sDn, Q.sSetD, Q.tDgetN, Q.dOwn, Q.tTupRg, Q.sNever, Q.isB, Q.listD, Q.listC, Q.reprD, Q.Sl.isOwn, List.map_cons, List.map_nil, List.replicate_succ, List.replicate_zero, List.cons_append, List.nil_append, List.append_nil, List.getElem?_cons_zero, List.getElem?_cons_succ, List.set_cons_zero, List.set_cons_succ, List.getD_cons_zero, List.getD_cons_succ, List.filterMap_cons, List.filterMap_nil, List.all_cons, List.all_nil, Bool.and_true, Bool.true_and, Bool.not_true, Bool.not_false, Bool.not_eq_true, Bool.false_eq_true, Bool.and_self, if_true, if_false, true_and, and_true, ↓reduceIte, eqD, neD, sh_int, eqv_int, eqv_strs, sDraw, List.length_cons, List.length_nil, Nat.zero_add, Nat.reduceAdd, decide_true, eq_self, List.length_map]
  refine ⟨by decide, by omega, ?_⟩
  refine loop_lpos _ _ _ ds c 0 1 _ _ h1 h2 fun s3 s4 s5 => ?_
  simp only [Q.addF, Q.mulF, Q.bandI, Q.iZip, Q.itZ, Q.slD, Q.enOf, Q.tV, Q.tK, Q.t2, Q.t1, Q.tB, Q.cI, Q.cIp, Q.addI, Q.subI, Q.mulI, Q.fdivI, Q.modI, Q.powI, Q.ltI, Q.leI, Q.gtI, Q.geI, Q.negI, Q.vAnd, Q.vOr, Q.vNot, Q.qAnd, Q.qOr, Q.qNot, Q.qIf, Q.chI, Q.tTupQ, Q.dNil, Q.dCons, Q.tLstQ, Q.tFz, Q.tCA, Q.lenD, Q.tupD, Q.isD, Q.isInt, Q.isBool, Q.isTup, Q.isStr, Q.isLst, Q.tLenN, Q.tIxN, Q.setQ, Q.aNil, Q.aD, Q.aK, Q.tCallQ, Q.tCallKQ, Q.pick, Q.sNil, Q.sSeq, Q.sRet, Q.sRetN, Q.sExpr, Q.sIf, Q.sSet, Q.sSetL, Q.sAsg, Q.sFor, Q.sPar2, Q.sPar3, Q.pNil, Q.pD, Q.pO, Q.pDn, Q.gN, Q.gT, Q.gsNil, Q.gsCons, Q.iQ, Q.itD, Q.iEn, Q.itE, Q.rg1, Q.rg2, Q.oNone, Q.oSome, Q.tSlQ, Q.revD, Q.tOwnM, Q.appC, Q.popC, Q.extC, Q.ownL, Q.tRepL, Q.repC, Q.sSetIx, Q.ixOwn, Q.tLcQ, Q.noOwn, Q.rstQ, Q.wipeQ, Q.sDn, Q.sSetD, Q.tDgetN, Q.dOwn, Q.tTupRg, Q.sNever, Q.isB, Q.listD, Q.listC, Q.reprD, Q.Sl.isOwn, List.map_cons, List.map_nil, List.replicate_succ, List.replicate_zero, List.cons_append, List.nil_append, List.append_nil, List.getElem?_cons_zero, List.getElem?_cons_succ, List.set_cons_zero, List.set_cons_succ, List.getD_cons_zero, List.getD_cons_succ, List.filterMap_cons, List.filterMap_nil, List.all_cons, List.all_nil, Bool.and_true, Bool.true_and, Bool.not_true, Bool.not_false, Bool.not_eq_true, Bool.false_eq_true, Bool.and_self, if_true, if_false, true_and, and_true, ↓reduceIte, eqD, neD, sh_int, eqv_int, eqv_strs, sDraw, List.length_cons, List.length_nil, Nat.zero_add, Nat.reduceAdd, decide_true, eq_self]
  rw [pos_eqL h2.length.symm]
  exact h
def sp__law_is_code : PSpec := sp_is_code_value
theorem len__law_is_code : ∀ as R, sp__law_is_code as R → as.length = 2 := len_is_code_value
theorem rd__law_is_code : ∀ as R, sp__law_is_code as R → t__law_is_code sp__law_is_integer { nx := fun _ => R .none, rt := R } (enOf as 2) := by
  rintro as R ⟨ds, c, rfl, h1, h2, h⟩
  simp only [t__law_is_code, desksD, tupI, Q.addF, Q.mulF, Q.bandI, Q.iZip, Q.itZ, Q.slD, Q.enOf, Q.tV, Q.tK, Q.t2, Q.t1, Q.tB, Q.cI, Q.cIp, Q.addI, Q.subI, Q.mulI, Q.fdivI, Q.modI, Q.powI, Q.ltI, Q.leI, Q.gtI, Q.geI, Q.negI, Q.vAnd, Q.vOr, Q.vNot, Q.qAnd, Q.qOr, Q.qNot, Q.qIf, Q.chI, Q.tTupQ, Q.dNil, Q.dCons, Q.tLstQ, Q.tFz, Q.tCA, Q.lenD, Q.tupD, Q.isD, Q.isInt, Q.isBool, Q.isTup, Q.isStr, Q.isLst, Q.tLenN, Q.tIxN, Q.setQ, Q.aNil, Q.aD, Q.aK, Q.tCallQ, Q.tCallKQ, Q.pick, Q.sNil, Q.sSeq, Q.sRet, Q.sRetN, Q.sExpr, Q.sIf, Q.sSet, Q.sSetL, Q.sAsg, Q.sFor, Q.sPar2, Q.sPar3, Q.pNil, Q.pD, Q.pO, Q.pDn, Q.gN, Q.gT, Q.gsNil, Q.gsCons, Q.iQ, Q.itD, Q.iEn, Q.itE, Q.rg1, Q.rg2, Q.oNone, Q.oSome, Q.tSlQ, Q.revD, Q.tOwnM, Q.appC, Q.popC, Q.extC, Q.ownL, Q.tRepL, Q.repC, Q.sSetIx, Q.ixOwn, Q.tLcQ, Q.noOwn, Q.rstQ, Q.wipeQ, Q.sDn, Q.sSetD, Q.tDgetN, Q.dOwn, Q.tTupRg, Q.sNever, Q.isB, Q.listD, Q.listC, Q.reprD, Q.Sl.isOwn, List.map_cons, List.map_nil, List.replicate_succ, List.replicate_zero, List.cons_append, List.nil_append, List.append_nil, List.getElem?_cons_zero, List.getElem?_cons_succ, List.set_cons_zero, List.set_cons_succ, List.getD_cons_zero, List.getD_cons_succ, List.filterMap_cons, List.filterMap_nil, List.all_cons, List.all_nil, Bool.and_true, Bool.true_and, Bool.not_true, Bool.not_false, Bool.not_eq_true, Bool.false_eq_true, Bool.and_self, if_true, if_false, true_and, and_true, ↓reduceIte, eqD, neD, sh_int, eqv_int, eqv_strs, sDraw, List.length_cons, List.length_nil, Nat.zero_add, Nat.reduceAdd, decide_true, eq_self, List.length_map, h1.length]
  refine ⟨by omega, ?_⟩
  refine comp_if (fun _ => false) (fun _ => .int 1) (fun x hx Rk Rf hk hf => ?_) ?_
  · obtain ⟨d, p, rfl, q1, q2⟩ := zip_mem h1 hx
    simp only [deskD, Q.addF, Q.mulF, Q.bandI, Q.iZip, Q.itZ, Q.slD, Q.enOf, Q.tV, Q.tK, Q.t2, Q.t1, Q.tB, Q.cI, Q.cIp, Q.addI, Q.subI, Q.mulI, Q.fdivI, Q.modI, Q.powI, Q.ltI, Q.leI, Q.gtI, Q.geI, Q.negI, Q.vAnd, Q.vOr, Q.vNot, Q.qAnd, Q.qOr, Q.qNot, Q.qIf, Q.chI, Q.tTupQ, Q.dNil, Q.dCons, Q.tLstQ, Q.tFz, Q.tCA, Q.lenD, Q.tupD, Q.isD, Q.isInt, Q.isBool, Q.isTup, Q.isStr, Q.isLst, Q.tLenN, Q.tIxN, Q.setQ, Q.aNil, Q.aD, Q.aK, Q.tCallQ, Q.tCallKQ, Q.pick, Q.sNil, Q.sSeq, Q.sRet, Q.sRetN, Q.sExpr, Q.sIf, Q.sSet, Q.sSetL, Q.sAsg, Q.sFor, Q.sPar2, Q.sPar3, Q.pNil, Q.pD, Q.pO, Q.pDn, Q.gN, Q.gT, Q.gsNil, Q.gsCons, Q.iQ, Q.itD, Q.iEn, Q.itE, Q.rg1, Q.rg2, Q.oNone, Q.oSome, Q.tSlQ, Q.revD, Q.tOwnM, Q.appC, Q.popC, Q.extC, Q.ownL, Q.tRepL, Q.repC, Q.sSetIx, Q.ixOwn, Q.tLcQ, Q.noOwn, Q.rstQ, Q.wipeQ, Q.sDn, Q.sSetD, Q.tDgetN, Q.dOwn, Q.tTupRg, Q.sNever, Q.isB, Q.listD, Q.listC, Q.reprD, Q.Sl.isOwn, List.map_cons, List.map_nil, List.replicate_succ, List.replicate_zero, List.cons_append, List.nil_append, List.append_nil, List.getElem?_cons_zero, List.getElem?_cons_succ, List.set_cons_zero, List.set_cons_succ, List.getD_cons_zero, List.getD_cons_succ, List.filterMap_cons, List.filterMap_nil, List.all_cons, List.all_nil, Bool.and_true, Bool.true_and, Bool.not_true, Bool.not_false, Bool.not_eq_true, Bool.false_eq_true, Bool.and_self, if_true, if_false, true_and, and_true, ↓reduceIte, eqD, neD, sh_int, eqv_int, eqv_strs, sDraw, List.length_cons, List.length_nil, Nat.zero_add, Nat.reduceAdd, decide_true, eq_self, List.length_map]
    refine ⟨p, 0, _, rfl, ?_⟩
    have e1 : decide ((0 : Int) ≤ p) = true := by simp [q1]
    have e2 : decide (p ≤ ((d.length : Nat) : Int) - 1) = true := by simp; omega
    rw [e1, e2]
    try simp only [Q.addF, Q.mulF, Q.bandI, Q.iZip, Q.itZ, Q.slD, Q.enOf, Q.tV, Q.tK, Q.t2, Q.t1, Q.tB, Q.cI, Q.cIp, Q.addI, Q.subI, Q.mulI, Q.fdivI, Q.modI, Q.powI, Q.ltI, Q.leI, Q.gtI, Q.geI, Q.negI, Q.vAnd, Q.vOr, Q.vNot, Q.qAnd, Q.qOr, Q.qNot, Q.qIf, Q.chI, Q.tTupQ, Q.dNil, Q.dCons, Q.tLstQ, Q.tFz, Q.tCA, Q.lenD, Q.tupD, Q.isD, Q.isInt, Q.isBool, Q.isTup, Q.isStr, Q.isLst, Q.tLenN, Q.tIxN, Q.setQ, Q.aNil, Q.aD, Q.aK, Q.tCallQ, Q.tCallKQ, Q.pick, Q.sNil, Q.sSeq, Q.sRet, Q.sRetN, Q.sExpr, Q.sIf, Q.sSet, Q.sSetL, Q.sAsg, Q.sFor, Q.sPar2, Q.sPar3, Q.pNil, Q.pD, Q.pO, Q.pDn, Q.gN, Q.gT, Q.gsNil, Q.gsCons, Q.iQ, Q.itD, Q.iEn, Q.itE, Q.rg1, Q.rg2, Q.oNone, Q.oSome, Q.tSlQ, Q.revD, Q.tOwnM, Q.appC, Q.popC, Q.extC, Q.ownL, Q.tRepL, Q.repC, Q.sSetIx, Q.ixOwn, Q.tLcQ, Q.noOwn, Q.rstQ, Q.wipeQ, Q.sDn, Q.sSetD, Q.tDgetN, Q.dOwn, Q.tTupRg, Q.sNever, Q.isB, Q.listD, Q.listC, Q.reprD, Q.Sl.isOwn, List.map_cons, List.map_nil, List.replicate_succ, List.replicate_zero, List.cons_append, List.nil_append, List.append_nil, List.getElem?_cons_zero, List.getElem?_cons_succ, List.set_cons_zero, List.set_cons_succ, List.getD_cons_zero, List.getD_cons_succ, List.filterMap_cons, List.filterMap_nil, List.all_cons, List.all_nil, Bool.and_true, Bool.true_and, Bool.not_true, Bool.not_false, Bool.not_eq_true, Bool.false_eq_true, Bool.and_self, if_true, if_false, true_and, and_true, ↓reduceIte, eqD, neD, sh_int, eqv_int, eqv_strs, sDraw, List.length_cons, List.length_nil, Nat.zero_add, Nat.reduceAdd, decide_true, eq_self]
    exact hf _ rfl (by simp only [Q.addF, Q.mulF, Q.bandI, Q.iZip, Q.itZ, Q.slD, Q.enOf, Q.tV, Q.tK, Q.t2, Q.t1, Q.tB, Q.cI, Q.cIp, Q.addI, Q.subI, Q.mulI, Q.fdivI, Q.modI, Q.powI, Q.ltI, Q.leI, Q.gtI, Q.geI, Q.negI, Q.vAnd, Q.vOr, Q.vNot, Q.qAnd, Q.qOr, Q.qNot, Q.qIf, Q.chI, Q.tTupQ, Q.dNil, Q.dCons, Q.tLstQ, Q.tFz, Q.tCA, Q.lenD, Q.tupD, Q.isD, Q.isInt, Q.isBool, Q.isTup, Q.isStr, Q.isLst, Q.tLenN, Q.tIxN, Q.setQ, Q.aNil, Q.aD, Q.aK, Q.tCallQ, Q.tCallKQ, Q.pick, Q.sNil, Q.sSeq, Q.sRet, Q.sRetN, Q.sExpr, Q.sIf, Q.sSet, Q.sSetL, Q.sAsg, Q.sFor, Q.sPar2, Q.sPar3, Q.pNil, Q.pD, Q.pO, Q.pDn, Q.gN, Q.gT, Q.gsNil, Q.gsCons, Q.iQ, Q.itD, Q.iEn, Q.itE, Q.rg1, Q.rg2, Q.oNone, Q.oSome, Q.tSlQ, Q.revD, Q.tOwnM, Q.appC, Q.popC, Q.extC, Q.ownL, Q.tRepL, Q.repC, Q.sSetIx, Q.ixOwn, Q.tLcQ, Q.noOwn, Q.rstQ, Q.wipeQ, Q.sDn, Q.sSetD, Q.tDgetN, Q.dOwn, Q.tTupRg, Q.sNever, Q.isB, Q.listD, Q.listC, Q.reprD, Q.Sl.isOwn, List.map_cons, List.map_nil, List.replicate_succ, List.replicate_zero, List.cons_append, List.nil_append, List.append_nil, List.getElem?_cons_zero, List.getElem?_cons_succ, List.set_cons_zero, List.set_cons_succ, List.getD_cons_zero, List.getD_cons_succ, List.filterMap_cons, List.filterMap_nil, List.all_cons, List.all_nil, Bool.and_true, Bool.true_and, Bool.not_true, Bool.not_false, Bool.not_eq_true, Bool.false_eq_true, Bool.and_self, if_true, if_false, true_and, and_true, ↓reduceIte, eqD, neD, sh_int, eqv_int, eqv_strs, sDraw, List.length_cons, List.length_nil, Nat.zero_add, Nat.reduceAdd, decide_true, eq_self])
  · have e : (zipD (ds.map deskD) (c.map .int)).filter (fun _ => false) = [] := by simp
    rw [e]
    simp only [Q.addF, Q.mulF, Q.bandI, Q.iZip, Q.itZ, Q.slD, Q.enOf, Q.tV, Q.tK, Q.t2, Q.t1, Q.tB, Q.cI, Q.cIp, Q.addI, Q.subI, Q.mulI, Q.fdivI, Q.modI, Q.powI, Q.ltI, Q.leI, Q.gtI, Q.geI, Q.negI, Q.vAnd, Q.vOr, Q.vNot, Q.qAnd, Q.qOr, Q.qNot, Q.qIf, Q.chI, Q.tTupQ, Q.dNil, Q.dCons, Q.tLstQ, Q.tFz, Q.tCA, Q.lenD, Q.tupD, Q.isD, Q.isInt, Q.isBool, Q.isTup, Q.isStr, Q.isLst, Q.tLenN, Q.tIxN, Q.setQ, Q.aNil, Q.aD, Q.aK, Q.tCallQ, Q.tCallKQ, Q.pick, Q.sNil, Q.sSeq, Q.sRet, Q.sRetN, Q.sExpr, Q.sIf, Q.sSet, Q.sSetL, Q.sAsg, Q.sFor, Q.sPar2, Q.sPar3, Q.pNil, Q.pD, Q.pO, Q.pDn, Q.gN, Q.gT, Q.gsNil, Q.gsCons, Q.iQ, Q.itD, Q.iEn, Q.itE, Q.rg1, Q.rg2, Q.oNone, Q.oSome, Q.tSlQ, Q.revD, Q.tOwnM, Q.appC, Q.popC, Q.extC, Q.ownL, Q.tRepL, Q.repC, Q.sSetIx, Q.ixOwn, Q.tLcQ, Q.noOwn, Q.rstQ, Q.wipeQ, Q.sDn, Q.sSetD, Q.tDgetN, Q.dOwn, Q.tTupRg, Q.sNever, Q.isB, Q.listD, Q.listC, Q.reprD, Q.Sl.isOwn, List.map_cons, List.map_nil, List.replicate_succ, List.replicate_zero, List.cons_append, List.nil_append, List.append_nil, List.getElem?_cons_zero, List.getElem?_cons_succ, List.set_cons_zero, List.set_cons_succ, List.getD_cons_zero, List.getD_cons_succ, List.filterMap_cons, List.filterMap_nil, List.all_cons, List.all_nil, Bool.and_true, Bool.true_and, Bool.not_true, Bool.not_false, Bool.not_eq_true, Bool.false_eq_true, Bool.and_self, if_true, if_false, true_and, and_true, ↓reduceIte, eqD, neD, sh_int, eqv_int, eqv_strs, sDraw, List.length_cons, List.length_nil, Nat.zero_add, Nat.reduceAdd, decide_true, eq_self]
    refine ⟨by decide, by exact sh_lstI (ns := []), by exact sh_lstI (ns := []), ?_⟩
    have e2 : PyData.eqv (.list []) (.list []) = true := eqv_ints (ns := [])
    rw [e2]
    exact h
def difD (a b : List Int) : PyData → Bool
  | .int k => !decide (a.getD k.toNat 0 = b.getD k.toNat 0)
  | _ => false
def spots (n : Nat) (a b : List Int) : List Int := (row n).filter fun k => !decide (a.getD k.toNat 0 = b.getD k.toNat 0)
theorem spots_D (n : Nat) (a b : List Int) : ((row n).map PyData.int).filter (difD a b) = (spots n a b).map .int := by rw [List.filter_map]; rfl
theorem spots_nil {n : Nat} {a b : List Int} (h : spots n a b = []) : ∀ j, j < n → a.getD j 0 = b.getD j 0 := fun j hj => by
  have h1 : (j : Int) ∈ row n := mem_row.mpr (by omega)
  by_cases e : a.getD j 0 = b.getD j 0
  · exact e
  · have : (j : Int) ∈ spots n a b := List.mem_filter.mpr ⟨h1, by simpa using e⟩
    rw [h] at this
    simp at this
theorem spots_last {n : Nat} {a b : List Int} {i : List Int} {v : Int} (h : spots n a b = i ++ [v]) : ∃ k : Nat, v = (k : Int) ∧ k < n ∧ a.getD k 0 ≠ b.getD k 0 ∧ ∀ j, k < j → j < n → a.getD j 0 = b.getD j 0 := by
  have hv : v ∈ spots n a b := by rw [h]; simp
  obtain ⟨h1, h2⟩ := List.mem_filter.mp hv
  obtain ⟨h3, h4⟩ := mem_row.mp h1
  obtain ⟨k, rfl⟩ := Int.eq_ofNat_of_zero_le h3
  refine ⟨k, rfl, by omega, by simpa using h2, fun j hj1 hj2 => ?_⟩
  by_cases e : a.getD j 0 = b.getD j 0
  · exact e
  · have hm : (j : Int) ∈ spots n a b := List.mem_filter.mpr ⟨mem_row.mpr (by omega), by simpa using e⟩
    have up : (spots n a b).Pairwise (· < ·) := List.Pairwise.filter _ (row_up n)
    rw [h] at hm up
    rcases List.mem_append.mp hm with q | q
    · have := (List.pairwise_append.mp up).2.2 _ q (k : Int) (by simp)
      omega
    · rw [List.mem_singleton] at q
      omega
theorem eqv_lnil {l : List Int} : PyData.eqv (.list (l.map .int)) (.list []) = l.isEmpty := by
  cases l with
  | nil => simp [PyData.eqv, PyData.eqvAll]
  | cons a l => simp [PyData.eqv, PyData.eqvAll]
theorem cut_from {xs : List PyData} {k : Nat} (h : k ≤ xs.length) : Q.cutD xs (some (k : Int)) none = xs.drop k := by
  unfold Q.cutD
  rw [HT.sIx_nat, HT.sIx_none, Nat.min_eq_left h, List.take_of_length_le (by simp)]
theorem cut_to {xs : List PyData} {k : Nat} (h : k ≤ xs.length) : Q.cutD xs none (some (k : Int)) = xs.take k := by
  unfold Q.cutD
  rw [HT.sIx_nat, HT.sIx_none, Nat.min_eq_left h, List.drop_zero, Nat.sub_zero]
theorem OkR.drop : ∀ {ds : List Desk} {c : List Int} (k : Nat), OkR ds c → OkR (ds.drop k) (c.drop k)
  | _, _, 0, h => h
  | [], [], _ + 1, _ => True.intro
  | _ :: _, _ :: _, k + 1, h => OkR.drop k h.2
  | [], _ :: _, _, h => h.elim
  | _ :: _, [], _, h => h.elim
def sp__law_is_less : PSpec := fun as R => ∃ (ds : List Desk) (a b : List Int), as = [.d (desksD ds), .d (tupI a), .d (tupI b)] ∧ T43.Dk ds ∧ OkR ds a ∧ OkR ds b ∧ R (.bool (decide (pos ds a < pos ds b)))
theorem len__law_is_less : ∀ as R, sp__law_is_less as R → as.length = 3 := by rintro as R ⟨i, c, b, rfl, _⟩; rfl
theorem rd__law_is_less : ∀ as R, sp__law_is_less as R → t__law_is_less sp__law_sign { nx := fun _ => R .none, rt := R } (enOf as 2) := by
  rintro as R ⟨ds, a, b, rfl, hd, ha, hb, h⟩
  have few := hd.few
  have la := ha.length
  have lb := hb.length
  simp only [t__law_is_less, desksD, tupI, Q.addF, Q.mulF, Q.bandI, Q.iZip, Q.itZ, Q.slD, Q.enOf, Q.tV, Q.tK, Q.t2, Q.t1, Q.tB, Q.cI, Q.cIp, Q.addI, Q.subI, Q.mulI, Q.fdivI, Q.modI, Q.powI, Q.ltI, Q.leI, Q.gtI, Q.geI, Q.negI, Q.vAnd, Q.vOr, Q.vNot, Q.qAnd, Q.qOr, Q.qNot, Q.qIf, Q.chI, Q.tTupQ, Q.dNil, Q.dCons, Q.tLstQ, Q.tFz, Q.tCA, Q.lenD, Q.tupD, Q.isD, Q.isInt, Q.isBool, Q.isTup, Q.isStr, Q.isLst, Q.tLenN, Q.tIxN, Q.setQ, Q.aNil, Q.aD, Q.aK, Q.tCallQ, Q.tCallKQ, Q.pick, Q.sNil, Q.sSeq, Q.sRet, Q.sRetN, Q.sExpr, Q.sIf, Q.sSet, Q.sSetL, Q.sAsg, Q.sFor, Q.sPar2, Q.sPar3, Q.pNil, Q.pD, Q.pO, Q.pDn, Q.gN, Q.gT, Q.gsNil, Q.gsCons, Q.iQ, Q.itD, Q.iEn, Q.itE, Q.rg1, Q.rg2, Q.oNone, Q.oSome, Q.tSlQ, Q.revD, Q.tOwnM, Q.appC, Q.popC, Q.extC, Q.ownL, Q.tRepL, Q.repC, Q.sSetIx, Q.ixOwn, Q.tLcQ, Q.noOwn, Q.rstQ, Q.wipeQ, Q.sDn, Q.sSetD, Q.tDgetN, Q.dOwn, Q.tTupRg, Q.sNever, Q.isB, Q.listD, Q.listC, Q.reprD, Q.Sl.isOwn, List.map_cons, List.map_nil, List.replicate_succ, List.replicate_zero, List.cons_append, List.nil_append, List.append_nil, List.getElem?_cons_zero, List.getElem?_cons_succ, List.set_cons_zero, List.set_cons_succ, List.getD_cons_zero, List.getD_cons_succ, List.filterMap_cons, List.filterMap_nil, List.all_cons, List.all_nil, Bool.and_true, Bool.true_and, Bool.not_true, Bool.not_false, Bool.not_eq_true, Bool.false_eq_true, Bool.and_self, if_true, if_false, true_and, and_true, ↓reduceIte, eqD, neD, sh_int, eqv_int, eqv_strs, sDraw, List.length_cons, List.length_nil, Nat.zero_add, Nat.reduceAdd, decide_true, eq_self, List.length_map, rg_row, Int.toNat_natCast]
  refine ⟨by omega, by omega, ?_⟩
  refine comp_if (difD a b) (fun y => y) (fun x hx Rk Rf hk hf => ?_) ?_
  · obtain ⟨k, hk2, rfl⟩ := List.mem_map.mp hx
    have hk3 := mem_row.mp hk2
    simp only [Q.addF, Q.mulF, Q.bandI, Q.iZip, Q.itZ, Q.slD, Q.enOf, Q.tV, Q.tK, Q.t2, Q.t1, Q.tB, Q.cI, Q.cIp, Q.addI, Q.subI, Q.mulI, Q.fdivI, Q.modI, Q.powI, Q.ltI, Q.leI, Q.gtI, Q.geI, Q.negI, Q.vAnd, Q.vOr, Q.vNot, Q.qAnd, Q.qOr, Q.qNot, Q.qIf, Q.chI, Q.tTupQ, Q.dNil, Q.dCons, Q.tLstQ, Q.tFz, Q.tCA, Q.lenD, Q.tupD, Q.isD, Q.isInt, Q.isBool, Q.isTup, Q.isStr, Q.isLst, Q.tLenN, Q.tIxN, Q.setQ, Q.aNil, Q.aD, Q.aK, Q.tCallQ, Q.tCallKQ, Q.pick, Q.sNil, Q.sSeq, Q.sRet, Q.sRetN, Q.sExpr, Q.sIf, Q.sSet, Q.sSetL, Q.sAsg, Q.sFor, Q.sPar2, Q.sPar3, Q.pNil, Q.pD, Q.pO, Q.pDn, Q.gN, Q.gT, Q.gsNil, Q.gsCons, Q.iQ, Q.itD, Q.iEn, Q.itE, Q.rg1, Q.rg2, Q.oNone, Q.oSome, Q.tSlQ, Q.revD, Q.tOwnM, Q.appC, Q.popC, Q.extC, Q.ownL, Q.tRepL, Q.repC, Q.sSetIx, Q.ixOwn, Q.tLcQ, Q.noOwn, Q.rstQ, Q.wipeQ, Q.sDn, Q.sSetD, Q.tDgetN, Q.dOwn, Q.tTupRg, Q.sNever, Q.isB, Q.listD, Q.listC, Q.reprD, Q.Sl.isOwn, List.map_cons, List.map_nil, List.replicate_succ, List.replicate_zero, List.cons_append, List.nil_append, List.append_nil, List.getElem?_cons_zero, List.getElem?_cons_succ, List.set_cons_zero, List.set_cons_succ, List.getD_cons_zero, List.getD_cons_succ, List.filterMap_cons, List.filterMap_nil, List.all_cons, List.all_nil, Bool.and_true, Bool.true_and, Bool.not_true, Bool.not_false, Bool.not_eq_true, Bool.false_eq_true, Bool.and_self, if_true, if_false, true_and, and_true, ↓reduceIte, eqD, neD, sh_int, eqv_int, eqv_strs, sDraw, List.length_cons, List.length_nil, Nat.zero_add, Nat.reduceAdd, decide_true, eq_self, ixD]
    refine ⟨_, at_int hk3.1 (by omega), _, at_int hk3.1 (by omega), ?_⟩
    simp only [Q.addF, Q.mulF, Q.bandI, Q.iZip, Q.itZ, Q.slD, Q.enOf, Q.tV, Q.tK, Q.t2, Q.t1, Q.tB, Q.cI, Q.cIp, Q.addI, Q.subI, Q.mulI, Q.fdivI, Q.modI, Q.powI, Q.ltI, Q.leI, Q.gtI, Q.geI, Q.negI, Q.vAnd, Q.vOr, Q.vNot, Q.qAnd, Q.qOr, Q.qNot, Q.qIf, Q.chI, Q.tTupQ, Q.dNil, Q.dCons, Q.tLstQ, Q.tFz, Q.tCA, Q.lenD, Q.tupD, Q.isD, Q.isInt, Q.isBool, Q.isTup, Q.isStr, Q.isLst, Q.tLenN, Q.tIxN, Q.setQ, Q.aNil, Q.aD, Q.aK, Q.tCallQ, Q.tCallKQ, Q.pick, Q.sNil, Q.sSeq, Q.sRet, Q.sRetN, Q.sExpr, Q.sIf, Q.sSet, Q.sSetL, Q.sAsg, Q.sFor, Q.sPar2, Q.sPar3, Q.pNil, Q.pD, Q.pO, Q.pDn, Q.gN, Q.gT, Q.gsNil, Q.gsCons, Q.iQ, Q.itD, Q.iEn, Q.itE, Q.rg1, Q.rg2, Q.oNone, Q.oSome, Q.tSlQ, Q.revD, Q.tOwnM, Q.appC, Q.popC, Q.extC, Q.ownL, Q.tRepL, Q.repC, Q.sSetIx, Q.ixOwn, Q.tLcQ, Q.noOwn, Q.rstQ, Q.wipeQ, Q.sDn, Q.sSetD, Q.tDgetN, Q.dOwn, Q.tTupRg, Q.sNever, Q.isB, Q.listD, Q.listC, Q.reprD, Q.Sl.isOwn, List.map_cons, List.map_nil, List.replicate_succ, List.replicate_zero, List.cons_append, List.nil_append, List.append_nil, List.getElem?_cons_zero, List.getElem?_cons_succ, List.set_cons_zero, List.set_cons_succ, List.getD_cons_zero, List.getD_cons_succ, List.filterMap_cons, List.filterMap_nil, List.all_cons, List.all_nil, Bool.and_true, Bool.true_and, Bool.not_true, Bool.not_false, Bool.not_eq_true, Bool.false_eq_true, Bool.and_self, if_true, if_false, true_and, and_true, ↓reduceIte, eqD, neD, sh_int, eqv_int, eqv_strs, sDraw, List.length_cons, List.length_nil, Nat.zero_add, Nat.reduceAdd, decide_true, eq_self]
    cases e : (!decide (a.getD k.toNat 0 = b.getD k.toNat 0)) with
    | true => exact hk _ e (by simp only [Q.addF, Q.mulF, Q.bandI, Q.iZip, Q.itZ, Q.slD, Q.enOf, Q.tV, Q.tK, Q.t2, Q.t1, Q.tB, Q.cI, Q.cIp, Q.addI, Q.subI, Q.mulI, Q.fdivI, Q.modI, Q.powI, Q.ltI, Q.leI, Q.gtI, Q.geI, Q.negI, Q.vAnd, Q.vOr, Q.vNot, Q.qAnd, Q.qOr, Q.qNot, Q.qIf, Q.chI, Q.tTupQ, Q.dNil, Q.dCons, Q.tLstQ, Q.tFz, Q.tCA, Q.lenD, Q.tupD, Q.isD, Q.isInt, Q.isBool, Q.isTup, Q.isStr, Q.isLst, Q.tLenN, Q.tIxN, Q.setQ, Q.aNil, Q.aD, Q.aK, Q.tCallQ, Q.tCallKQ, Q.pick, Q.sNil, Q.sSeq, Q.sRet, Q.sRetN, Q.sExpr, Q.sIf, Q.sSet, Q.sSetL, Q.sAsg, Q.sFor, Q.sPar2, Q.sPar3, Q.pNil, Q.pD, Q.pO, Q.pDn, Q.gN, Q.gT, Q.gsNil, Q.gsCons, Q.iQ, Q.itD, Q.iEn, Q.itE, Q.rg1, Q.rg2, Q.oNone, Q.oSome, Q.tSlQ, Q.revD, Q.tOwnM, Q.appC, Q.popC, Q.extC, Q.ownL, Q.tRepL, Q.repC, Q.sSetIx, Q.ixOwn, Q.tLcQ, Q.noOwn, Q.rstQ, Q.wipeQ, Q.sDn, Q.sSetD, Q.tDgetN, Q.dOwn, Q.tTupRg, Q.sNever, Q.isB, Q.listD, Q.listC, Q.reprD, Q.Sl.isOwn, List.map_cons, List.map_nil, List.replicate_succ, List.replicate_zero, List.cons_append, List.nil_append, List.append_nil, List.getElem?_cons_zero, List.getElem?_cons_succ, List.set_cons_zero, List.set_cons_succ, List.getD_cons_zero, List.getD_cons_succ, List.filterMap_cons, List.filterMap_nil, List.all_cons, List.all_nil, Bool.and_true, Bool.true_and, Bool.not_true, Bool.not_false, Bool.not_eq_true, Bool.false_eq_true, Bool.and_self, if_true, if_false, true_and, and_true, ↓reduceIte, eqD, neD, sh_int, eqv_int, eqv_strs, sDraw, List.length_cons, List.length_nil, Nat.zero_add, Nat.reduceAdd, decide_true, eq_self])
    | false => exact hf _ e (by simp only [Q.addF, Q.mulF, Q.bandI, Q.iZip, Q.itZ, Q.slD, Q.enOf, Q.tV, Q.tK, Q.t2, Q.t1, Q.tB, Q.cI, Q.cIp, Q.addI, Q.subI, Q.mulI, Q.fdivI, Q.modI, Q.powI, Q.ltI, Q.leI, Q.gtI, Q.geI, Q.negI, Q.vAnd, Q.vOr, Q.vNot, Q.qAnd, Q.qOr, Q.qNot, Q.qIf, Q.chI, Q.tTupQ, Q.dNil, Q.dCons, Q.tLstQ, Q.tFz, Q.tCA, Q.lenD, Q.tupD, Q.isD, Q.isInt, Q.isBool, Q.isTup, Q.isStr, Q.isLst, Q.tLenN, Q.tIxN, Q.setQ, Q.aNil, Q.aD, Q.aK, Q.tCallQ, Q.tCallKQ, Q.pick, Q.sNil, Q.sSeq, Q.sRet, Q.sRetN, Q.sExpr, Q.sIf, Q.sSet, Q.sSetL, Q.sAsg, Q.sFor, Q.sPar2, Q.sPar3, Q.pNil, Q.pD, Q.pO, Q.pDn, Q.gN, Q.gT, Q.gsNil, Q.gsCons, Q.iQ, Q.itD, Q.iEn, Q.itE, Q.rg1, Q.rg2, Q.oNone, Q.oSome, Q.tSlQ, Q.revD, Q.tOwnM, Q.appC, Q.popC, Q.extC, Q.ownL, Q.tRepL, Q.repC, Q.sSetIx, Q.ixOwn, Q.tLcQ, Q.noOwn, Q.rstQ, Q.wipeQ, Q.sDn, Q.sSetD, Q.tDgetN, Q.dOwn, Q.tTupRg, Q.sNever, Q.isB, Q.listD, Q.listC, Q.reprD, Q.Sl.isOwn, List.map_cons, List.map_nil, List.replicate_succ, List.replicate_zero, List.cons_append, List.nil_append, List.append_nil, List.getElem?_cons_zero, List.getElem?_cons_succ, List.set_cons_zero, List.set_cons_succ, List.getD_cons_zero, List.getD_cons_succ, List.filterMap_cons, List.filterMap_nil, List.all_cons, List.all_nil, Bool.and_true, Bool.true_and, Bool.not_true, Bool.not_false, Bool.not_eq_true, Bool.false_eq_true, Bool.and_self, if_true, if_false, true_and, and_true, ↓reduceIte, eqD, neD, sh_int, eqv_int, eqv_strs, sDraw, List.length_cons, List.length_nil, Nat.zero_add, Nat.reduceAdd, decide_true, eq_self])
  · rw [spots_D, List.map_id']
    simp only [Q.addF, Q.mulF, Q.bandI, Q.iZip, Q.itZ, Q.slD, Q.enOf, Q.tV, Q.tK, Q.t2, Q.t1, Q.tB, Q.cI, Q.cIp, Q.addI, Q.subI, Q.mulI, Q.fdivI, Q.modI, Q.powI, Q.ltI, Q.leI, Q.gtI, Q.geI, Q.negI, Q.vAnd, Q.vOr, Q.vNot, Q.qAnd, Q.qOr, Q.qNot, Q.qIf, Q.chI, Q.tTupQ, Q.dNil, Q.dCons, Q.tLstQ, Q.tFz, Q.tCA, Q.lenD, Q.tupD, Q.isD, Q.isInt, Q.isBool, Q.isTup, Q.isStr, Q.isLst, Q.tLenN, Q.tIxN, Q.setQ, Q.aNil, Q.aD, Q.aK, Q.tCallQ, Q.tCallKQ, Q.pick, Q.sNil, Q.sSeq, Q.sRet, Q.sRetN, Q.sExpr, Q.sIf, Q.sSet, Q.sSetL, Q.sAsg, Q.sFor, Q.sPar2, Q.sPar3, Q.pNil, Q.pD, Q.pO, Q.pDn, Q.gN, Q.gT, Q.gsNil, Q.gsCons, Q.iQ, Q.itD, Q.iEn, Q.itE, Q.rg1, Q.rg2, Q.oNone, Q.oSome, Q.tSlQ, Q.revD, Q.tOwnM, Q.appC, Q.popC, Q.extC, Q.ownL, Q.tRepL, Q.repC, Q.sSetIx, Q.ixOwn, Q.tLcQ, Q.noOwn, Q.rstQ, Q.wipeQ, Q.sDn, Q.sSetD, Q.tDgetN, Q.dOwn, Q.tTupRg, Q.sNever, Q.isB, Q.listD, Q.listC, Q.reprD, Q.Sl.isOwn, List.map_cons, List.map_nil, List.replicate_succ, List.replicate_zero, List.cons_append, List.nil_append, List.append_nil, List.getElem?_cons_zero, List.getElem?_cons_succ, List.set_cons_zero, List.set_cons_succ, List.getD_cons_zero, List.getD_cons_succ, List.filterMap_cons, List.filterMap_nil, List.all_cons, List.all_nil, Bool.and_true, Bool.true_and, Bool.not_true, Bool.not_false, Bool.not_eq_true, Bool.false_eq_true, Bool.and_self, if_true, if_false, true_and, and_true, ↓reduceIte, eqD, neD, sh_int, eqv_int, eqv_strs, sDraw, List.length_cons, List.length_nil, Nat.zero_add, Nat.reduceAdd, decide_true, eq_self]
    refine ⟨by decide, sh_lstI, by exact sh_lstI (ns := []), ?_⟩
    rw [eqv_lnil]
    rcases snoc_cases (spots ds.length a b) with e | ⟨i, v, e⟩
    · have eab : a = b := same_all la lb (spots_nil e)
      rw [e]
      subst eab
      have e2 : decide (pos ds a < pos ds a) = false := by simp
      rw [e2] at h
      exact h
    · obtain ⟨k, rfl, hk, hne, hlater⟩ := spots_last e
      have ee : (i ++ [(k : Int)]).isEmpty = false := by cases i <;> rfl
      rw [e, ee]
      simp only [Q.addF, Q.mulF, Q.bandI, Q.iZip, Q.itZ, Q.slD, Q.enOf, Q.tV, Q.tK, Q.t2, Q.t1, Q.tB, Q.cI, Q.cIp, Q.addI, Q.subI, Q.mulI, Q.fdivI, Q.modI, Q.powI, Q.ltI, Q.leI, Q.gtI, Q.geI, Q.negI, Q.vAnd, Q.vOr, Q.vNot, Q.qAnd, Q.qOr, Q.qNot, Q.qIf, Q.chI, Q.tTupQ, Q.dNil, Q.dCons, Q.tLstQ, Q.tFz, Q.tCA, Q.lenD, Q.tupD, Q.isD, Q.isInt, Q.isBool, Q.isTup, Q.isStr, Q.isLst, Q.tLenN, Q.tIxN, Q.setQ, Q.aNil, Q.aD, Q.aK, Q.tCallQ, Q.tCallKQ, Q.pick, Q.sNil, Q.sSeq, Q.sRet, Q.sRetN, Q.sExpr, Q.sIf, Q.sSet, Q.sSetL, Q.sAsg, Q.sFor, Q.sPar2, Q.sPar3, Q.pNil, Q.pD, Q.pO, Q.pDn, Q.gN, Q.gT, Q.gsNil, Q.gsCons, Q.iQ, Q.itD, Q.iEn, Q.itE, Q.rg1, Q.rg2, Q.oNone, Q.oSome, Q.tSlQ, Q.revD, Q.tOwnM, Q.appC, Q.popC, Q.extC, Q.ownL, Q.tRepL, Q.repC, Q.sSetIx, Q.ixOwn, Q.tLcQ, Q.noOwn, Q.rstQ, Q.wipeQ, Q.sDn, Q.sSetD, Q.tDgetN, Q.dOwn, Q.tTupRg, Q.sNever, Q.isB, Q.listD, Q.listC, Q.reprD, Q.Sl.isOwn, List.map_cons, List.map_nil, List.replicate_succ, List.replicate_zero, List.cons_append, List.nil_append, List.append_nil, List.getElem?_cons_zero, List.getElem?_cons_succ, List.set_cons_zero, List.set_cons_succ, List.getD_cons_zero, List.getD_cons_succ, List.filterMap_cons, List.filterMap_nil, List.all_cons, List.all_nil, Bool.and_true, Bool.true_and, Bool.not_true, Bool.not_false, Bool.not_eq_true, Bool.false_eq_true, Bool.and_self, if_true, if_false, true_and, and_true, ↓reduceIte, eqD, neD, sh_int, eqv_int, eqv_strs, sDraw, List.length_cons, List.length_nil, Nat.zero_add, Nat.reduceAdd, decide_true, eq_self, ixD, List.map_append]
      refine ⟨_, atI_last _ _, ?_⟩
      have ek : ((k : Nat) : Int) + 1 = ((k + 1 : Nat) : Int) := by omega
      simp only [Q.addF, Q.mulF, Q.bandI, Q.iZip, Q.itZ, Q.slD, Q.enOf, Q.tV, Q.tK, Q.t2, Q.t1, Q.tB, Q.cI, Q.cIp, Q.addI, Q.subI, Q.mulI, Q.fdivI, Q.modI, Q.powI, Q.ltI, Q.leI, Q.gtI, Q.geI, Q.negI, Q.vAnd, Q.vOr, Q.vNot, Q.qAnd, Q.qOr, Q.qNot, Q.qIf, Q.chI, Q.tTupQ, Q.dNil, Q.dCons, Q.tLstQ, Q.tFz, Q.tCA, Q.lenD, Q.tupD, Q.isD, Q.isInt, Q.isBool, Q.isTup, Q.isStr, Q.isLst, Q.tLenN, Q.tIxN, Q.setQ, Q.aNil, Q.aD, Q.aK, Q.tCallQ, Q.tCallKQ, Q.pick, Q.sNil, Q.sSeq, Q.sRet, Q.sRetN, Q.sExpr, Q.sIf, Q.sSet, Q.sSetL, Q.sAsg, Q.sFor, Q.sPar2, Q.sPar3, Q.pNil, Q.pD, Q.pO, Q.pDn, Q.gN, Q.gT, Q.gsNil, Q.gsCons, Q.iQ, Q.itD, Q.iEn, Q.itE, Q.rg1, Q.rg2, Q.oNone, Q.oSome, Q.tSlQ, Q.revD, Q.tOwnM, Q.appC, Q.popC, Q.extC, Q.ownL, Q.tRepL, Q.repC, Q.sSetIx, Q.ixOwn, Q.tLcQ, Q.noOwn, Q.rstQ, Q.wipeQ, Q.sDn, Q.sSetD, Q.tDgetN, Q.dOwn, Q.tTupRg, Q.sNever, Q.isB, Q.listD, Q.listC, Q.reprD, Q.Sl.isOwn, List.map_cons, List.map_nil, List.replicate_succ, List.replicate_zero, List.cons_append, List.nil_append, List.append_nil, List.getElem?_cons_zero, List.getElem?_cons_succ, List.set_cons_zero, List.set_cons_succ, List.getD_cons_zero, List.getD_cons_succ, List.filterMap_cons, List.filterMap_nil, List.all_cons, List.all_nil, Bool.and_true, Bool.true_and, Bool.not_true, Bool.not_false, Bool.not_eq_true, Bool.false_eq_true, Bool.and_self, if_true, if_false, true_and, and_true, ↓reduceIte, eqD, neD, sh_int, eqv_int, eqv_strs, sDraw, List.length_cons, List.length_nil, Nat.zero_add, Nat.reduceAdd, decide_true, eq_self, ek]
      rw [cut_from (by rw [List.length_map]; omega), cut_from (by rw [List.length_map]; omega), ← List.map_drop, ← List.map_drop]
      refine ⟨ds.drop (k + 1), a.drop (k + 1), rfl, ha.drop (k + 1), by rw [List.length_drop]; omega, ?_⟩
      have pa := part_at hd.ok (ok_iff.mpr ha) (ok_iff.mpr hb) hk hne hlater
      rw [pa] at h
      simp only [Q.addF, Q.mulF, Q.bandI, Q.iZip, Q.itZ, Q.slD, Q.enOf, Q.tV, Q.tK, Q.t2, Q.t1, Q.tB, Q.cI, Q.cIp, Q.addI, Q.subI, Q.mulI, Q.fdivI, Q.modI, Q.powI, Q.ltI, Q.leI, Q.gtI, Q.geI, Q.negI, Q.vAnd, Q.vOr, Q.vNot, Q.qAnd, Q.qOr, Q.qNot, Q.qIf, Q.chI, Q.tTupQ, Q.dNil, Q.dCons, Q.tLstQ, Q.tFz, Q.tCA, Q.lenD, Q.tupD, Q.isD, Q.isInt, Q.isBool, Q.isTup, Q.isStr, Q.isLst, Q.tLenN, Q.tIxN, Q.setQ, Q.aNil, Q.aD, Q.aK, Q.tCallQ, Q.tCallKQ, Q.pick, Q.sNil, Q.sSeq, Q.sRet, Q.sRetN, Q.sExpr, Q.sIf, Q.sSet, Q.sSetL, Q.sAsg, Q.sFor, Q.sPar2, Q.sPar3, Q.pNil, Q.pD, Q.pO, Q.pDn, Q.gN, Q.gT, Q.gsNil, Q.gsCons, Q.iQ, Q.itD, Q.iEn, Q.itE, Q.rg1, Q.rg2, Q.oNone, Q.oSome, Q.tSlQ, Q.revD, Q.tOwnM, Q.appC, Q.popC, Q.extC, Q.ownL, Q.tRepL, Q.repC, Q.sSetIx, Q.ixOwn, Q.tLcQ, Q.noOwn, Q.rstQ, Q.wipeQ, Q.sDn, Q.sSetD, Q.tDgetN, Q.dOwn, Q.tTupRg, Q.sNever, Q.isB, Q.listD, Q.listC, Q.reprD, Q.Sl.isOwn, List.map_cons, List.map_nil, List.replicate_succ, List.replicate_zero, List.cons_append, List.nil_append, List.append_nil, List.getElem?_cons_zero, List.getElem?_cons_succ, List.set_cons_zero, List.set_cons_succ, List.getD_cons_zero, List.getD_cons_succ, List.filterMap_cons, List.filterMap_nil, List.all_cons, List.all_nil, Bool.and_true, Bool.true_and, Bool.not_true, Bool.not_false, Bool.not_eq_true, Bool.false_eq_true, Bool.and_self, if_true, if_false, true_and, and_true, ↓reduceIte, eqD, neD, sh_int, eqv_int, eqv_strs, sDraw, List.length_cons, List.length_nil, Nat.zero_add, Nat.reduceAdd, decide_true, eq_self]
      have fin : ∀ b1 : Bool, (sgn (ds.drop (k + 1)) (a.drop (k + 1)) = 1) = (b1 = true) → True := fun _ _ => trivial
      by_cases hs : sgn (ds.drop (k + 1)) (a.drop (k + 1)) = 1
      · rw [if_pos hs] at h
        have e1 : decide (sgn (ds.drop (k + 1)) (a.drop (k + 1)) = 1) = true := decide_eq_true hs
        rw [e1]
        simp only [Q.addF, Q.mulF, Q.bandI, Q.iZip, Q.itZ, Q.slD, Q.enOf, Q.tV, Q.tK, Q.t2, Q.t1, Q.tB, Q.cI, Q.cIp, Q.addI, Q.subI, Q.mulI, Q.fdivI, Q.modI, Q.powI, Q.ltI, Q.leI, Q.gtI, Q.geI, Q.negI, Q.vAnd, Q.vOr, Q.vNot, Q.qAnd, Q.qOr, Q.qNot, Q.qIf, Q.chI, Q.tTupQ, Q.dNil, Q.dCons, Q.tLstQ, Q.tFz, Q.tCA, Q.lenD, Q.tupD, Q.isD, Q.isInt, Q.isBool, Q.isTup, Q.isStr, Q.isLst, Q.tLenN, Q.tIxN, Q.setQ, Q.aNil, Q.aD, Q.aK, Q.tCallQ, Q.tCallKQ, Q.pick, Q.sNil, Q.sSeq, Q.sRet, Q.sRetN, Q.sExpr, Q.sIf, Q.sSet, Q.sSetL, Q.sAsg, Q.sFor, Q.sPar2, Q.sPar3, Q.pNil, Q.pD, Q.pO, Q.pDn, Q.gN, Q.gT, Q.gsNil, Q.gsCons, Q.iQ, Q.itD, Q.iEn, Q.itE, Q.rg1, Q.rg2, Q.oNone, Q.oSome, Q.tSlQ, Q.revD, Q.tOwnM, Q.appC, Q.popC, Q.extC, Q.ownL, Q.tRepL, Q.repC, Q.sSetIx, Q.ixOwn, Q.tLcQ, Q.noOwn, Q.rstQ, Q.wipeQ, Q.sDn, Q.sSetD, Q.tDgetN, Q.dOwn, Q.tTupRg, Q.sNever, Q.isB, Q.listD, Q.listC, Q.reprD, Q.Sl.isOwn, List.map_cons, List.map_nil, List.replicate_succ, List.replicate_zero, List.cons_append, List.nil_append, List.append_nil, List.getElem?_cons_zero, List.getElem?_cons_succ, List.set_cons_zero, List.set_cons_succ, List.getD_cons_zero, List.getD_cons_succ, List.filterMap_cons, List.filterMap_nil, List.all_cons, List.all_nil, Bool.and_true, Bool.true_and, Bool.not_true, Bool.not_false, Bool.not_eq_true, Bool.false_eq_true, Bool.and_self, if_true, if_false, true_and, and_true, ↓reduceIte, eqD, neD, sh_int, eqv_int, eqv_strs, sDraw, List.length_cons, List.length_nil, Nat.zero_add, Nat.reduceAdd, decide_true, eq_self, ixD]
        refine ⟨_, at_int (by omega) (by omega), _, at_int (by omega) (by omega), ?_⟩
        simpa only [Q.addF, Q.mulF, Q.bandI, Q.iZip, Q.itZ, Q.slD, Q.enOf, Q.tV, Q.tK, Q.t2, Q.t1, Q.tB, Q.cI, Q.cIp, Q.addI, Q.subI, Q.mulI, Q.fdivI, Q.modI, Q.powI, Q.ltI, Q.leI, Q.gtI, Q.geI, Q.negI, Q.vAnd, Q.vOr, Q.vNot, Q.qAnd, Q.qOr, Q.qNot, Q.qIf, Q.chI, Q.tTupQ, Q.dNil, Q.dCons, Q.tLstQ, Q.tFz, Q.tCA, Q.lenD, Q.tupD, Q.isD, Q.isInt, Q.isBool, Q.isTup, Q.isStr, Q.isLst, Q.tLenN, Q.tIxN, Q.setQ, Q.aNil, Q.aD, Q.aK, Q.tCallQ, Q.tCallKQ, Q.pick, Q.sNil, Q.sSeq, Q.sRet, Q.sRetN, Q.sExpr, Q.sIf, Q.sSet, Q.sSetL, Q.sAsg, Q.sFor, Q.sPar2, Q.sPar3, Q.pNil, Q.pD, Q.pO, Q.pDn, Q.gN, Q.gT, Q.gsNil, Q.gsCons, Q.iQ, Q.itD, Q.iEn, Q.itE, Q.rg1, Q.rg2, Q.oNone, Q.oSome, Q.tSlQ, Q.revD, Q.tOwnM, Q.appC, Q.popC, Q.extC, Q.ownL, Q.tRepL, Q.repC, Q.sSetIx, Q.ixOwn, Q.tLcQ, Q.noOwn, Q.rstQ, Q.wipeQ, Q.sDn, Q.sSetD, Q.tDgetN, Q.dOwn, Q.tTupRg, Q.sNever, Q.isB, Q.listD, Q.listC, Q.reprD, Q.Sl.isOwn, List.map_cons, List.map_nil, List.replicate_succ, List.replicate_zero, List.cons_append, List.nil_append, List.append_nil, List.getElem?_cons_zero, List.getElem?_cons_succ, List.set_cons_zero, List.set_cons_succ, List.getD_cons_zero, List.getD_cons_succ, List.filterMap_cons, List.filterMap_nil, List.all_cons, List.all_nil, Bool.and_true, Bool.true_and, Bool.not_true, Bool.not_false, Bool.not_eq_true, Bool.false_eq_true, Bool.and_self, if_true, if_false, true_and, and_true, ↓reduceIte, eqD, neD, sh_int, eqv_int, eqv_strs, sDraw, List.length_cons, List.length_nil, Nat.zero_add, Nat.reduceAdd, decide_true, eq_self, Int.toNat_natCast] using h
      · rw [if_neg hs] at h
        have e1 : decide (sgn (ds.drop (k + 1)) (a.drop (k + 1)) = 1) = false := decide_eq_false hs
        rw [e1]
        simp only [Q.addF, Q.mulF, Q.bandI, Q.iZip, Q.itZ, Q.slD, Q.enOf, Q.tV, Q.tK, Q.t2, Q.t1, Q.tB, Q.cI, Q.cIp, Q.addI, Q.subI, Q.mulI, Q.fdivI, Q.modI, Q.powI, Q.ltI, Q.leI, Q.gtI, Q.geI, Q.negI, Q.vAnd, Q.vOr, Q.vNot, Q.qAnd, Q.qOr, Q.qNot, Q.qIf, Q.chI, Q.tTupQ, Q.dNil, Q.dCons, Q.tLstQ, Q.tFz, Q.tCA, Q.lenD, Q.tupD, Q.isD, Q.isInt, Q.isBool, Q.isTup, Q.isStr, Q.isLst, Q.tLenN, Q.tIxN, Q.setQ, Q.aNil, Q.aD, Q.aK, Q.tCallQ, Q.tCallKQ, Q.pick, Q.sNil, Q.sSeq, Q.sRet, Q.sRetN, Q.sExpr, Q.sIf, Q.sSet, Q.sSetL, Q.sAsg, Q.sFor, Q.sPar2, Q.sPar3, Q.pNil, Q.pD, Q.pO, Q.pDn, Q.gN, Q.gT, Q.gsNil, Q.gsCons, Q.iQ, Q.itD, Q.iEn, Q.itE, Q.rg1, Q.rg2, Q.oNone, Q.oSome, Q.tSlQ, Q.revD, Q.tOwnM, Q.appC, Q.popC, Q.extC, Q.ownL, Q.tRepL, Q.repC, Q.sSetIx, Q.ixOwn, Q.tLcQ, Q.noOwn, Q.rstQ, Q.wipeQ, Q.sDn, Q.sSetD, Q.tDgetN, Q.dOwn, Q.tTupRg, Q.sNever, Q.isB, Q.listD, Q.listC, Q.reprD, Q.Sl.isOwn, List.map_cons, List.map_nil, List.replicate_succ, List.replicate_zero, List.cons_append, List.nil_append, List.append_nil, List.getElem?_cons_zero, List.getElem?_cons_succ, List.set_cons_zero, List.set_cons_succ, List.getD_cons_zero, List.getD_cons_succ, List.filterMap_cons, List.filterMap_nil, List.all_cons, List.all_nil, Bool.and_true, Bool.true_and, Bool.not_true, Bool.not_false, Bool.not_eq_true, Bool.false_eq_true, Bool.and_self, if_true, if_false, true_and, and_true, ↓reduceIte, eqD, neD, sh_int, eqv_int, eqv_strs, sDraw, List.length_cons, List.length_nil, Nat.zero_add, Nat.reduceAdd, decide_true, eq_self, ixD]
        refine ⟨_, at_int (by omega) (by omega), _, at_int (by omega) (by omega), ?_⟩
        simpa only [Q.addF, Q.mulF, Q.bandI, Q.iZip, Q.itZ, Q.slD, Q.enOf, Q.tV, Q.tK, Q.t2, Q.t1, Q.tB, Q.cI, Q.cIp, Q.addI, Q.subI, Q.mulI, Q.fdivI, Q.modI, Q.powI, Q.ltI, Q.leI, Q.gtI, Q.geI, Q.negI, Q.vAnd, Q.vOr, Q.vNot, Q.qAnd, Q.qOr, Q.qNot, Q.qIf, Q.chI, Q.tTupQ, Q.dNil, Q.dCons, Q.tLstQ, Q.tFz, Q.tCA, Q.lenD, Q.tupD, Q.isD, Q.isInt, Q.isBool, Q.isTup, Q.isStr, Q.isLst, Q.tLenN, Q.tIxN, Q.setQ, Q.aNil, Q.aD, Q.aK, Q.tCallQ, Q.tCallKQ, Q.pick, Q.sNil, Q.sSeq, Q.sRet, Q.sRetN, Q.sExpr, Q.sIf, Q.sSet, Q.sSetL, Q.sAsg, Q.sFor, Q.sPar2, Q.sPar3, Q.pNil, Q.pD, Q.pO, Q.pDn, Q.gN, Q.gT, Q.gsNil, Q.gsCons, Q.iQ, Q.itD, Q.iEn, Q.itE, Q.rg1, Q.rg2, Q.oNone, Q.oSome, Q.tSlQ, Q.revD, Q.tOwnM, Q.appC, Q.popC, Q.extC, Q.ownL, Q.tRepL, Q.repC, Q.sSetIx, Q.ixOwn, Q.tLcQ, Q.noOwn, Q.rstQ, Q.wipeQ, Q.sDn, Q.sSetD, Q.tDgetN, Q.dOwn, Q.tTupRg, Q.sNever, Q.isB, Q.listD, Q.listC, Q.reprD, Q.Sl.isOwn, List.map_cons, List.map_nil, List.replicate_succ, List.replicate_zero, List.cons_append, List.nil_append, List.append_nil, List.getElem?_cons_zero, List.getElem?_cons_succ, List.set_cons_zero, List.set_cons_succ, List.getD_cons_zero, List.getD_cons_succ, List.filterMap_cons, List.filterMap_nil, List.all_cons, List.all_nil, Bool.and_true, Bool.true_and, Bool.not_true, Bool.not_false, Bool.not_eq_true, Bool.false_eq_true, Bool.and_self, if_true, if_false, true_and, and_true, ↓reduceIte, eqD, neD, sh_int, eqv_int, eqv_strs, sDraw, List.length_cons, List.length_nil, Nat.zero_add, Nat.reduceAdd, decide_true, eq_self, Int.toNat_natCast] using h
theorem getD_in {α : Type} {l : List α} {k : Nat} {z : α} (h : k < l.length) : l.getD k z ∈ l := by
  have : l.getD k z = l[k] := by simp [List.getD_eq_getElem?_getD, h]
  rw [this]
  exact List.getElem_mem h
theorem OkR.put {z : Int} : ∀ {ds : List Desk} {c : List Int} (k : Nat), OkR ds c → k < ds.length → 0 ≤ z → z < (ds.getD k []).length → OkR ds (c.take k ++ [z] ++ c.drop (k + 1))
  | _ :: _, _ :: _, 0, h, _, h1, h2 => ⟨⟨h1, h2⟩, h.2⟩
  | _ :: _, _ :: _, k + 1, h, hk, h1, h2 => ⟨h.1, OkR.put k h.2 (by simpa using hk) h1 h2⟩
  | [], _, _, _, hk, _, _ => by simp at hk
  | _ :: _, [], _, h, _, _, _ => h.elim
theorem eqv_dnil {ds : List Desk} : PyData.eqv (.tuple (ds.map deskD)) (.tuple []) = ds.isEmpty := by
  cases ds with
  | nil => simp [PyData.eqv, PyData.eqvAll]
  | cons a l => exact eqv_tup0
theorem at_desk {ds : List Desk} {k : Nat} (h : k < ds.length) : atI (ds.map deskD) ((k : Nat) : Int) = some (deskD (ds.getD k [])) := by
  refine atI_nat ?_
  simp [List.getD_eq_getElem?_getD, h]
def sp__law_near : PSpec := fun as R => ∃ (ds : List Desk) (c : List Int), as = [.dk, .d (desksD ds), .d (tupI c)] ∧ T43.Dk ds ∧ OkR ds c ∧ ∀ c' : List Int, OkR ds c' → R (tupI c')
theorem len__law_near : ∀ as R, sp__law_near as R → as.length = 3 := by rintro as R ⟨i, c, rfl, _⟩; rfl
theorem rd__law_near : ∀ as R, sp__law_near as R → t__law_near sDraw { nx := fun _ => R .none, rt := R } (enOf as 1) := by
  rintro as R ⟨ds, c, rfl, hd, hc, h⟩
  have few := hd.few
  have lc := hc.length
  have shD := (tn_desks hd.ok few).shaped (by decide)
  simp only [desksD] at shD
  simp only [t__law_near, desksD, tupI, Q.addF, Q.mulF, Q.bandI, Q.iZip, Q.itZ, Q.slD, Q.enOf, Q.tV, Q.tK, Q.t2, Q.t1, Q.tB, Q.cI, Q.cIp, Q.addI, Q.subI, Q.mulI, Q.fdivI, Q.modI, Q.powI, Q.ltI, Q.leI, Q.gtI, Q.geI, Q.negI, Q.vAnd, Q.vOr, Q.vNot, Q.qAnd, Q.qOr, Q.qNot, Q.qIf, Q.chI, Q.tTupQ, Q.dNil, Q.dCons, Q.tLstQ, Q.tFz, Q.tCA, Q.lenD, Q.tupD, Q.isD, Q.isInt, Q.isBool, Q.isTup, Q.isStr, Q.isLst, Q.tLenN, Q.tIxN, Q.setQ, Q.aNil, Q.aD, Q.aK, Q.tCallQ, Q.tCallKQ, Q.pick, Q.sNil, Q.sSeq, Q.sRet, Q.sRetN, Q.sExpr, Q.sIf, Q.sSet, Q.sSetL, Q.sAsg, Q.sFor, Q.sPar2, Q.sPar3, Q.pNil, Q.pD, Q.pO, Q.pDn, Q.gN, Q.gT, Q.gsNil, Q.gsCons, Q.iQ, Q.itD, Q.iEn, Q.itE, Q.rg1, Q.rg2, Q.oNone, Q.oSome, Q.tSlQ, Q.revD, Q.tOwnM, Q.appC, Q.popC, Q.extC, Q.ownL, Q.tRepL, Q.repC, Q.sSetIx, Q.ixOwn, Q.tLcQ, Q.noOwn, Q.rstQ, Q.wipeQ, Q.sDn, Q.sSetD, Q.tDgetN, Q.dOwn, Q.tTupRg, Q.sNever, Q.isB, Q.listD, Q.listC, Q.reprD, Q.Sl.isOwn, List.map_cons, List.map_nil, List.replicate_succ, List.replicate_zero, List.cons_append, List.nil_append, List.append_nil, List.getElem?_cons_zero, List.getElem?_cons_succ, List.set_cons_zero, List.set_cons_succ, List.getD_cons_zero, List.getD_cons_succ, List.filterMap_cons, List.filterMap_nil, List.all_cons, List.all_nil, Bool.and_true, Bool.true_and, Bool.not_true, Bool.not_false, Bool.not_eq_true, Bool.false_eq_true, Bool.and_self, if_true, if_false, true_and, and_true, ↓reduceIte, eqD, neD, sh_int, eqv_int, eqv_strs, sDraw, List.length_cons, List.length_nil, Nat.zero_add, Nat.reduceAdd, decide_true, eq_self, shD, eqv_dnil]
  refine ⟨by decide, by exact sh_tupI (ns := []), ?_⟩
  cases ds with
  | nil => exact h c hc
  | cons d ds =>
    simp only [List.isEmpty_cons, Q.addF, Q.mulF, Q.bandI, Q.iZip, Q.itZ, Q.slD, Q.enOf, Q.tV, Q.tK, Q.t2, Q.t1, Q.tB, Q.cI, Q.cIp, Q.addI, Q.subI, Q.mulI, Q.fdivI, Q.modI, Q.powI, Q.ltI, Q.leI, Q.gtI, Q.geI, Q.negI, Q.vAnd, Q.vOr, Q.vNot, Q.qAnd, Q.qOr, Q.qNot, Q.qIf, Q.chI, Q.tTupQ, Q.dNil, Q.dCons, Q.tLstQ, Q.tFz, Q.tCA, Q.lenD, Q.tupD, Q.isD, Q.isInt, Q.isBool, Q.isTup, Q.isStr, Q.isLst, Q.tLenN, Q.tIxN, Q.setQ, Q.aNil, Q.aD, Q.aK, Q.tCallQ, Q.tCallKQ, Q.pick, Q.sNil, Q.sSeq, Q.sRet, Q.sRetN, Q.sExpr, Q.sIf, Q.sSet, Q.sSetL, Q.sAsg, Q.sFor, Q.sPar2, Q.sPar3, Q.pNil, Q.pD, Q.pO, Q.pDn, Q.gN, Q.gT, Q.gsNil, Q.gsCons, Q.iQ, Q.itD, Q.iEn, Q.itE, Q.rg1, Q.rg2, Q.oNone, Q.oSome, Q.tSlQ, Q.revD, Q.tOwnM, Q.appC, Q.popC, Q.extC, Q.ownL, Q.tRepL, Q.repC, Q.sSetIx, Q.ixOwn, Q.tLcQ, Q.noOwn, Q.rstQ, Q.wipeQ, Q.sDn, Q.sSetD, Q.tDgetN, Q.dOwn, Q.tTupRg, Q.sNever, Q.isB, Q.listD, Q.listC, Q.reprD, Q.Sl.isOwn, List.map_cons, List.map_nil, List.replicate_succ, List.replicate_zero, List.cons_append, List.nil_append, List.append_nil, List.getElem?_cons_zero, List.getElem?_cons_succ, List.set_cons_zero, List.set_cons_succ, List.getD_cons_zero, List.getD_cons_succ, List.filterMap_cons, List.filterMap_nil, List.all_cons, List.all_nil, Bool.and_true, Bool.true_and, Bool.not_true, Bool.not_false, Bool.not_eq_true, Bool.false_eq_true, Bool.and_self, if_true, if_false, true_and, and_true, ↓reduceIte, eqD, neD, sh_int, eqv_int, eqv_strs, sDraw, List.length_cons, List.length_nil, Nat.zero_add, Nat.reduceAdd, decide_true, eq_self, List.length_map]
    rw [List.length_cons] at few lc
    refine ⟨by omega, by omega, fun r hr1 hr2 => ?_⟩
    obtain ⟨k, rfl⟩ := Int.eq_ofNat_of_zero_le hr1
    have hk : k < (d :: ds).length := by rw [List.length_cons]; omega
    have ek : ((k : Nat) : Int) + 1 = ((k + 1 : Nat) : Int) := by omega
    have hk2 := hd.ok _ (getD_in (z := []) hk)
    simp only [Q.addF, Q.mulF, Q.bandI, Q.iZip, Q.itZ, Q.slD, Q.enOf, Q.tV, Q.tK, Q.t2, Q.t1, Q.tB, Q.cI, Q.cIp, Q.addI, Q.subI, Q.mulI, Q.fdivI, Q.modI, Q.powI, Q.ltI, Q.leI, Q.gtI, Q.geI, Q.negI, Q.vAnd, Q.vOr, Q.vNot, Q.qAnd, Q.qOr, Q.qNot, Q.qIf, Q.chI, Q.tTupQ, Q.dNil, Q.dCons, Q.tLstQ, Q.tFz, Q.tCA, Q.lenD, Q.tupD, Q.isD, Q.isInt, Q.isBool, Q.isTup, Q.isStr, Q.isLst, Q.tLenN, Q.tIxN, Q.setQ, Q.aNil, Q.aD, Q.aK, Q.tCallQ, Q.tCallKQ, Q.pick, Q.sNil, Q.sSeq, Q.sRet, Q.sRetN, Q.sExpr, Q.sIf, Q.sSet, Q.sSetL, Q.sAsg, Q.sFor, Q.sPar2, Q.sPar3, Q.pNil, Q.pD, Q.pO, Q.pDn, Q.gN, Q.gT, Q.gsNil, Q.gsCons, Q.iQ, Q.itD, Q.iEn, Q.itE, Q.rg1, Q.rg2, Q.oNone, Q.oSome, Q.tSlQ, Q.revD, Q.tOwnM, Q.appC, Q.popC, Q.extC, Q.ownL, Q.tRepL, Q.repC, Q.sSetIx, Q.ixOwn, Q.tLcQ, Q.noOwn, Q.rstQ, Q.wipeQ, Q.sDn, Q.sSetD, Q.tDgetN, Q.dOwn, Q.tTupRg, Q.sNever, Q.isB, Q.listD, Q.listC, Q.reprD, Q.Sl.isOwn, List.map_cons, List.map_nil, List.replicate_succ, List.replicate_zero, List.cons_append, List.nil_append, List.append_nil, List.getElem?_cons_zero, List.getElem?_cons_succ, List.set_cons_zero, List.set_cons_succ, List.getD_cons_zero, List.getD_cons_succ, List.filterMap_cons, List.filterMap_nil, List.all_cons, List.all_nil, Bool.and_true, Bool.true_and, Bool.not_true, Bool.not_false, Bool.not_eq_true, Bool.false_eq_true, Bool.and_self, if_true, if_false, true_and, and_true, ↓reduceIte, eqD, neD, sh_int, eqv_int, eqv_strs, sDraw, List.length_cons, List.length_nil, Nat.zero_add, Nat.reduceAdd, decide_true, eq_self, ixD]
    rw [cut_to (by rw [List.length_map]; omega)]
    refine ⟨_, at_desk hk, ?_⟩
    simp only [deskD, Q.addF, Q.mulF, Q.bandI, Q.iZip, Q.itZ, Q.slD, Q.enOf, Q.tV, Q.tK, Q.t2, Q.t1, Q.tB, Q.cI, Q.cIp, Q.addI, Q.subI, Q.mulI, Q.fdivI, Q.modI, Q.powI, Q.ltI, Q.leI, Q.gtI, Q.geI, Q.negI, Q.vAnd, Q.vOr, Q.vNot, Q.qAnd, Q.qOr, Q.qNot, Q.qIf, Q.chI, Q.tTupQ, Q.dNil, Q.dCons, Q.tLstQ, Q.tFz, Q.tCA, Q.lenD, Q.tupD, Q.isD, Q.isInt, Q.isBool, Q.isTup, Q.isStr, Q.isLst, Q.tLenN, Q.tIxN, Q.setQ, Q.aNil, Q.aD, Q.aK, Q.tCallQ, Q.tCallKQ, Q.pick, Q.sNil, Q.sSeq, Q.sRet, Q.sRetN, Q.sExpr, Q.sIf, Q.sSet, Q.sSetL, Q.sAsg, Q.sFor, Q.sPar2, Q.sPar3, Q.pNil, Q.pD, Q.pO, Q.pDn, Q.gN, Q.gT, Q.gsNil, Q.gsCons, Q.iQ, Q.itD, Q.iEn, Q.itE, Q.rg1, Q.rg2, Q.oNone, Q.oSome, Q.tSlQ, Q.revD, Q.tOwnM, Q.appC, Q.popC, Q.extC, Q.ownL, Q.tRepL, Q.repC, Q.sSetIx, Q.ixOwn, Q.tLcQ, Q.noOwn, Q.rstQ, Q.wipeQ, Q.sDn, Q.sSetD, Q.tDgetN, Q.dOwn, Q.tTupRg, Q.sNever, Q.isB, Q.listD, Q.listC, Q.reprD, Q.Sl.isOwn, List.map_cons, List.map_nil, List.replicate_succ, List.replicate_zero, List.cons_append, List.nil_append, List.append_nil, List.getElem?_cons_zero, List.getElem?_cons_succ, List.set_cons_zero, List.set_cons_succ, List.getD_cons_zero, List.getD_cons_succ, List.filterMap_cons, List.filterMap_nil, List.all_cons, List.all_nil, Bool.and_true, Bool.true_and, Bool.not_true, Bool.not_false, Bool.not_eq_true, Bool.false_eq_true, Bool.and_self, if_true, if_false, true_and, and_true, ↓reduceIte, eqD, neD, sh_int, eqv_int, eqv_strs, sDraw, List.length_cons, List.length_nil, Nat.zero_add, Nat.reduceAdd, decide_true, eq_self, List.length_map]
    refine ⟨by omega, by omega, fun z hz1 hz2 => ?_⟩
    simp only [Q.addF, Q.mulF, Q.bandI, Q.iZip, Q.itZ, Q.slD, Q.enOf, Q.tV, Q.tK, Q.t2, Q.t1, Q.tB, Q.cI, Q.cIp, Q.addI, Q.subI, Q.mulI, Q.fdivI, Q.modI, Q.powI, Q.ltI, Q.leI, Q.gtI, Q.geI, Q.negI, Q.vAnd, Q.vOr, Q.vNot, Q.qAnd, Q.qOr, Q.qNot, Q.qIf, Q.chI, Q.tTupQ, Q.dNil, Q.dCons, Q.tLstQ, Q.tFz, Q.tCA, Q.lenD, Q.tupD, Q.isD, Q.isInt, Q.isBool, Q.isTup, Q.isStr, Q.isLst, Q.tLenN, Q.tIxN, Q.setQ, Q.aNil, Q.aD, Q.aK, Q.tCallQ, Q.tCallKQ, Q.pick, Q.sNil, Q.sSeq, Q.sRet, Q.sRetN, Q.sExpr, Q.sIf, Q.sSet, Q.sSetL, Q.sAsg, Q.sFor, Q.sPar2, Q.sPar3, Q.pNil, Q.pD, Q.pO, Q.pDn, Q.gN, Q.gT, Q.gsNil, Q.gsCons, Q.iQ, Q.itD, Q.iEn, Q.itE, Q.rg1, Q.rg2, Q.oNone, Q.oSome, Q.tSlQ, Q.revD, Q.tOwnM, Q.appC, Q.popC, Q.extC, Q.ownL, Q.tRepL, Q.repC, Q.sSetIx, Q.ixOwn, Q.tLcQ, Q.noOwn, Q.rstQ, Q.wipeQ, Q.sDn, Q.sSetD, Q.tDgetN, Q.dOwn, Q.tTupRg, Q.sNever, Q.isB, Q.listD, Q.listC, Q.reprD, Q.Sl.isOwn, List.map_cons, List.map_nil, List.replicate_succ, List.replicate_zero, List.cons_append, List.nil_append, List.append_nil, List.getElem?_cons_zero, List.getElem?_cons_succ, List.set_cons_zero, List.set_cons_succ, List.getD_cons_zero, List.getD_cons_succ, List.filterMap_cons, List.filterMap_nil, List.all_cons, List.all_nil, Bool.and_true, Bool.true_and, Bool.not_true, Bool.not_false, Bool.not_eq_true, Bool.false_eq_true, Bool.and_self, if_true, if_false, true_and, and_true, ↓reduceIte, eqD, neD, sh_int, eqv_int, eqv_strs, sDraw, List.length_cons, List.length_nil, Nat.zero_add, Nat.reduceAdd, decide_true, eq_self, ek]
    rw [cut_from (by rw [List.length_map]; omega)]
    refine ⟨by decide, by simp; omega, by simp; omega, ?_⟩
    have := h (c.take k ++ [z] ++ c.drop (k + 1)) (OkR.put k hc hk hz1 hz2)
    simpa only [tupI, List.map_append, List.map_take, List.map_drop, List.map_cons, List.map_nil] using this
theorem eqv_bb {p q : Bool} : PyData.eqv (.tuple [.bool p, .bool q]) (.tuple [.bool p, .bool q]) = true := by simp [PyData.eqv, PyData.eqvAll]
theorem tn_bb {p q : Bool} : Tn 1 17 (.tuple [.bool p, .bool q]) := tn_tup2 (k := 0) (B := 5) tn_bool tn_bool
def sp__law_are_right : PSpec := fun as R => ∃ (ds : List Desk) (a b : List Int), as = [.d (desksD ds), .d (tupI a), .d (tupI b)] ∧ T43.Dk ds ∧ OkR ds a ∧ OkR ds b ∧ R (.bool true)
theorem len__law_are_right : ∀ as R, sp__law_are_right as R → as.length = 3 := by rintro as R ⟨i, c, b, rfl, _⟩; rfl
theorem pos_le {ds : List Desk} {c : List Int} (hd : T43.Dk ds) (h : OkR ds c) : 0 ≤ pos ds c ∧ pos ds c < many ds ∧ many ds ≤ 2176782336 := by
  have := pos_bd hd.ok.rev h.rev
  exact ⟨this.1, this.2, many_12 hd.ok.rev (by simpa using hd.few)⟩
theorem rd__law_are_right : ∀ as R, sp__law_are_right as R → t__law_are_right sp__law_is_less sp_is_ahead sp_position_of sp__law_position sp_sign_of sp__law_sign { nx := fun _ => R .none, rt := R } (enOf as 2) := by
  rintro as R ⟨ds, a, b, rfl, hd, ha, hb, h⟩
  have pa := pos_le hd ha
  have pb := pos_le hd hb
  simp only [t__law_are_right, Q.addF, Q.mulF, Q.bandI, Q.iZip, Q.itZ, Q.slD, Q.enOf, Q.tV, Q.tK, Q.t2, Q.t1, Q.tB, Q.cI, Q.cIp, Q.addI, Q.subI, Q.mulI, Q.fdivI, Q.modI, Q.powI, Q.ltI, Q.leI, Q.gtI, Q.geI, Q.negI, Q.vAnd, Q.vOr, Q.vNot, Q.qAnd, Q.qOr, Q.qNot, Q.qIf, Q.chI, Q.tTupQ, Q.dNil, Q.dCons, Q.tLstQ, Q.tFz, Q.tCA, Q.lenD, Q.tupD, Q.isD, Q.isInt, Q.isBool, Q.isTup, Q.isStr, Q.isLst, Q.tLenN, Q.tIxN, Q.setQ, Q.aNil, Q.aD, Q.aK, Q.tCallQ, Q.tCallKQ, Q.pick, Q.sNil, Q.sSeq, Q.sRet, Q.sRetN, Q.sExpr, Q.sIf, Q.sSet, Q.sSetL, Q.sAsg, Q.sFor, Q.sPar2, Q.sPar3, Q.pNil, Q.pD, Q.pO, Q.pDn, Q.gN, Q.gT, Q.gsNil, Q.gsCons, Q.iQ, Q.itD, Q.iEn, Q.itE, Q.rg1, Q.rg2, Q.oNone, Q.oSome, Q.tSlQ, Q.revD, Q.tOwnM, Q.appC, Q.popC, Q.extC, Q.ownL, Q.tRepL, Q.repC, Q.sSetIx, Q.ixOwn, Q.tLcQ, Q.noOwn, Q.rstQ, Q.wipeQ, Q.sDn, Q.sSetD, Q.tDgetN, Q.dOwn, Q.tTupRg, Q.sNever, Q.isB, Q.listD, Q.listC, Q.reprD, Q.Sl.isOwn, List.map_cons, List.map_nil, List.replicate_succ, List.replicate_zero, List.cons_append, List.nil_append, List.append_nil, List.getElem?_cons_zero, List.getElem?_cons_succ, List.set_cons_zero, List.set_cons_succ, List.getD_cons_zero, List.getD_cons_succ, List.filterMap_cons, List.filterMap_nil, List.all_cons, List.all_nil, Bool.and_true, Bool.true_and, Bool.not_true, Bool.not_false, Bool.not_eq_true, Bool.false_eq_true, Bool.and_self, if_true, if_false, true_and, and_true, ↓reduceIte, eqD, neD, sh_int, eqv_int, eqv_strs, sDraw, List.length_cons, List.length_nil, Nat.zero_add, Nat.reduceAdd, decide_true, eq_self]
  refine ⟨ds, a, b, rfl, hd, ha, hb, ?_⟩
  try simp only [Q.addF, Q.mulF, Q.bandI, Q.iZip, Q.itZ, Q.slD, Q.enOf, Q.tV, Q.tK, Q.t2, Q.t1, Q.tB, Q.cI, Q.cIp, Q.addI, Q.subI, Q.mulI, Q.fdivI, Q.modI, Q.powI, Q.ltI, Q.leI, Q.gtI, Q.geI, Q.negI, Q.vAnd, Q.vOr, Q.vNot, Q.qAnd, Q.qOr, Q.qNot, Q.qIf, Q.chI, Q.tTupQ, Q.dNil, Q.dCons, Q.tLstQ, Q.tFz, Q.tCA, Q.lenD, Q.tupD, Q.isD, Q.isInt, Q.isBool, Q.isTup, Q.isStr, Q.isLst, Q.tLenN, Q.tIxN, Q.setQ, Q.aNil, Q.aD, Q.aK, Q.tCallQ, Q.tCallKQ, Q.pick, Q.sNil, Q.sSeq, Q.sRet, Q.sRetN, Q.sExpr, Q.sIf, Q.sSet, Q.sSetL, Q.sAsg, Q.sFor, Q.sPar2, Q.sPar3, Q.pNil, Q.pD, Q.pO, Q.pDn, Q.gN, Q.gT, Q.gsNil, Q.gsCons, Q.iQ, Q.itD, Q.iEn, Q.itE, Q.rg1, Q.rg2, Q.oNone, Q.oSome, Q.tSlQ, Q.revD, Q.tOwnM, Q.appC, Q.popC, Q.extC, Q.ownL, Q.tRepL, Q.repC, Q.sSetIx, Q.ixOwn, Q.tLcQ, Q.noOwn, Q.rstQ, Q.wipeQ, Q.sDn, Q.sSetD, Q.tDgetN, Q.dOwn, Q.tTupRg, Q.sNever, Q.isB, Q.listD, Q.listC, Q.reprD, Q.Sl.isOwn, List.map_cons, List.map_nil, List.replicate_succ, List.replicate_zero, List.cons_append, List.nil_append, List.append_nil, List.getElem?_cons_zero, List.getElem?_cons_succ, List.set_cons_zero, List.set_cons_succ, List.getD_cons_zero, List.getD_cons_succ, List.filterMap_cons, List.filterMap_nil, List.all_cons, List.all_nil, Bool.and_true, Bool.true_and, Bool.not_true, Bool.not_false, Bool.not_eq_true, Bool.false_eq_true, Bool.and_self, if_true, if_false, true_and, and_true, ↓reduceIte, eqD, neD, sh_int, eqv_int, eqv_strs, sDraw, List.length_cons, List.length_nil, Nat.zero_add, Nat.reduceAdd, decide_true, eq_self]
  refine ⟨ds, b, a, rfl, hd, hb, ha, ?_⟩
  try simp only [Q.addF, Q.mulF, Q.bandI, Q.iZip, Q.itZ, Q.slD, Q.enOf, Q.tV, Q.tK, Q.t2, Q.t1, Q.tB, Q.cI, Q.cIp, Q.addI, Q.subI, Q.mulI, Q.fdivI, Q.modI, Q.powI, Q.ltI, Q.leI, Q.gtI, Q.geI, Q.negI, Q.vAnd, Q.vOr, Q.vNot, Q.qAnd, Q.qOr, Q.qNot, Q.qIf, Q.chI, Q.tTupQ, Q.dNil, Q.dCons, Q.tLstQ, Q.tFz, Q.tCA, Q.lenD, Q.tupD, Q.isD, Q.isInt, Q.isBool, Q.isTup, Q.isStr, Q.isLst, Q.tLenN, Q.tIxN, Q.setQ, Q.aNil, Q.aD, Q.aK, Q.tCallQ, Q.tCallKQ, Q.pick, Q.sNil, Q.sSeq, Q.sRet, Q.sRetN, Q.sExpr, Q.sIf, Q.sSet, Q.sSetL, Q.sAsg, Q.sFor, Q.sPar2, Q.sPar3, Q.pNil, Q.pD, Q.pO, Q.pDn, Q.gN, Q.gT, Q.gsNil, Q.gsCons, Q.iQ, Q.itD, Q.iEn, Q.itE, Q.rg1, Q.rg2, Q.oNone, Q.oSome, Q.tSlQ, Q.revD, Q.tOwnM, Q.appC, Q.popC, Q.extC, Q.ownL, Q.tRepL, Q.repC, Q.sSetIx, Q.ixOwn, Q.tLcQ, Q.noOwn, Q.rstQ, Q.wipeQ, Q.sDn, Q.sSetD, Q.tDgetN, Q.dOwn, Q.tTupRg, Q.sNever, Q.isB, Q.listD, Q.listC, Q.reprD, Q.Sl.isOwn, List.map_cons, List.map_nil, List.replicate_succ, List.replicate_zero, List.cons_append, List.nil_append, List.append_nil, List.getElem?_cons_zero, List.getElem?_cons_succ, List.set_cons_zero, List.set_cons_succ, List.getD_cons_zero, List.getD_cons_succ, List.filterMap_cons, List.filterMap_nil, List.all_cons, List.all_nil, Bool.and_true, Bool.true_and, Bool.not_true, Bool.not_false, Bool.not_eq_true, Bool.false_eq_true, Bool.and_self, if_true, if_false, true_and, and_true, ↓reduceIte, eqD, neD, sh_int, eqv_int, eqv_strs, sDraw, List.length_cons, List.length_nil, Nat.zero_add, Nat.reduceAdd, decide_true, eq_self]
  refine ⟨by decide, ?_⟩
  refine ⟨ds, a, b, rfl, hd, ha, hb, ?_⟩
  try simp only [Q.addF, Q.mulF, Q.bandI, Q.iZip, Q.itZ, Q.slD, Q.enOf, Q.tV, Q.tK, Q.t2, Q.t1, Q.tB, Q.cI, Q.cIp, Q.addI, Q.subI, Q.mulI, Q.fdivI, Q.modI, Q.powI, Q.ltI, Q.leI, Q.gtI, Q.geI, Q.negI, Q.vAnd, Q.vOr, Q.vNot, Q.qAnd, Q.qOr, Q.qNot, Q.qIf, Q.chI, Q.tTupQ, Q.dNil, Q.dCons, Q.tLstQ, Q.tFz, Q.tCA, Q.lenD, Q.tupD, Q.isD, Q.isInt, Q.isBool, Q.isTup, Q.isStr, Q.isLst, Q.tLenN, Q.tIxN, Q.setQ, Q.aNil, Q.aD, Q.aK, Q.tCallQ, Q.tCallKQ, Q.pick, Q.sNil, Q.sSeq, Q.sRet, Q.sRetN, Q.sExpr, Q.sIf, Q.sSet, Q.sSetL, Q.sAsg, Q.sFor, Q.sPar2, Q.sPar3, Q.pNil, Q.pD, Q.pO, Q.pDn, Q.gN, Q.gT, Q.gsNil, Q.gsCons, Q.iQ, Q.itD, Q.iEn, Q.itE, Q.rg1, Q.rg2, Q.oNone, Q.oSome, Q.tSlQ, Q.revD, Q.tOwnM, Q.appC, Q.popC, Q.extC, Q.ownL, Q.tRepL, Q.repC, Q.sSetIx, Q.ixOwn, Q.tLcQ, Q.noOwn, Q.rstQ, Q.wipeQ, Q.sDn, Q.sSetD, Q.tDgetN, Q.dOwn, Q.tTupRg, Q.sNever, Q.isB, Q.listD, Q.listC, Q.reprD, Q.Sl.isOwn, List.map_cons, List.map_nil, List.replicate_succ, List.replicate_zero, List.cons_append, List.nil_append, List.append_nil, List.getElem?_cons_zero, List.getElem?_cons_succ, List.set_cons_zero, List.set_cons_succ, List.getD_cons_zero, List.getD_cons_succ, List.filterMap_cons, List.filterMap_nil, List.all_cons, List.all_nil, Bool.and_true, Bool.true_and, Bool.not_true, Bool.not_false, Bool.not_eq_true, Bool.false_eq_true, Bool.and_self, if_true, if_false, true_and, and_true, ↓reduceIte, eqD, neD, sh_int, eqv_int, eqv_strs, sDraw, List.length_cons, List.length_nil, Nat.zero_add, Nat.reduceAdd, decide_true, eq_self]
  refine ⟨ds, b, a, rfl, hd, hb, ha, ?_⟩
  have t1 : Tn 1 17 (.tuple [.bool (decide (pos ds a < pos ds b)), .bool (decide (pos ds b < pos ds a))]) := tn_bb
  refine ⟨by decide, t1.rep (by decide) (by decide), t1.rep (by decide) (by decide), t1.text, t1.text, ?_⟩
  try simp only [Q.addF, Q.mulF, Q.bandI, Q.iZip, Q.itZ, Q.slD, Q.enOf, Q.tV, Q.tK, Q.t2, Q.t1, Q.tB, Q.cI, Q.cIp, Q.addI, Q.subI, Q.mulI, Q.fdivI, Q.modI, Q.powI, Q.ltI, Q.leI, Q.gtI, Q.geI, Q.negI, Q.vAnd, Q.vOr, Q.vNot, Q.qAnd, Q.qOr, Q.qNot, Q.qIf, Q.chI, Q.tTupQ, Q.dNil, Q.dCons, Q.tLstQ, Q.tFz, Q.tCA, Q.lenD, Q.tupD, Q.isD, Q.isInt, Q.isBool, Q.isTup, Q.isStr, Q.isLst, Q.tLenN, Q.tIxN, Q.setQ, Q.aNil, Q.aD, Q.aK, Q.tCallQ, Q.tCallKQ, Q.pick, Q.sNil, Q.sSeq, Q.sRet, Q.sRetN, Q.sExpr, Q.sIf, Q.sSet, Q.sSetL, Q.sAsg, Q.sFor, Q.sPar2, Q.sPar3, Q.pNil, Q.pD, Q.pO, Q.pDn, Q.gN, Q.gT, Q.gsNil, Q.gsCons, Q.iQ, Q.itD, Q.iEn, Q.itE, Q.rg1, Q.rg2, Q.oNone, Q.oSome, Q.tSlQ, Q.revD, Q.tOwnM, Q.appC, Q.popC, Q.extC, Q.ownL, Q.tRepL, Q.repC, Q.sSetIx, Q.ixOwn, Q.tLcQ, Q.noOwn, Q.rstQ, Q.wipeQ, Q.sDn, Q.sSetD, Q.tDgetN, Q.dOwn, Q.tTupRg, Q.sNever, Q.isB, Q.listD, Q.listC, Q.reprD, Q.Sl.isOwn, List.map_cons, List.map_nil, List.replicate_succ, List.replicate_zero, List.cons_append, List.nil_append, List.append_nil, List.getElem?_cons_zero, List.getElem?_cons_succ, List.set_cons_zero, List.set_cons_succ, List.getD_cons_zero, List.getD_cons_succ, List.filterMap_cons, List.filterMap_nil, List.all_cons, List.all_nil, Bool.and_true, Bool.true_and, Bool.not_true, Bool.not_false, Bool.not_eq_true, Bool.false_eq_true, Bool.and_self, if_true, if_false, true_and, and_true, ↓reduceIte, eqD, neD, sh_int, eqv_int, eqv_strs, sDraw, List.length_cons, List.length_nil, Nat.zero_add, Nat.reduceAdd, decide_true, eq_self]
  refine ⟨ds, a, rfl, hd, ha, ?_⟩
  try simp only [Q.addF, Q.mulF, Q.bandI, Q.iZip, Q.itZ, Q.slD, Q.enOf, Q.tV, Q.tK, Q.t2, Q.t1, Q.tB, Q.cI, Q.cIp, Q.addI, Q.subI, Q.mulI, Q.fdivI, Q.modI, Q.powI, Q.ltI, Q.leI, Q.gtI, Q.geI, Q.negI, Q.vAnd, Q.vOr, Q.vNot, Q.qAnd, Q.qOr, Q.qNot, Q.qIf, Q.chI, Q.tTupQ, Q.dNil, Q.dCons, Q.tLstQ, Q.tFz, Q.tCA, Q.lenD, Q.tupD, Q.isD, Q.isInt, Q.isBool, Q.isTup, Q.isStr, Q.isLst, Q.tLenN, Q.tIxN, Q.setQ, Q.aNil, Q.aD, Q.aK, Q.tCallQ, Q.tCallKQ, Q.pick, Q.sNil, Q.sSeq, Q.sRet, Q.sRetN, Q.sExpr, Q.sIf, Q.sSet, Q.sSetL, Q.sAsg, Q.sFor, Q.sPar2, Q.sPar3, Q.pNil, Q.pD, Q.pO, Q.pDn, Q.gN, Q.gT, Q.gsNil, Q.gsCons, Q.iQ, Q.itD, Q.iEn, Q.itE, Q.rg1, Q.rg2, Q.oNone, Q.oSome, Q.tSlQ, Q.revD, Q.tOwnM, Q.appC, Q.popC, Q.extC, Q.ownL, Q.tRepL, Q.repC, Q.sSetIx, Q.ixOwn, Q.tLcQ, Q.noOwn, Q.rstQ, Q.wipeQ, Q.sDn, Q.sSetD, Q.tDgetN, Q.dOwn, Q.tTupRg, Q.sNever, Q.isB, Q.listD, Q.listC, Q.reprD, Q.Sl.isOwn, List.map_cons, List.map_nil, List.replicate_succ, List.replicate_zero, List.cons_append, List.nil_append, List.append_nil, List.getElem?_cons_zero, List.getElem?_cons_succ, List.set_cons_zero, List.set_cons_succ, List.getD_cons_zero, List.getD_cons_succ, List.filterMap_cons, List.filterMap_nil, List.all_cons, List.all_nil, Bool.and_true, Bool.true_and, Bool.not_true, Bool.not_false, Bool.not_eq_true, Bool.false_eq_true, Bool.and_self, if_true, if_false, true_and, and_true, ↓reduceIte, eqD, neD, sh_int, eqv_int, eqv_strs, sDraw, List.length_cons, List.length_nil, Nat.zero_add, Nat.reduceAdd, decide_true, eq_self]
  refine ⟨ds, b, rfl, hd, hb, ?_⟩
  have t2' : Tn 1 89 (.tuple [.int (pos ds a), .int (pos ds b)]) := tn_tup2 (k := 0) (B := 41) (tn_pos (by omega) (by omega)) (tn_pos (by omega) (by omega))
  refine ⟨by decide, t2'.rep (by decide) (by decide), ?_⟩
  try simp only [Q.addF, Q.mulF, Q.bandI, Q.iZip, Q.itZ, Q.slD, Q.enOf, Q.tV, Q.tK, Q.t2, Q.t1, Q.tB, Q.cI, Q.cIp, Q.addI, Q.subI, Q.mulI, Q.fdivI, Q.modI, Q.powI, Q.ltI, Q.leI, Q.gtI, Q.geI, Q.negI, Q.vAnd, Q.vOr, Q.vNot, Q.qAnd, Q.qOr, Q.qNot, Q.qIf, Q.chI, Q.tTupQ, Q.dNil, Q.dCons, Q.tLstQ, Q.tFz, Q.tCA, Q.lenD, Q.tupD, Q.isD, Q.isInt, Q.isBool, Q.isTup, Q.isStr, Q.isLst, Q.tLenN, Q.tIxN, Q.setQ, Q.aNil, Q.aD, Q.aK, Q.tCallQ, Q.tCallKQ, Q.pick, Q.sNil, Q.sSeq, Q.sRet, Q.sRetN, Q.sExpr, Q.sIf, Q.sSet, Q.sSetL, Q.sAsg, Q.sFor, Q.sPar2, Q.sPar3, Q.pNil, Q.pD, Q.pO, Q.pDn, Q.gN, Q.gT, Q.gsNil, Q.gsCons, Q.iQ, Q.itD, Q.iEn, Q.itE, Q.rg1, Q.rg2, Q.oNone, Q.oSome, Q.tSlQ, Q.revD, Q.tOwnM, Q.appC, Q.popC, Q.extC, Q.ownL, Q.tRepL, Q.repC, Q.sSetIx, Q.ixOwn, Q.tLcQ, Q.noOwn, Q.rstQ, Q.wipeQ, Q.sDn, Q.sSetD, Q.tDgetN, Q.dOwn, Q.tTupRg, Q.sNever, Q.isB, Q.listD, Q.listC, Q.reprD, Q.Sl.isOwn, List.map_cons, List.map_nil, List.replicate_succ, List.replicate_zero, List.cons_append, List.nil_append, List.append_nil, List.getElem?_cons_zero, List.getElem?_cons_succ, List.set_cons_zero, List.set_cons_succ, List.getD_cons_zero, List.getD_cons_succ, List.filterMap_cons, List.filterMap_nil, List.all_cons, List.all_nil, Bool.and_true, Bool.true_and, Bool.not_true, Bool.not_false, Bool.not_eq_true, Bool.false_eq_true, Bool.and_self, if_true, if_false, true_and, and_true, ↓reduceIte, eqD, neD, sh_int, eqv_int, eqv_strs, sDraw, List.length_cons, List.length_nil, Nat.zero_add, Nat.reduceAdd, decide_true, eq_self]
  refine ⟨ds, a, rfl, hd.ok, ha, hd.few, ?_⟩
  try simp only [Q.addF, Q.mulF, Q.bandI, Q.iZip, Q.itZ, Q.slD, Q.enOf, Q.tV, Q.tK, Q.t2, Q.t1, Q.tB, Q.cI, Q.cIp, Q.addI, Q.subI, Q.mulI, Q.fdivI, Q.modI, Q.powI, Q.ltI, Q.leI, Q.gtI, Q.geI, Q.negI, Q.vAnd, Q.vOr, Q.vNot, Q.qAnd, Q.qOr, Q.qNot, Q.qIf, Q.chI, Q.tTupQ, Q.dNil, Q.dCons, Q.tLstQ, Q.tFz, Q.tCA, Q.lenD, Q.tupD, Q.isD, Q.isInt, Q.isBool, Q.isTup, Q.isStr, Q.isLst, Q.tLenN, Q.tIxN, Q.setQ, Q.aNil, Q.aD, Q.aK, Q.tCallQ, Q.tCallKQ, Q.pick, Q.sNil, Q.sSeq, Q.sRet, Q.sRetN, Q.sExpr, Q.sIf, Q.sSet, Q.sSetL, Q.sAsg, Q.sFor, Q.sPar2, Q.sPar3, Q.pNil, Q.pD, Q.pO, Q.pDn, Q.gN, Q.gT, Q.gsNil, Q.gsCons, Q.iQ, Q.itD, Q.iEn, Q.itE, Q.rg1, Q.rg2, Q.oNone, Q.oSome, Q.tSlQ, Q.revD, Q.tOwnM, Q.appC, Q.popC, Q.extC, Q.ownL, Q.tRepL, Q.repC, Q.sSetIx, Q.ixOwn, Q.tLcQ, Q.noOwn, Q.rstQ, Q.wipeQ, Q.sDn, Q.sSetD, Q.tDgetN, Q.dOwn, Q.tTupRg, Q.sNever, Q.isB, Q.listD, Q.listC, Q.reprD, Q.Sl.isOwn, List.map_cons, List.map_nil, List.replicate_succ, List.replicate_zero, List.cons_append, List.nil_append, List.append_nil, List.getElem?_cons_zero, List.getElem?_cons_succ, List.set_cons_zero, List.set_cons_succ, List.getD_cons_zero, List.getD_cons_succ, List.filterMap_cons, List.filterMap_nil, List.all_cons, List.all_nil, Bool.and_true, Bool.true_and, Bool.not_true, Bool.not_false, Bool.not_eq_true, Bool.false_eq_true, Bool.and_self, if_true, if_false, true_and, and_true, ↓reduceIte, eqD, neD, sh_int, eqv_int, eqv_strs, sDraw, List.length_cons, List.length_nil, Nat.zero_add, Nat.reduceAdd, decide_true, eq_self]
  refine ⟨ds, b, rfl, hd.ok, hb, hd.few, ?_⟩
  refine ⟨by decide, t2'.rep (by decide) (by decide), t2'.text, t2'.text, ?_⟩
  simp only [Q.addF, Q.mulF, Q.bandI, Q.iZip, Q.itZ, Q.slD, Q.enOf, Q.tV, Q.tK, Q.t2, Q.t1, Q.tB, Q.cI, Q.cIp, Q.addI, Q.subI, Q.mulI, Q.fdivI, Q.modI, Q.powI, Q.ltI, Q.leI, Q.gtI, Q.geI, Q.negI, Q.vAnd, Q.vOr, Q.vNot, Q.qAnd, Q.qOr, Q.qNot, Q.qIf, Q.chI, Q.tTupQ, Q.dNil, Q.dCons, Q.tLstQ, Q.tFz, Q.tCA, Q.lenD, Q.tupD, Q.isD, Q.isInt, Q.isBool, Q.isTup, Q.isStr, Q.isLst, Q.tLenN, Q.tIxN, Q.setQ, Q.aNil, Q.aD, Q.aK, Q.tCallQ, Q.tCallKQ, Q.pick, Q.sNil, Q.sSeq, Q.sRet, Q.sRetN, Q.sExpr, Q.sIf, Q.sSet, Q.sSetL, Q.sAsg, Q.sFor, Q.sPar2, Q.sPar3, Q.pNil, Q.pD, Q.pO, Q.pDn, Q.gN, Q.gT, Q.gsNil, Q.gsCons, Q.iQ, Q.itD, Q.iEn, Q.itE, Q.rg1, Q.rg2, Q.oNone, Q.oSome, Q.tSlQ, Q.revD, Q.tOwnM, Q.appC, Q.popC, Q.extC, Q.ownL, Q.tRepL, Q.repC, Q.sSetIx, Q.ixOwn, Q.tLcQ, Q.noOwn, Q.rstQ, Q.wipeQ, Q.sDn, Q.sSetD, Q.tDgetN, Q.dOwn, Q.tTupRg, Q.sNever, Q.isB, Q.listD, Q.listC, Q.reprD, Q.Sl.isOwn, List.map_cons, List.map_nil, List.replicate_succ, List.replicate_zero, List.cons_append, List.nil_append, List.append_nil, List.getElem?_cons_zero, List.getElem?_cons_succ, List.set_cons_zero, List.set_cons_succ, List.getD_cons_zero, List.getD_cons_succ, List.filterMap_cons, List.filterMap_nil, List.all_cons, List.all_nil, Bool.and_true, Bool.true_and, Bool.not_true, Bool.not_false, Bool.not_eq_true, Bool.false_eq_true, Bool.and_self, if_true, if_false, true_and, and_true, ↓reduceIte, eqD, neD, sh_int, eqv_int, eqv_strs, sDraw, List.length_cons, List.length_nil, Nat.zero_add, Nat.reduceAdd, decide_true, eq_self, ixD]
  refine ⟨_, atI_nat (j := 0) rfl, _, atI_nat (j := 1) rfl, ?_⟩
  simp only [Q.addF, Q.mulF, Q.bandI, Q.iZip, Q.itZ, Q.slD, Q.enOf, Q.tV, Q.tK, Q.t2, Q.t1, Q.tB, Q.cI, Q.cIp, Q.addI, Q.subI, Q.mulI, Q.fdivI, Q.modI, Q.powI, Q.ltI, Q.leI, Q.gtI, Q.geI, Q.negI, Q.vAnd, Q.vOr, Q.vNot, Q.qAnd, Q.qOr, Q.qNot, Q.qIf, Q.chI, Q.tTupQ, Q.dNil, Q.dCons, Q.tLstQ, Q.tFz, Q.tCA, Q.lenD, Q.tupD, Q.isD, Q.isInt, Q.isBool, Q.isTup, Q.isStr, Q.isLst, Q.tLenN, Q.tIxN, Q.setQ, Q.aNil, Q.aD, Q.aK, Q.tCallQ, Q.tCallKQ, Q.pick, Q.sNil, Q.sSeq, Q.sRet, Q.sRetN, Q.sExpr, Q.sIf, Q.sSet, Q.sSetL, Q.sAsg, Q.sFor, Q.sPar2, Q.sPar3, Q.pNil, Q.pD, Q.pO, Q.pDn, Q.gN, Q.gT, Q.gsNil, Q.gsCons, Q.iQ, Q.itD, Q.iEn, Q.itE, Q.rg1, Q.rg2, Q.oNone, Q.oSome, Q.tSlQ, Q.revD, Q.tOwnM, Q.appC, Q.popC, Q.extC, Q.ownL, Q.tRepL, Q.repC, Q.sSetIx, Q.ixOwn, Q.tLcQ, Q.noOwn, Q.rstQ, Q.wipeQ, Q.sDn, Q.sSetD, Q.tDgetN, Q.dOwn, Q.tTupRg, Q.sNever, Q.isB, Q.listD, Q.listC, Q.reprD, Q.Sl.isOwn, List.map_cons, List.map_nil, List.replicate_succ, List.replicate_zero, List.cons_append, List.nil_append, List.append_nil, List.getElem?_cons_zero, List.getElem?_cons_succ, List.set_cons_zero, List.set_cons_succ, List.getD_cons_zero, List.getD_cons_succ, List.filterMap_cons, List.filterMap_nil, List.all_cons, List.all_nil, Bool.and_true, Bool.true_and, Bool.not_true, Bool.not_false, Bool.not_eq_true, Bool.false_eq_true, Bool.and_self, if_true, if_false, true_and, and_true, ↓reduceIte, eqD, neD, sh_int, eqv_int, eqv_strs, sDraw, List.length_cons, List.length_nil, Nat.zero_add, Nat.reduceAdd, decide_true, eq_self, ixD]
  refine ⟨_, atI_nat (j := 1) rfl, _, atI_nat (j := 0) rfl, ?_⟩
  simp only [Q.addF, Q.mulF, Q.bandI, Q.iZip, Q.itZ, Q.slD, Q.enOf, Q.tV, Q.tK, Q.t2, Q.t1, Q.tB, Q.cI, Q.cIp, Q.addI, Q.subI, Q.mulI, Q.fdivI, Q.modI, Q.powI, Q.ltI, Q.leI, Q.gtI, Q.geI, Q.negI, Q.vAnd, Q.vOr, Q.vNot, Q.qAnd, Q.qOr, Q.qNot, Q.qIf, Q.chI, Q.tTupQ, Q.dNil, Q.dCons, Q.tLstQ, Q.tFz, Q.tCA, Q.lenD, Q.tupD, Q.isD, Q.isInt, Q.isBool, Q.isTup, Q.isStr, Q.isLst, Q.tLenN, Q.tIxN, Q.setQ, Q.aNil, Q.aD, Q.aK, Q.tCallQ, Q.tCallKQ, Q.pick, Q.sNil, Q.sSeq, Q.sRet, Q.sRetN, Q.sExpr, Q.sIf, Q.sSet, Q.sSetL, Q.sAsg, Q.sFor, Q.sPar2, Q.sPar3, Q.pNil, Q.pD, Q.pO, Q.pDn, Q.gN, Q.gT, Q.gsNil, Q.gsCons, Q.iQ, Q.itD, Q.iEn, Q.itE, Q.rg1, Q.rg2, Q.oNone, Q.oSome, Q.tSlQ, Q.revD, Q.tOwnM, Q.appC, Q.popC, Q.extC, Q.ownL, Q.tRepL, Q.repC, Q.sSetIx, Q.ixOwn, Q.tLcQ, Q.noOwn, Q.rstQ, Q.wipeQ, Q.sDn, Q.sSetD, Q.tDgetN, Q.dOwn, Q.tTupRg, Q.sNever, Q.isB, Q.listD, Q.listC, Q.reprD, Q.Sl.isOwn, List.map_cons, List.map_nil, List.replicate_succ, List.replicate_zero, List.cons_append, List.nil_append, List.append_nil, List.getElem?_cons_zero, List.getElem?_cons_succ, List.set_cons_zero, List.set_cons_succ, List.getD_cons_zero, List.getD_cons_succ, List.filterMap_cons, List.filterMap_nil, List.all_cons, List.all_nil, Bool.and_true, Bool.true_and, Bool.not_true, Bool.not_false, Bool.not_eq_true, Bool.false_eq_true, Bool.and_self, if_true, if_false, true_and, and_true, ↓reduceIte, eqD, neD, sh_int, eqv_int, eqv_strs, sDraw, List.length_cons, List.length_nil, Nat.zero_add, Nat.reduceAdd, decide_true, eq_self]
  refine ⟨by decide, t1.shaped (by decide), t1.shaped (by decide), ?_⟩
  rw [eqv_bb]
  simp only [Q.addF, Q.mulF, Q.bandI, Q.iZip, Q.itZ, Q.slD, Q.enOf, Q.tV, Q.tK, Q.t2, Q.t1, Q.tB, Q.cI, Q.cIp, Q.addI, Q.subI, Q.mulI, Q.fdivI, Q.modI, Q.powI, Q.ltI, Q.leI, Q.gtI, Q.geI, Q.negI, Q.vAnd, Q.vOr, Q.vNot, Q.qAnd, Q.qOr, Q.qNot, Q.qIf, Q.chI, Q.tTupQ, Q.dNil, Q.dCons, Q.tLstQ, Q.tFz, Q.tCA, Q.lenD, Q.tupD, Q.isD, Q.isInt, Q.isBool, Q.isTup, Q.isStr, Q.isLst, Q.tLenN, Q.tIxN, Q.setQ, Q.aNil, Q.aD, Q.aK, Q.tCallQ, Q.tCallKQ, Q.pick, Q.sNil, Q.sSeq, Q.sRet, Q.sRetN, Q.sExpr, Q.sIf, Q.sSet, Q.sSetL, Q.sAsg, Q.sFor, Q.sPar2, Q.sPar3, Q.pNil, Q.pD, Q.pO, Q.pDn, Q.gN, Q.gT, Q.gsNil, Q.gsCons, Q.iQ, Q.itD, Q.iEn, Q.itE, Q.rg1, Q.rg2, Q.oNone, Q.oSome, Q.tSlQ, Q.revD, Q.tOwnM, Q.appC, Q.popC, Q.extC, Q.ownL, Q.tRepL, Q.repC, Q.sSetIx, Q.ixOwn, Q.tLcQ, Q.noOwn, Q.rstQ, Q.wipeQ, Q.sDn, Q.sSetD, Q.tDgetN, Q.dOwn, Q.tTupRg, Q.sNever, Q.isB, Q.listD, Q.listC, Q.reprD, Q.Sl.isOwn, List.map_cons, List.map_nil, List.replicate_succ, List.replicate_zero, List.cons_append, List.nil_append, List.append_nil, List.getElem?_cons_zero, List.getElem?_cons_succ, List.set_cons_zero, List.set_cons_succ, List.getD_cons_zero, List.getD_cons_succ, List.filterMap_cons, List.filterMap_nil, List.all_cons, List.all_nil, Bool.and_true, Bool.true_and, Bool.not_true, Bool.not_false, Bool.not_eq_true, Bool.false_eq_true, Bool.and_self, if_true, if_false, true_and, and_true, ↓reduceIte, eqD, neD, sh_int, eqv_int, eqv_strs, sDraw, List.length_cons, List.length_nil, Nat.zero_add, Nat.reduceAdd, decide_true, eq_self]
  refine ⟨ds, a, rfl, hd, ha, ?_⟩
  try simp only [Q.addF, Q.mulF, Q.bandI, Q.iZip, Q.itZ, Q.slD, Q.enOf, Q.tV, Q.tK, Q.t2, Q.t1, Q.tB, Q.cI, Q.cIp, Q.addI, Q.subI, Q.mulI, Q.fdivI, Q.modI, Q.powI, Q.ltI, Q.leI, Q.gtI, Q.geI, Q.negI, Q.vAnd, Q.vOr, Q.vNot, Q.qAnd, Q.qOr, Q.qNot, Q.qIf, Q.chI, Q.tTupQ, Q.dNil, Q.dCons, Q.tLstQ, Q.tFz, Q.tCA, Q.lenD, Q.tupD, Q.isD, Q.isInt, Q.isBool, Q.isTup, Q.isStr, Q.isLst, Q.tLenN, Q.tIxN, Q.setQ, Q.aNil, Q.aD, Q.aK, Q.tCallQ, Q.tCallKQ, Q.pick, Q.sNil, Q.sSeq, Q.sRet, Q.sRetN, Q.sExpr, Q.sIf, Q.sSet, Q.sSetL, Q.sAsg, Q.sFor, Q.sPar2, Q.sPar3, Q.pNil, Q.pD, Q.pO, Q.pDn, Q.gN, Q.gT, Q.gsNil, Q.gsCons, Q.iQ, Q.itD, Q.iEn, Q.itE, Q.rg1, Q.rg2, Q.oNone, Q.oSome, Q.tSlQ, Q.revD, Q.tOwnM, Q.appC, Q.popC, Q.extC, Q.ownL, Q.tRepL, Q.repC, Q.sSetIx, Q.ixOwn, Q.tLcQ, Q.noOwn, Q.rstQ, Q.wipeQ, Q.sDn, Q.sSetD, Q.tDgetN, Q.dOwn, Q.tTupRg, Q.sNever, Q.isB, Q.listD, Q.listC, Q.reprD, Q.Sl.isOwn, List.map_cons, List.map_nil, List.replicate_succ, List.replicate_zero, List.cons_append, List.nil_append, List.append_nil, List.getElem?_cons_zero, List.getElem?_cons_succ, List.set_cons_zero, List.set_cons_succ, List.getD_cons_zero, List.getD_cons_succ, List.filterMap_cons, List.filterMap_nil, List.all_cons, List.all_nil, Bool.and_true, Bool.true_and, Bool.not_true, Bool.not_false, Bool.not_eq_true, Bool.false_eq_true, Bool.and_self, if_true, if_false, true_and, and_true, ↓reduceIte, eqD, neD, sh_int, eqv_int, eqv_strs, sDraw, List.length_cons, List.length_nil, Nat.zero_add, Nat.reduceAdd, decide_true, eq_self]
  refine ⟨ds, b, rfl, hd, hb, ?_⟩
  have sg : ∀ c : List Int, Tn 0 4 (.int (sgn ds c)) := fun c => by
    unfold sgn
    split <;> exact tn_int (by decide) (by decide)
  have t3 : Tn 1 15 (.tuple [.int (sgn ds a), .int (sgn ds b)]) := tn_tup2 (k := 0) (B := 4) (sg a) (sg b)
  refine ⟨by decide, t3.rep (by decide) (by decide), ?_⟩
  try simp only [Q.addF, Q.mulF, Q.bandI, Q.iZip, Q.itZ, Q.slD, Q.enOf, Q.tV, Q.tK, Q.t2, Q.t1, Q.tB, Q.cI, Q.cIp, Q.addI, Q.subI, Q.mulI, Q.fdivI, Q.modI, Q.powI, Q.ltI, Q.leI, Q.gtI, Q.geI, Q.negI, Q.vAnd, Q.vOr, Q.vNot, Q.qAnd, Q.qOr, Q.qNot, Q.qIf, Q.chI, Q.tTupQ, Q.dNil, Q.dCons, Q.tLstQ, Q.tFz, Q.tCA, Q.lenD, Q.tupD, Q.isD, Q.isInt, Q.isBool, Q.isTup, Q.isStr, Q.isLst, Q.tLenN, Q.tIxN, Q.setQ, Q.aNil, Q.aD, Q.aK, Q.tCallQ, Q.tCallKQ, Q.pick, Q.sNil, Q.sSeq, Q.sRet, Q.sRetN, Q.sExpr, Q.sIf, Q.sSet, Q.sSetL, Q.sAsg, Q.sFor, Q.sPar2, Q.sPar3, Q.pNil, Q.pD, Q.pO, Q.pDn, Q.gN, Q.gT, Q.gsNil, Q.gsCons, Q.iQ, Q.itD, Q.iEn, Q.itE, Q.rg1, Q.rg2, Q.oNone, Q.oSome, Q.tSlQ, Q.revD, Q.tOwnM, Q.appC, Q.popC, Q.extC, Q.ownL, Q.tRepL, Q.repC, Q.sSetIx, Q.ixOwn, Q.tLcQ, Q.noOwn, Q.rstQ, Q.wipeQ, Q.sDn, Q.sSetD, Q.tDgetN, Q.dOwn, Q.tTupRg, Q.sNever, Q.isB, Q.listD, Q.listC, Q.reprD, Q.Sl.isOwn, List.map_cons, List.map_nil, List.replicate_succ, List.replicate_zero, List.cons_append, List.nil_append, List.append_nil, List.getElem?_cons_zero, List.getElem?_cons_succ, List.set_cons_zero, List.set_cons_succ, List.getD_cons_zero, List.getD_cons_succ, List.filterMap_cons, List.filterMap_nil, List.all_cons, List.all_nil, Bool.and_true, Bool.true_and, Bool.not_true, Bool.not_false, Bool.not_eq_true, Bool.false_eq_true, Bool.and_self, if_true, if_false, true_and, and_true, ↓reduceIte, eqD, neD, sh_int, eqv_int, eqv_strs, sDraw, List.length_cons, List.length_nil, Nat.zero_add, Nat.reduceAdd, decide_true, eq_self]
  refine ⟨ds, a, rfl, ha, hd.few, ?_⟩
  try simp only [Q.addF, Q.mulF, Q.bandI, Q.iZip, Q.itZ, Q.slD, Q.enOf, Q.tV, Q.tK, Q.t2, Q.t1, Q.tB, Q.cI, Q.cIp, Q.addI, Q.subI, Q.mulI, Q.fdivI, Q.modI, Q.powI, Q.ltI, Q.leI, Q.gtI, Q.geI, Q.negI, Q.vAnd, Q.vOr, Q.vNot, Q.qAnd, Q.qOr, Q.qNot, Q.qIf, Q.chI, Q.tTupQ, Q.dNil, Q.dCons, Q.tLstQ, Q.tFz, Q.tCA, Q.lenD, Q.tupD, Q.isD, Q.isInt, Q.isBool, Q.isTup, Q.isStr, Q.isLst, Q.tLenN, Q.tIxN, Q.setQ, Q.aNil, Q.aD, Q.aK, Q.tCallQ, Q.tCallKQ, Q.pick, Q.sNil, Q.sSeq, Q.sRet, Q.sRetN, Q.sExpr, Q.sIf, Q.sSet, Q.sSetL, Q.sAsg, Q.sFor, Q.sPar2, Q.sPar3, Q.pNil, Q.pD, Q.pO, Q.pDn, Q.gN, Q.gT, Q.gsNil, Q.gsCons, Q.iQ, Q.itD, Q.iEn, Q.itE, Q.rg1, Q.rg2, Q.oNone, Q.oSome, Q.tSlQ, Q.revD, Q.tOwnM, Q.appC, Q.popC, Q.extC, Q.ownL, Q.tRepL, Q.repC, Q.sSetIx, Q.ixOwn, Q.tLcQ, Q.noOwn, Q.rstQ, Q.wipeQ, Q.sDn, Q.sSetD, Q.tDgetN, Q.dOwn, Q.tTupRg, Q.sNever, Q.isB, Q.listD, Q.listC, Q.reprD, Q.Sl.isOwn, List.map_cons, List.map_nil, List.replicate_succ, List.replicate_zero, List.cons_append, List.nil_append, List.append_nil, List.getElem?_cons_zero, List.getElem?_cons_succ, List.set_cons_zero, List.set_cons_succ, List.getD_cons_zero, List.getD_cons_succ, List.filterMap_cons, List.filterMap_nil, List.all_cons, List.all_nil, Bool.and_true, Bool.true_and, Bool.not_true, Bool.not_false, Bool.not_eq_true, Bool.false_eq_true, Bool.and_self, if_true, if_false, true_and, and_true, ↓reduceIte, eqD, neD, sh_int, eqv_int, eqv_strs, sDraw, List.length_cons, List.length_nil, Nat.zero_add, Nat.reduceAdd, decide_true, eq_self]
  refine ⟨ds, b, rfl, hb, hd.few, ?_⟩
  refine ⟨by decide, t3.rep (by decide) (by decide), t3.text, t3.text, ?_⟩
  try simp only [Q.addF, Q.mulF, Q.bandI, Q.iZip, Q.itZ, Q.slD, Q.enOf, Q.tV, Q.tK, Q.t2, Q.t1, Q.tB, Q.cI, Q.cIp, Q.addI, Q.subI, Q.mulI, Q.fdivI, Q.modI, Q.powI, Q.ltI, Q.leI, Q.gtI, Q.geI, Q.negI, Q.vAnd, Q.vOr, Q.vNot, Q.qAnd, Q.qOr, Q.qNot, Q.qIf, Q.chI, Q.tTupQ, Q.dNil, Q.dCons, Q.tLstQ, Q.tFz, Q.tCA, Q.lenD, Q.tupD, Q.isD, Q.isInt, Q.isBool, Q.isTup, Q.isStr, Q.isLst, Q.tLenN, Q.tIxN, Q.setQ, Q.aNil, Q.aD, Q.aK, Q.tCallQ, Q.tCallKQ, Q.pick, Q.sNil, Q.sSeq, Q.sRet, Q.sRetN, Q.sExpr, Q.sIf, Q.sSet, Q.sSetL, Q.sAsg, Q.sFor, Q.sPar2, Q.sPar3, Q.pNil, Q.pD, Q.pO, Q.pDn, Q.gN, Q.gT, Q.gsNil, Q.gsCons, Q.iQ, Q.itD, Q.iEn, Q.itE, Q.rg1, Q.rg2, Q.oNone, Q.oSome, Q.tSlQ, Q.revD, Q.tOwnM, Q.appC, Q.popC, Q.extC, Q.ownL, Q.tRepL, Q.repC, Q.sSetIx, Q.ixOwn, Q.tLcQ, Q.noOwn, Q.rstQ, Q.wipeQ, Q.sDn, Q.sSetD, Q.tDgetN, Q.dOwn, Q.tTupRg, Q.sNever, Q.isB, Q.listD, Q.listC, Q.reprD, Q.Sl.isOwn, List.map_cons, List.map_nil, List.replicate_succ, List.replicate_zero, List.cons_append, List.nil_append, List.append_nil, List.getElem?_cons_zero, List.getElem?_cons_succ, List.set_cons_zero, List.set_cons_succ, List.getD_cons_zero, List.getD_cons_succ, List.filterMap_cons, List.filterMap_nil, List.all_cons, List.all_nil, Bool.and_true, Bool.true_and, Bool.not_true, Bool.not_false, Bool.not_eq_true, Bool.false_eq_true, Bool.and_self, if_true, if_false, true_and, and_true, ↓reduceIte, eqD, neD, sh_int, eqv_int, eqv_strs, sDraw, List.length_cons, List.length_nil, Nat.zero_add, Nat.reduceAdd, decide_true, eq_self]
  exact h
end T43
end P23
section P24
open PySem PySem.Spec PyProof.Rows L2 HT Q
namespace T43
def bl0 : TQS := (sSeq (sSet 3 (tCallQ sp__law_desks (aK 1 (aD (tK (.int 12)) (aD (t2 powI (tK (.int 10)) (tK (.int 10))) aNil)))))
  (sSeq (sSet 4 (tCallQ sp_codes_number (aD (tV 3) aNil)))
  (sSeq (sPar2 5 6 (pD (tCallQ sp_code_at (aD (tV 3) (aD (tK (.int 0)) aNil))) (pD (tCallKQ sp_code_at [1, 0] aNil (aD (t2 subI (tV 4) (tK (.int 1))) (aD (tV 3) aNil))) pNil)))
  (sSeq (sIf (qOr (tB (t2 neD (tCallQ sp_position_of (aD (tV 3) (aD (tV 5) aNil))) (tK (.int 0)))) (tB (t2 neD (tCallQ sp_position_of (aD (tV 3) (aD (tV 6) aNil))) (t2 subI (tV 4) (tK (.int 1)))))) (sRet (tK (.bool false))) sNil)
  (sFor (rg1 (tK (.int 4))) (gN 7) (sSeq (sSet 8 (tCallQ sp__law_code (aK 1 (aD (tV 3) aNil))))
  (sSeq (sSet 9 (qIf (tB (t2 eqD (tCallQ sDraw (aK 1 (aD (tK (.int 2)) aNil))) (tK (.int 0)))) (tCallQ sp__law_near (aK 1 (aD (tV 3) (aD (tV 8) aNil)))) (tCallQ sp__law_code (aK 1 (aD (tV 3) aNil)))))
  (sSeq (sIf (qOr (qNot (tB (tCallQ sp__law_are_right (aD (tV 3) (aD (tV 8) (aD (tV 9) aNil)))))) (qNot (tB (tCallQ sp__law_are_right (aD (tV 3) (aD (tV 5) (aD (tV 8) aNil))))))) (sRet (tK (.bool false))) sNil)
  (sSeq (sIf (qOr (tB (t2 (isB true) (tCallQ sp_is_ahead (aD (tV 3) (aD (tV 8) (aD (tV 5) aNil)))) (tK (.bool false)))) (tB (t2 (isB true) (tCallQ sp_is_ahead (aD (tV 3) (aD (tV 6) (aD (tV 9) aNil)))) (tK (.bool false))))) (sRet (tK (.bool false))) sNil)
  (sSeq (sSet 10 (tCallQ sp_position_of (aD (tV 3) (aD (tV 8) aNil))))
  (sSeq (sIf (qOr (tB (t2 neD (tCA reprD (dCons (tCallQ sp_code_at (aD (tV 3) (aD (tV 10) aNil))) dNil)) (tCA reprD (dCons (tV 8) dNil)))) (tB (t2 (isB true) (tCallQ sp_is_ahead (aD (tV 3) (aD (tV 8) (aD (tV 8) aNil)))) (tK (.bool false))))) (sRet (tK (.bool false))) sNil)
  (sIf (tB (t2 ltI (t2 addF (tV 10) (tK (.int 1))) (tV 4))) (sSeq (sSet 11 (tCallQ sp_code_at (aD (tV 3) (aD (t2 addF (tV 10) (tK (.int 1))) aNil))))
  (sSeq (sIf (qOr (qNot (tB (tCallQ sp__law_is_code (aD (tV 3) (aD (tV 11) aNil))))) (qNot (tB (tCallQ sp__law_are_right (aD (tV 3) (aD (tV 8) (aD (tV 11) aNil))))))) (sRet (tK (.bool false))) sNil)
  (sIf (tB (t2 (isB true) (tCallQ sp_is_ahead (aD (tV 3) (aD (tV 8) (aD (tV 11) aNil)))) (tK (.bool true)))) (sRet (tK (.bool false))) sNil))) sNil))))))))))))
def bl1 : TQS := (sSeq (sSet 4 (tCallQ sp_codes_number (aD (tV 3) aNil)))
  (sSeq (sPar2 5 6 (pD (tCallQ sp_code_at (aD (tV 3) (aD (tK (.int 0)) aNil))) (pD (tCallKQ sp_code_at [1, 0] aNil (aD (t2 subI (tV 4) (tK (.int 1))) (aD (tV 3) aNil))) pNil)))
  (sSeq (sIf (qOr (tB (t2 neD (tCallQ sp_position_of (aD (tV 3) (aD (tV 5) aNil))) (tK (.int 0)))) (tB (t2 neD (tCallQ sp_position_of (aD (tV 3) (aD (tV 6) aNil))) (t2 subI (tV 4) (tK (.int 1)))))) (sRet (tK (.bool false))) sNil)
  (sFor (rg1 (tK (.int 4))) (gN 7) (sSeq (sSet 8 (tCallQ sp__law_code (aK 1 (aD (tV 3) aNil))))
  (sSeq (sSet 9 (qIf (tB (t2 eqD (tCallQ sDraw (aK 1 (aD (tK (.int 2)) aNil))) (tK (.int 0)))) (tCallQ sp__law_near (aK 1 (aD (tV 3) (aD (tV 8) aNil)))) (tCallQ sp__law_code (aK 1 (aD (tV 3) aNil)))))
  (sSeq (sIf (qOr (qNot (tB (tCallQ sp__law_are_right (aD (tV 3) (aD (tV 8) (aD (tV 9) aNil)))))) (qNot (tB (tCallQ sp__law_are_right (aD (tV 3) (aD (tV 5) (aD (tV 8) aNil))))))) (sRet (tK (.bool false))) sNil)
  (sSeq (sIf (qOr (tB (t2 (isB true) (tCallQ sp_is_ahead (aD (tV 3) (aD (tV 8) (aD (tV 5) aNil)))) (tK (.bool false)))) (tB (t2 (isB true) (tCallQ sp_is_ahead (aD (tV 3) (aD (tV 6) (aD (tV 9) aNil)))) (tK (.bool false))))) (sRet (tK (.bool false))) sNil)
  (sSeq (sSet 10 (tCallQ sp_position_of (aD (tV 3) (aD (tV 8) aNil))))
  (sSeq (sIf (qOr (tB (t2 neD (tCA reprD (dCons (tCallQ sp_code_at (aD (tV 3) (aD (tV 10) aNil))) dNil)) (tCA reprD (dCons (tV 8) dNil)))) (tB (t2 (isB true) (tCallQ sp_is_ahead (aD (tV 3) (aD (tV 8) (aD (tV 8) aNil)))) (tK (.bool false))))) (sRet (tK (.bool false))) sNil)
  (sIf (tB (t2 ltI (t2 addF (tV 10) (tK (.int 1))) (tV 4))) (sSeq (sSet 11 (tCallQ sp_code_at (aD (tV 3) (aD (t2 addF (tV 10) (tK (.int 1))) aNil))))
  (sSeq (sIf (qOr (qNot (tB (tCallQ sp__law_is_code (aD (tV 3) (aD (tV 11) aNil))))) (qNot (tB (tCallQ sp__law_are_right (aD (tV 3) (aD (tV 8) (aD (tV 11) aNil))))))) (sRet (tK (.bool false))) sNil)
  (sIf (tB (t2 (isB true) (tCallQ sp_is_ahead (aD (tV 3) (aD (tV 8) (aD (tV 11) aNil)))) (tK (.bool true)))) (sRet (tK (.bool false))) sNil))) sNil)))))))))))
def bl2 : TQS := (sSeq (sPar2 5 6 (pD (tCallQ sp_code_at (aD (tV 3) (aD (tK (.int 0)) aNil))) (pD (tCallKQ sp_code_at [1, 0] aNil (aD (t2 subI (tV 4) (tK (.int 1))) (aD (tV 3) aNil))) pNil)))
  (sSeq (sIf (qOr (tB (t2 neD (tCallQ sp_position_of (aD (tV 3) (aD (tV 5) aNil))) (tK (.int 0)))) (tB (t2 neD (tCallQ sp_position_of (aD (tV 3) (aD (tV 6) aNil))) (t2 subI (tV 4) (tK (.int 1)))))) (sRet (tK (.bool false))) sNil)
  (sFor (rg1 (tK (.int 4))) (gN 7) (sSeq (sSet 8 (tCallQ sp__law_code (aK 1 (aD (tV 3) aNil))))
  (sSeq (sSet 9 (qIf (tB (t2 eqD (tCallQ sDraw (aK 1 (aD (tK (.int 2)) aNil))) (tK (.int 0)))) (tCallQ sp__law_near (aK 1 (aD (tV 3) (aD (tV 8) aNil)))) (tCallQ sp__law_code (aK 1 (aD (tV 3) aNil)))))
  (sSeq (sIf (qOr (qNot (tB (tCallQ sp__law_are_right (aD (tV 3) (aD (tV 8) (aD (tV 9) aNil)))))) (qNot (tB (tCallQ sp__law_are_right (aD (tV 3) (aD (tV 5) (aD (tV 8) aNil))))))) (sRet (tK (.bool false))) sNil)
  (sSeq (sIf (qOr (tB (t2 (isB true) (tCallQ sp_is_ahead (aD (tV 3) (aD (tV 8) (aD (tV 5) aNil)))) (tK (.bool false)))) (tB (t2 (isB true) (tCallQ sp_is_ahead (aD (tV 3) (aD (tV 6) (aD (tV 9) aNil)))) (tK (.bool false))))) (sRet (tK (.bool false))) sNil)
  (sSeq (sSet 10 (tCallQ sp_position_of (aD (tV 3) (aD (tV 8) aNil))))
  (sSeq (sIf (qOr (tB (t2 neD (tCA reprD (dCons (tCallQ sp_code_at (aD (tV 3) (aD (tV 10) aNil))) dNil)) (tCA reprD (dCons (tV 8) dNil)))) (tB (t2 (isB true) (tCallQ sp_is_ahead (aD (tV 3) (aD (tV 8) (aD (tV 8) aNil)))) (tK (.bool false))))) (sRet (tK (.bool false))) sNil)
  (sIf (tB (t2 ltI (t2 addF (tV 10) (tK (.int 1))) (tV 4))) (sSeq (sSet 11 (tCallQ sp_code_at (aD (tV 3) (aD (t2 addF (tV 10) (tK (.int 1))) aNil))))
  (sSeq (sIf (qOr (qNot (tB (tCallQ sp__law_is_code (aD (tV 3) (aD (tV 11) aNil))))) (qNot (tB (tCallQ sp__law_are_right (aD (tV 3) (aD (tV 8) (aD (tV 11) aNil))))))) (sRet (tK (.bool false))) sNil)
  (sIf (tB (t2 (isB true) (tCallQ sp_is_ahead (aD (tV 3) (aD (tV 8) (aD (tV 11) aNil)))) (tK (.bool true)))) (sRet (tK (.bool false))) sNil))) sNil))))))))))
def bl3 : TQS := (sSeq (sIf (qOr (tB (t2 neD (tCallQ sp_position_of (aD (tV 3) (aD (tV 5) aNil))) (tK (.int 0)))) (tB (t2 neD (tCallQ sp_position_of (aD (tV 3) (aD (tV 6) aNil))) (t2 subI (tV 4) (tK (.int 1)))))) (sRet (tK (.bool false))) sNil)
  (sFor (rg1 (tK (.int 4))) (gN 7) (sSeq (sSet 8 (tCallQ sp__law_code (aK 1 (aD (tV 3) aNil))))
  (sSeq (sSet 9 (qIf (tB (t2 eqD (tCallQ sDraw (aK 1 (aD (tK (.int 2)) aNil))) (tK (.int 0)))) (tCallQ sp__law_near (aK 1 (aD (tV 3) (aD (tV 8) aNil)))) (tCallQ sp__law_code (aK 1 (aD (tV 3) aNil)))))
  (sSeq (sIf (qOr (qNot (tB (tCallQ sp__law_are_right (aD (tV 3) (aD (tV 8) (aD (tV 9) aNil)))))) (qNot (tB (tCallQ sp__law_are_right (aD (tV 3) (aD (tV 5) (aD (tV 8) aNil))))))) (sRet (tK (.bool false))) sNil)
  (sSeq (sIf (qOr (tB (t2 (isB true) (tCallQ sp_is_ahead (aD (tV 3) (aD (tV 8) (aD (tV 5) aNil)))) (tK (.bool false)))) (tB (t2 (isB true) (tCallQ sp_is_ahead (aD (tV 3) (aD (tV 6) (aD (tV 9) aNil)))) (tK (.bool false))))) (sRet (tK (.bool false))) sNil)
  (sSeq (sSet 10 (tCallQ sp_position_of (aD (tV 3) (aD (tV 8) aNil))))
  (sSeq (sIf (qOr (tB (t2 neD (tCA reprD (dCons (tCallQ sp_code_at (aD (tV 3) (aD (tV 10) aNil))) dNil)) (tCA reprD (dCons (tV 8) dNil)))) (tB (t2 (isB true) (tCallQ sp_is_ahead (aD (tV 3) (aD (tV 8) (aD (tV 8) aNil)))) (tK (.bool false))))) (sRet (tK (.bool false))) sNil)
  (sIf (tB (t2 ltI (t2 addF (tV 10) (tK (.int 1))) (tV 4))) (sSeq (sSet 11 (tCallQ sp_code_at (aD (tV 3) (aD (t2 addF (tV 10) (tK (.int 1))) aNil))))
  (sSeq (sIf (qOr (qNot (tB (tCallQ sp__law_is_code (aD (tV 3) (aD (tV 11) aNil))))) (qNot (tB (tCallQ sp__law_are_right (aD (tV 3) (aD (tV 8) (aD (tV 11) aNil))))))) (sRet (tK (.bool false))) sNil)
  (sIf (tB (t2 (isB true) (tCallQ sp_is_ahead (aD (tV 3) (aD (tV 8) (aD (tV 11) aNil)))) (tK (.bool true)))) (sRet (tK (.bool false))) sNil))) sNil)))))))))
def bl4 : TQS := (sFor (rg1 (tK (.int 4))) (gN 7) (sSeq (sSet 8 (tCallQ sp__law_code (aK 1 (aD (tV 3) aNil))))
  (sSeq (sSet 9 (qIf (tB (t2 eqD (tCallQ sDraw (aK 1 (aD (tK (.int 2)) aNil))) (tK (.int 0)))) (tCallQ sp__law_near (aK 1 (aD (tV 3) (aD (tV 8) aNil)))) (tCallQ sp__law_code (aK 1 (aD (tV 3) aNil)))))
  (sSeq (sIf (qOr (qNot (tB (tCallQ sp__law_are_right (aD (tV 3) (aD (tV 8) (aD (tV 9) aNil)))))) (qNot (tB (tCallQ sp__law_are_right (aD (tV 3) (aD (tV 5) (aD (tV 8) aNil))))))) (sRet (tK (.bool false))) sNil)
  (sSeq (sIf (qOr (tB (t2 (isB true) (tCallQ sp_is_ahead (aD (tV 3) (aD (tV 8) (aD (tV 5) aNil)))) (tK (.bool false)))) (tB (t2 (isB true) (tCallQ sp_is_ahead (aD (tV 3) (aD (tV 6) (aD (tV 9) aNil)))) (tK (.bool false))))) (sRet (tK (.bool false))) sNil)
  (sSeq (sSet 10 (tCallQ sp_position_of (aD (tV 3) (aD (tV 8) aNil))))
  (sSeq (sIf (qOr (tB (t2 neD (tCA reprD (dCons (tCallQ sp_code_at (aD (tV 3) (aD (tV 10) aNil))) dNil)) (tCA reprD (dCons (tV 8) dNil)))) (tB (t2 (isB true) (tCallQ sp_is_ahead (aD (tV 3) (aD (tV 8) (aD (tV 8) aNil)))) (tK (.bool false))))) (sRet (tK (.bool false))) sNil)
  (sIf (tB (t2 ltI (t2 addF (tV 10) (tK (.int 1))) (tV 4))) (sSeq (sSet 11 (tCallQ sp_code_at (aD (tV 3) (aD (t2 addF (tV 10) (tK (.int 1))) aNil))))
  (sSeq (sIf (qOr (qNot (tB (tCallQ sp__law_is_code (aD (tV 3) (aD (tV 11) aNil))))) (qNot (tB (tCallQ sp__law_are_right (aD (tV 3) (aD (tV 8) (aD (tV 11) aNil))))))) (sRet (tK (.bool false))) sNil)
  (sIf (tB (t2 (isB true) (tCallQ sp_is_ahead (aD (tV 3) (aD (tV 8) (aD (tV 11) aNil)))) (tK (.bool true)))) (sRet (tK (.bool false))) sNil))) sNil))))))))
def cl0 : TQS := (sSeq (sSet 8 (tCallQ sp__law_code (aK 1 (aD (tV 3) aNil))))
  (sSeq (sSet 9 (qIf (tB (t2 eqD (tCallQ sDraw (aK 1 (aD (tK (.int 2)) aNil))) (tK (.int 0)))) (tCallQ sp__law_near (aK 1 (aD (tV 3) (aD (tV 8) aNil)))) (tCallQ sp__law_code (aK 1 (aD (tV 3) aNil)))))
  (sSeq (sIf (qOr (qNot (tB (tCallQ sp__law_are_right (aD (tV 3) (aD (tV 8) (aD (tV 9) aNil)))))) (qNot (tB (tCallQ sp__law_are_right (aD (tV 3) (aD (tV 5) (aD (tV 8) aNil))))))) (sRet (tK (.bool false))) sNil)
  (sSeq (sIf (qOr (tB (t2 (isB true) (tCallQ sp_is_ahead (aD (tV 3) (aD (tV 8) (aD (tV 5) aNil)))) (tK (.bool false)))) (tB (t2 (isB true) (tCallQ sp_is_ahead (aD (tV 3) (aD (tV 6) (aD (tV 9) aNil)))) (tK (.bool false))))) (sRet (tK (.bool false))) sNil)
  (sSeq (sSet 10 (tCallQ sp_position_of (aD (tV 3) (aD (tV 8) aNil))))
  (sSeq (sIf (qOr (tB (t2 neD (tCA reprD (dCons (tCallQ sp_code_at (aD (tV 3) (aD (tV 10) aNil))) dNil)) (tCA reprD (dCons (tV 8) dNil)))) (tB (t2 (isB true) (tCallQ sp_is_ahead (aD (tV 3) (aD (tV 8) (aD (tV 8) aNil)))) (tK (.bool false))))) (sRet (tK (.bool false))) sNil)
  (sIf (tB (t2 ltI (t2 addF (tV 10) (tK (.int 1))) (tV 4))) (sSeq (sSet 11 (tCallQ sp_code_at (aD (tV 3) (aD (t2 addF (tV 10) (tK (.int 1))) aNil))))
  (sSeq (sIf (qOr (qNot (tB (tCallQ sp__law_is_code (aD (tV 3) (aD (tV 11) aNil))))) (qNot (tB (tCallQ sp__law_are_right (aD (tV 3) (aD (tV 8) (aD (tV 11) aNil))))))) (sRet (tK (.bool false))) sNil)
  (sIf (tB (t2 (isB true) (tCallQ sp_is_ahead (aD (tV 3) (aD (tV 8) (aD (tV 11) aNil)))) (tK (.bool true)))) (sRet (tK (.bool false))) sNil))) sNil)))))))
def cl1 : TQS := (sSeq (sSet 9 (qIf (tB (t2 eqD (tCallQ sDraw (aK 1 (aD (tK (.int 2)) aNil))) (tK (.int 0)))) (tCallQ sp__law_near (aK 1 (aD (tV 3) (aD (tV 8) aNil)))) (tCallQ sp__law_code (aK 1 (aD (tV 3) aNil)))))
  (sSeq (sIf (qOr (qNot (tB (tCallQ sp__law_are_right (aD (tV 3) (aD (tV 8) (aD (tV 9) aNil)))))) (qNot (tB (tCallQ sp__law_are_right (aD (tV 3) (aD (tV 5) (aD (tV 8) aNil))))))) (sRet (tK (.bool false))) sNil)
  (sSeq (sIf (qOr (tB (t2 (isB true) (tCallQ sp_is_ahead (aD (tV 3) (aD (tV 8) (aD (tV 5) aNil)))) (tK (.bool false)))) (tB (t2 (isB true) (tCallQ sp_is_ahead (aD (tV 3) (aD (tV 6) (aD (tV 9) aNil)))) (tK (.bool false))))) (sRet (tK (.bool false))) sNil)
  (sSeq (sSet 10 (tCallQ sp_position_of (aD (tV 3) (aD (tV 8) aNil))))
  (sSeq (sIf (qOr (tB (t2 neD (tCA reprD (dCons (tCallQ sp_code_at (aD (tV 3) (aD (tV 10) aNil))) dNil)) (tCA reprD (dCons (tV 8) dNil)))) (tB (t2 (isB true) (tCallQ sp_is_ahead (aD (tV 3) (aD (tV 8) (aD (tV 8) aNil)))) (tK (.bool false))))) (sRet (tK (.bool false))) sNil)
  (sIf (tB (t2 ltI (t2 addF (tV 10) (tK (.int 1))) (tV 4))) (sSeq (sSet 11 (tCallQ sp_code_at (aD (tV 3) (aD (t2 addF (tV 10) (tK (.int 1))) aNil))))
  (sSeq (sIf (qOr (qNot (tB (tCallQ sp__law_is_code (aD (tV 3) (aD (tV 11) aNil))))) (qNot (tB (tCallQ sp__law_are_right (aD (tV 3) (aD (tV 8) (aD (tV 11) aNil))))))) (sRet (tK (.bool false))) sNil)
  (sIf (tB (t2 (isB true) (tCallQ sp_is_ahead (aD (tV 3) (aD (tV 8) (aD (tV 11) aNil)))) (tK (.bool true)))) (sRet (tK (.bool false))) sNil))) sNil))))))
def cl2 : TQS := (sSeq (sIf (qOr (qNot (tB (tCallQ sp__law_are_right (aD (tV 3) (aD (tV 8) (aD (tV 9) aNil)))))) (qNot (tB (tCallQ sp__law_are_right (aD (tV 3) (aD (tV 5) (aD (tV 8) aNil))))))) (sRet (tK (.bool false))) sNil)
  (sSeq (sIf (qOr (tB (t2 (isB true) (tCallQ sp_is_ahead (aD (tV 3) (aD (tV 8) (aD (tV 5) aNil)))) (tK (.bool false)))) (tB (t2 (isB true) (tCallQ sp_is_ahead (aD (tV 3) (aD (tV 6) (aD (tV 9) aNil)))) (tK (.bool false))))) (sRet (tK (.bool false))) sNil)
  (sSeq (sSet 10 (tCallQ sp_position_of (aD (tV 3) (aD (tV 8) aNil))))
  (sSeq (sIf (qOr (tB (t2 neD (tCA reprD (dCons (tCallQ sp_code_at (aD (tV 3) (aD (tV 10) aNil))) dNil)) (tCA reprD (dCons (tV 8) dNil)))) (tB (t2 (isB true) (tCallQ sp_is_ahead (aD (tV 3) (aD (tV 8) (aD (tV 8) aNil)))) (tK (.bool false))))) (sRet (tK (.bool false))) sNil)
  (sIf (tB (t2 ltI (t2 addF (tV 10) (tK (.int 1))) (tV 4))) (sSeq (sSet 11 (tCallQ sp_code_at (aD (tV 3) (aD (t2 addF (tV 10) (tK (.int 1))) aNil))))
  (sSeq (sIf (qOr (qNot (tB (tCallQ sp__law_is_code (aD (tV 3) (aD (tV 11) aNil))))) (qNot (tB (tCallQ sp__law_are_right (aD (tV 3) (aD (tV 8) (aD (tV 11) aNil))))))) (sRet (tK (.bool false))) sNil)
  (sIf (tB (t2 (isB true) (tCallQ sp_is_ahead (aD (tV 3) (aD (tV 8) (aD (tV 11) aNil)))) (tK (.bool true)))) (sRet (tK (.bool false))) sNil))) sNil)))))
def cl3 : TQS := (sSeq (sIf (qOr (tB (t2 (isB true) (tCallQ sp_is_ahead (aD (tV 3) (aD (tV 8) (aD (tV 5) aNil)))) (tK (.bool false)))) (tB (t2 (isB true) (tCallQ sp_is_ahead (aD (tV 3) (aD (tV 6) (aD (tV 9) aNil)))) (tK (.bool false))))) (sRet (tK (.bool false))) sNil)
  (sSeq (sSet 10 (tCallQ sp_position_of (aD (tV 3) (aD (tV 8) aNil))))
  (sSeq (sIf (qOr (tB (t2 neD (tCA reprD (dCons (tCallQ sp_code_at (aD (tV 3) (aD (tV 10) aNil))) dNil)) (tCA reprD (dCons (tV 8) dNil)))) (tB (t2 (isB true) (tCallQ sp_is_ahead (aD (tV 3) (aD (tV 8) (aD (tV 8) aNil)))) (tK (.bool false))))) (sRet (tK (.bool false))) sNil)
  (sIf (tB (t2 ltI (t2 addF (tV 10) (tK (.int 1))) (tV 4))) (sSeq (sSet 11 (tCallQ sp_code_at (aD (tV 3) (aD (t2 addF (tV 10) (tK (.int 1))) aNil))))
  (sSeq (sIf (qOr (qNot (tB (tCallQ sp__law_is_code (aD (tV 3) (aD (tV 11) aNil))))) (qNot (tB (tCallQ sp__law_are_right (aD (tV 3) (aD (tV 8) (aD (tV 11) aNil))))))) (sRet (tK (.bool false))) sNil)
  (sIf (tB (t2 (isB true) (tCallQ sp_is_ahead (aD (tV 3) (aD (tV 8) (aD (tV 11) aNil)))) (tK (.bool true)))) (sRet (tK (.bool false))) sNil))) sNil))))
def cl4 : TQS := (sSeq (sSet 10 (tCallQ sp_position_of (aD (tV 3) (aD (tV 8) aNil))))
  (sSeq (sIf (qOr (tB (t2 neD (tCA reprD (dCons (tCallQ sp_code_at (aD (tV 3) (aD (tV 10) aNil))) dNil)) (tCA reprD (dCons (tV 8) dNil)))) (tB (t2 (isB true) (tCallQ sp_is_ahead (aD (tV 3) (aD (tV 8) (aD (tV 8) aNil)))) (tK (.bool false))))) (sRet (tK (.bool false))) sNil)
  (sIf (tB (t2 ltI (t2 addF (tV 10) (tK (.int 1))) (tV 4))) (sSeq (sSet 11 (tCallQ sp_code_at (aD (tV 3) (aD (t2 addF (tV 10) (tK (.int 1))) aNil))))
  (sSeq (sIf (qOr (qNot (tB (tCallQ sp__law_is_code (aD (tV 3) (aD (tV 11) aNil))))) (qNot (tB (tCallQ sp__law_are_right (aD (tV 3) (aD (tV 8) (aD (tV 11) aNil))))))) (sRet (tK (.bool false))) sNil)
  (sIf (tB (t2 (isB true) (tCallQ sp_is_ahead (aD (tV 3) (aD (tV 8) (aD (tV 11) aNil)))) (tK (.bool true)))) (sRet (tK (.bool false))) sNil))) sNil)))
def cl5 : TQS := (sSeq (sIf (qOr (tB (t2 neD (tCA reprD (dCons (tCallQ sp_code_at (aD (tV 3) (aD (tV 10) aNil))) dNil)) (tCA reprD (dCons (tV 8) dNil)))) (tB (t2 (isB true) (tCallQ sp_is_ahead (aD (tV 3) (aD (tV 8) (aD (tV 8) aNil)))) (tK (.bool false))))) (sRet (tK (.bool false))) sNil)
  (sIf (tB (t2 ltI (t2 addF (tV 10) (tK (.int 1))) (tV 4))) (sSeq (sSet 11 (tCallQ sp_code_at (aD (tV 3) (aD (t2 addF (tV 10) (tK (.int 1))) aNil))))
  (sSeq (sIf (qOr (qNot (tB (tCallQ sp__law_is_code (aD (tV 3) (aD (tV 11) aNil))))) (qNot (tB (tCallQ sp__law_are_right (aD (tV 3) (aD (tV 8) (aD (tV 11) aNil))))))) (sRet (tK (.bool false))) sNil)
  (sIf (tB (t2 (isB true) (tCallQ sp_is_ahead (aD (tV 3) (aD (tV 8) (aD (tV 11) aNil)))) (tK (.bool true)))) (sRet (tK (.bool false))) sNil))) sNil))
def cl6 : TQS := (sIf (tB (t2 ltI (t2 addF (tV 10) (tK (.int 1))) (tV 4))) (sSeq (sSet 11 (tCallQ sp_code_at (aD (tV 3) (aD (t2 addF (tV 10) (tK (.int 1))) aNil))))
  (sSeq (sIf (qOr (qNot (tB (tCallQ sp__law_is_code (aD (tV 3) (aD (tV 11) aNil))))) (qNot (tB (tCallQ sp__law_are_right (aD (tV 3) (aD (tV 8) (aD (tV 11) aNil))))))) (sRet (tK (.bool false))) sNil)
  (sIf (tB (t2 (isB true) (tCallQ sp_is_ahead (aD (tV 3) (aD (tV 8) (aD (tV 11) aNil)))) (tK (.bool true)))) (sRet (tK (.bool false))) sNil))) sNil)
theorem code_at_ok {ds : List Desk} {n : Int} (hd : T43.Dk ds) (h0 : 0 ≤ n) (h1 : n < many ds) : OkR ds (codeAt ds n) ∧ pos ds (codeAt ds n) = n := by
  obtain ⟨q1, q2⟩ := code_ok hd.ok.rev h0 h1
  constructor
  · have := q1.rev
    rw [List.reverse_reverse] at this
    exact this
  · unfold pos codeAt
    rw [List.reverse_reverse]
    exact q2
theorem code_at_pos {ds : List Desk} {c : List Int} (hd : T43.Dk ds) (h : OkR ds c) : codeAt ds (pos ds c) = c := by
  unfold pos codeAt
  rw [code_pos hd.ok.rev h.rev, List.reverse_reverse]
theorem step_law (R : EndsQ) (s2 s7 s8 s9 s10 s11 : Sl) {ds : List Desk} (hd : T43.Dk ds) {first last : List Int} (hf : OkR ds first) (pf : pos ds first = 0) (hl : OkR ds last) (pl : pos ds last = many ds - 1)
    (h : ∀ s7 s8 s9 s10 s11, R.nx [.un, .dk, s2, .d (desksD ds), .d (.int (many ds)), .d (tupI first), .d (tupI last), s7, s8, s9, s10, s11]) :
    cl0 R [.un, .dk, s2, .d (desksD ds), .d (.int (many ds)), .d (tupI first), .d (tupI last), s7, s8, s9, s10, s11] := by
  show sSeq _ cl1 _ _
  simp only [Q.addF, Q.mulF, Q.bandI, Q.iZip, Q.itZ, Q.slD, Q.enOf, Q.tV, Q.tK, Q.t2, Q.t1, Q.tB, Q.cI, Q.cIp, Q.addI, Q.subI, Q.mulI, Q.fdivI, Q.modI, Q.powI, Q.ltI, Q.leI, Q.gtI, Q.geI, Q.negI, Q.vAnd, Q.vOr, Q.vNot, Q.qAnd, Q.qOr, Q.qNot, Q.qIf, Q.chI, Q.tTupQ, Q.dNil, Q.dCons, Q.tLstQ, Q.tFz, Q.tCA, Q.lenD, Q.tupD, Q.isD, Q.isInt, Q.isBool, Q.isTup, Q.isStr, Q.isLst, Q.tLenN, Q.tIxN, Q.setQ, Q.aNil, Q.aD, Q.aK, Q.tCallQ, Q.tCallKQ, Q.pick, Q.sNil, Q.sSeq, Q.sRet, Q.sRetN, Q.sExpr, Q.sIf, Q.sSet, Q.sSetL, Q.sAsg, Q.sFor, Q.sPar2, Q.sPar3, Q.pNil, Q.pD, Q.pO, Q.pDn, Q.gN, Q.gT, Q.gsNil, Q.gsCons, Q.iQ, Q.itD, Q.iEn, Q.itE, Q.rg1, Q.rg2, Q.oNone, Q.oSome, Q.tSlQ, Q.revD, Q.tOwnM, Q.appC, Q.popC, Q.extC, Q.ownL, Q.tRepL, Q.repC, Q.sSetIx, Q.ixOwn, Q.tLcQ, Q.noOwn, Q.rstQ, Q.wipeQ, Q.sDn, Q.sSetD, Q.tDgetN, Q.dOwn, Q.tTupRg, Q.sNever, Q.isB, Q.listD, Q.listC, Q.reprD, Q.Sl.isOwn, List.map_cons, List.map_nil, List.replicate_succ, List.replicate_zero, List.cons_append, List.nil_append, List.append_nil, List.getElem?_cons_zero, List.getElem?_cons_succ, List.set_cons_zero, List.set_cons_succ, List.getD_cons_zero, List.getD_cons_succ, List.filterMap_cons, List.filterMap_nil, List.all_cons, List.all_nil, Bool.and_true, Bool.true_and, Bool.not_true, Bool.not_false, Bool.not_eq_true, Bool.false_eq_true, Bool.and_self, if_true, if_false, true_and, and_true, ↓reduceIte, eqD, neD, sh_int, eqv_int, eqv_strs, sDraw, List.length_cons, List.length_nil, Nat.zero_add, Nat.reduceAdd, decide_true, eq_self]
  refine ⟨ds, rfl, hd, fun one ho => ?_⟩
  have po := pos_le hd ho
  show sSeq _ cl2 _ _
  simp only [Q.addF, Q.mulF, Q.bandI, Q.iZip, Q.itZ, Q.slD, Q.enOf, Q.tV, Q.tK, Q.t2, Q.t1, Q.tB, Q.cI, Q.cIp, Q.addI, Q.subI, Q.mulI, Q.fdivI, Q.modI, Q.powI, Q.ltI, Q.leI, Q.gtI, Q.geI, Q.negI, Q.vAnd, Q.vOr, Q.vNot, Q.qAnd, Q.qOr, Q.qNot, Q.qIf, Q.chI, Q.tTupQ, Q.dNil, Q.dCons, Q.tLstQ, Q.tFz, Q.tCA, Q.lenD, Q.tupD, Q.isD, Q.isInt, Q.isBool, Q.isTup, Q.isStr, Q.isLst, Q.tLenN, Q.tIxN, Q.setQ, Q.aNil, Q.aD, Q.aK, Q.tCallQ, Q.tCallKQ, Q.pick, Q.sNil, Q.sSeq, Q.sRet, Q.sRetN, Q.sExpr, Q.sIf, Q.sSet, Q.sSetL, Q.sAsg, Q.sFor, Q.sPar2, Q.sPar3, Q.pNil, Q.pD, Q.pO, Q.pDn, Q.gN, Q.gT, Q.gsNil, Q.gsCons, Q.iQ, Q.itD, Q.iEn, Q.itE, Q.rg1, Q.rg2, Q.oNone, Q.oSome, Q.tSlQ, Q.revD, Q.tOwnM, Q.appC, Q.popC, Q.extC, Q.ownL, Q.tRepL, Q.repC, Q.sSetIx, Q.ixOwn, Q.tLcQ, Q.noOwn, Q.rstQ, Q.wipeQ, Q.sDn, Q.sSetD, Q.tDgetN, Q.dOwn, Q.tTupRg, Q.sNever, Q.isB, Q.listD, Q.listC, Q.reprD, Q.Sl.isOwn, List.map_cons, List.map_nil, List.replicate_succ, List.replicate_zero, List.cons_append, List.nil_append, List.append_nil, List.getElem?_cons_zero, List.getElem?_cons_succ, List.set_cons_zero, List.set_cons_succ, List.getD_cons_zero, List.getD_cons_succ, List.filterMap_cons, List.filterMap_nil, List.all_cons, List.all_nil, Bool.and_true, Bool.true_and, Bool.not_true, Bool.not_false, Bool.not_eq_true, Bool.false_eq_true, Bool.and_self, if_true, if_false, true_and, and_true, ↓reduceIte, eqD, neD, sh_int, eqv_int, eqv_strs, sDraw, List.length_cons, List.length_nil, Nat.zero_add, Nat.reduceAdd, decide_true, eq_self]
  refine ⟨by decide, by decide, fun w hw1 hw2 => ?_⟩
  have next : ∀ other : List Int, OkR ds other → cl2 R [.un, .dk, s2, .d (desksD ds), .d (.int (many ds)), .d (tupI first), .d (tupI last), s7, .d (tupI one), .d (tupI other), s10, s11] := fun other hot => by
    have pot := pos_le hd hot
    show sSeq _ cl3 _ _
    simp only [Q.addF, Q.mulF, Q.bandI, Q.iZip, Q.itZ, Q.slD, Q.enOf, Q.tV, Q.tK, Q.t2, Q.t1, Q.tB, Q.cI, Q.cIp, Q.addI, Q.subI, Q.mulI, Q.fdivI, Q.modI, Q.powI, Q.ltI, Q.leI, Q.gtI, Q.geI, Q.negI, Q.vAnd, Q.vOr, Q.vNot, Q.qAnd, Q.qOr, Q.qNot, Q.qIf, Q.chI, Q.tTupQ, Q.dNil, Q.dCons, Q.tLstQ, Q.tFz, Q.tCA, Q.lenD, Q.tupD, Q.isD, Q.isInt, Q.isBool, Q.isTup, Q.isStr, Q.isLst, Q.tLenN, Q.tIxN, Q.setQ, Q.aNil, Q.aD, Q.aK, Q.tCallQ, Q.tCallKQ, Q.pick, Q.sNil, Q.sSeq, Q.sRet, Q.sRetN, Q.sExpr, Q.sIf, Q.sSet, Q.sSetL, Q.sAsg, Q.sFor, Q.sPar2, Q.sPar3, Q.pNil, Q.pD, Q.pO, Q.pDn, Q.gN, Q.gT, Q.gsNil, Q.gsCons, Q.iQ, Q.itD, Q.iEn, Q.itE, Q.rg1, Q.rg2, Q.oNone, Q.oSome, Q.tSlQ, Q.revD, Q.tOwnM, Q.appC, Q.popC, Q.extC, Q.ownL, Q.tRepL, Q.repC, Q.sSetIx, Q.ixOwn, Q.tLcQ, Q.noOwn, Q.rstQ, Q.wipeQ, Q.sDn, Q.sSetD, Q.tDgetN, Q.dOwn, Q.tTupRg, Q.sNever, Q.isB, Q.listD, Q.listC, Q.reprD, Q.Sl.isOwn, List.map_cons, List.map_nil, List.replicate_succ, List.replicate_zero, List.cons_append, List.nil_append, List.append_nil, List.getElem?_cons_zero, List.getElem?_cons_succ, List.set_cons_zero, List.set_cons_succ, List.getD_cons_zero, List.getD_cons_succ, List.filterMap_cons, List.filterMap_nil, List.all_cons, List.all_nil, Bool.and_true, Bool.true_and, Bool.not_true, Bool.not_false, Bool.not_eq_true, Bool.false_eq_true, Bool.and_self, if_true, if_false, true_and, and_true, ↓reduceIte, eqD, neD, sh_int, eqv_int, eqv_strs, sDraw, List.length_cons, List.length_nil, Nat.zero_add, Nat.reduceAdd, decide_true, eq_self]
    refine ⟨ds, one, other, rfl, hd, ho, hot, ?_⟩
    simp only [Q.addF, Q.mulF, Q.bandI, Q.iZip, Q.itZ, Q.slD, Q.enOf, Q.tV, Q.tK, Q.t2, Q.t1, Q.tB, Q.cI, Q.cIp, Q.addI, Q.subI, Q.mulI, Q.fdivI, Q.modI, Q.powI, Q.ltI, Q.leI, Q.gtI, Q.geI, Q.negI, Q.vAnd, Q.vOr, Q.vNot, Q.qAnd, Q.qOr, Q.qNot, Q.qIf, Q.chI, Q.tTupQ, Q.dNil, Q.dCons, Q.tLstQ, Q.tFz, Q.tCA, Q.lenD, Q.tupD, Q.isD, Q.isInt, Q.isBool, Q.isTup, Q.isStr, Q.isLst, Q.tLenN, Q.tIxN, Q.setQ, Q.aNil, Q.aD, Q.aK, Q.tCallQ, Q.tCallKQ, Q.pick, Q.sNil, Q.sSeq, Q.sRet, Q.sRetN, Q.sExpr, Q.sIf, Q.sSet, Q.sSetL, Q.sAsg, Q.sFor, Q.sPar2, Q.sPar3, Q.pNil, Q.pD, Q.pO, Q.pDn, Q.gN, Q.gT, Q.gsNil, Q.gsCons, Q.iQ, Q.itD, Q.iEn, Q.itE, Q.rg1, Q.rg2, Q.oNone, Q.oSome, Q.tSlQ, Q.revD, Q.tOwnM, Q.appC, Q.popC, Q.extC, Q.ownL, Q.tRepL, Q.repC, Q.sSetIx, Q.ixOwn, Q.tLcQ, Q.noOwn, Q.rstQ, Q.wipeQ, Q.sDn, Q.sSetD, Q.tDgetN, Q.dOwn, Q.tTupRg, Q.sNever, Q.isB, Q.listD, Q.listC, Q.reprD, Q.Sl.isOwn, List.map_cons, List.map_nil, List.replicate_succ, List.replicate_zero, List.cons_append, List.nil_append, List.append_nil, List.getElem?_cons_zero, List.getElem?_cons_succ, List.set_cons_zero, List.set_cons_succ, List.getD_cons_zero, List.getD_cons_succ, List.filterMap_cons, List.filterMap_nil, List.all_cons, List.all_nil, Bool.and_true, Bool.true_and, Bool.not_true, Bool.not_false, Bool.not_eq_true, Bool.false_eq_true, Bool.and_self, if_true, if_false, true_and, and_true, ↓reduceIte, eqD, neD, sh_int, eqv_int, eqv_strs, sDraw, List.length_cons, List.length_nil, Nat.zero_add, Nat.reduceAdd, decide_true, eq_self]
    refine ⟨ds, first, one, rfl, hd, hf, ho, ?_⟩
    simp only [Q.addF, Q.mulF, Q.bandI, Q.iZip, Q.itZ, Q.slD, Q.enOf, Q.tV, Q.tK, Q.t2, Q.t1, Q.tB, Q.cI, Q.cIp, Q.addI, Q.subI, Q.mulI, Q.fdivI, Q.modI, Q.powI, Q.ltI, Q.leI, Q.gtI, Q.geI, Q.negI, Q.vAnd, Q.vOr, Q.vNot, Q.qAnd, Q.qOr, Q.qNot, Q.qIf, Q.chI, Q.tTupQ, Q.dNil, Q.dCons, Q.tLstQ, Q.tFz, Q.tCA, Q.lenD, Q.tupD, Q.isD, Q.isInt, Q.isBool, Q.isTup, Q.isStr, Q.isLst, Q.tLenN, Q.tIxN, Q.setQ, Q.aNil, Q.aD, Q.aK, Q.tCallQ, Q.tCallKQ, Q.pick, Q.sNil, Q.sSeq, Q.sRet, Q.sRetN, Q.sExpr, Q.sIf, Q.sSet, Q.sSetL, Q.sAsg, Q.sFor, Q.sPar2, Q.sPar3, Q.pNil, Q.pD, Q.pO, Q.pDn, Q.gN, Q.gT, Q.gsNil, Q.gsCons, Q.iQ, Q.itD, Q.iEn, Q.itE, Q.rg1, Q.rg2, Q.oNone, Q.oSome, Q.tSlQ, Q.revD, Q.tOwnM, Q.appC, Q.popC, Q.extC, Q.ownL, Q.tRepL, Q.repC, Q.sSetIx, Q.ixOwn, Q.tLcQ, Q.noOwn, Q.rstQ, Q.wipeQ, Q.sDn, Q.sSetD, Q.tDgetN, Q.dOwn, Q.tTupRg, Q.sNever, Q.isB, Q.listD, Q.listC, Q.reprD, Q.Sl.isOwn, List.map_cons, List.map_nil, List.replicate_succ, List.replicate_zero, List.cons_append, List.nil_append, List.append_nil, List.getElem?_cons_zero, List.getElem?_cons_succ, List.set_cons_zero, List.set_cons_succ, List.getD_cons_zero, List.getD_cons_succ, List.filterMap_cons, List.filterMap_nil, List.all_cons, List.all_nil, Bool.and_true, Bool.true_and, Bool.not_true, Bool.not_false, Bool.not_eq_true, Bool.false_eq_true, Bool.and_self, if_true, if_false, true_and, and_true, ↓reduceIte, eqD, neD, sh_int, eqv_int, eqv_strs, sDraw, List.length_cons, List.length_nil, Nat.zero_add, Nat.reduceAdd, decide_true, eq_self]
    show sSeq _ cl4 _ _
    simp only [Q.addF, Q.mulF, Q.bandI, Q.iZip, Q.itZ, Q.slD, Q.enOf, Q.tV, Q.tK, Q.t2, Q.t1, Q.tB, Q.cI, Q.cIp, Q.addI, Q.subI, Q.mulI, Q.fdivI, Q.modI, Q.powI, Q.ltI, Q.leI, Q.gtI, Q.geI, Q.negI, Q.vAnd, Q.vOr, Q.vNot, Q.qAnd, Q.qOr, Q.qNot, Q.qIf, Q.chI, Q.tTupQ, Q.dNil, Q.dCons, Q.tLstQ, Q.tFz, Q.tCA, Q.lenD, Q.tupD, Q.isD, Q.isInt, Q.isBool, Q.isTup, Q.isStr, Q.isLst, Q.tLenN, Q.tIxN, Q.setQ, Q.aNil, Q.aD, Q.aK, Q.tCallQ, Q.tCallKQ, Q.pick, Q.sNil, Q.sSeq, Q.sRet, Q.sRetN, Q.sExpr, Q.sIf, Q.sSet, Q.sSetL, Q.sAsg, Q.sFor, Q.sPar2, Q.sPar3, Q.pNil, Q.pD, Q.pO, Q.pDn, Q.gN, Q.gT, Q.gsNil, Q.gsCons, Q.iQ, Q.itD, Q.iEn, Q.itE, Q.rg1, Q.rg2, Q.oNone, Q.oSome, Q.tSlQ, Q.revD, Q.tOwnM, Q.appC, Q.popC, Q.extC, Q.ownL, Q.tRepL, Q.repC, Q.sSetIx, Q.ixOwn, Q.tLcQ, Q.noOwn, Q.rstQ, Q.wipeQ, Q.sDn, Q.sSetD, Q.tDgetN, Q.dOwn, Q.tTupRg, Q.sNever, Q.isB, Q.listD, Q.listC, Q.reprD, Q.Sl.isOwn, List.map_cons, List.map_nil, List.replicate_succ, List.replicate_zero, List.cons_append, List.nil_append, List.append_nil, List.getElem?_cons_zero, List.getElem?_cons_succ, List.set_cons_zero, List.set_cons_succ, List.getD_cons_zero, List.getD_cons_succ, List.filterMap_cons, List.filterMap_nil, List.all_cons, List.all_nil, Bool.and_true, Bool.true_and, Bool.not_true, Bool.not_false, Bool.not_eq_true, Bool.false_eq_true, Bool.and_self, if_true, if_false, true_and, and_true, ↓reduceIte, eqD, neD, sh_int, eqv_int, eqv_strs, sDraw, List.length_cons, List.length_nil, Nat.zero_add, Nat.reduceAdd, decide_true, eq_self]
    refine ⟨ds, one, first, rfl, hd, ho, hf, ?_⟩
    have e1 : decide (pos ds one < pos ds first) = false := decide_eq_false (by omega)
    rw [e1]
    simp only [Q.addF, Q.mulF, Q.bandI, Q.iZip, Q.itZ, Q.slD, Q.enOf, Q.tV, Q.tK, Q.t2, Q.t1, Q.tB, Q.cI, Q.cIp, Q.addI, Q.subI, Q.mulI, Q.fdivI, Q.modI, Q.powI, Q.ltI, Q.leI, Q.gtI, Q.geI, Q.negI, Q.vAnd, Q.vOr, Q.vNot, Q.qAnd, Q.qOr, Q.qNot, Q.qIf, Q.chI, Q.tTupQ, Q.dNil, Q.dCons, Q.tLstQ, Q.tFz, Q.tCA, Q.lenD, Q.tupD, Q.isD, Q.isInt, Q.isBool, Q.isTup, Q.isStr, Q.isLst, Q.tLenN, Q.tIxN, Q.setQ, Q.aNil, Q.aD, Q.aK, Q.tCallQ, Q.tCallKQ, Q.pick, Q.sNil, Q.sSeq, Q.sRet, Q.sRetN, Q.sExpr, Q.sIf, Q.sSet, Q.sSetL, Q.sAsg, Q.sFor, Q.sPar2, Q.sPar3, Q.pNil, Q.pD, Q.pO, Q.pDn, Q.gN, Q.gT, Q.gsNil, Q.gsCons, Q.iQ, Q.itD, Q.iEn, Q.itE, Q.rg1, Q.rg2, Q.oNone, Q.oSome, Q.tSlQ, Q.revD, Q.tOwnM, Q.appC, Q.popC, Q.extC, Q.ownL, Q.tRepL, Q.repC, Q.sSetIx, Q.ixOwn, Q.tLcQ, Q.noOwn, Q.rstQ, Q.wipeQ, Q.sDn, Q.sSetD, Q.tDgetN, Q.dOwn, Q.tTupRg, Q.sNever, Q.isB, Q.listD, Q.listC, Q.reprD, Q.Sl.isOwn, List.map_cons, List.map_nil, List.replicate_succ, List.replicate_zero, List.cons_append, List.nil_append, List.append_nil, List.getElem?_cons_zero, List.getElem?_cons_succ, List.set_cons_zero, List.set_cons_succ, List.getD_cons_zero, List.getD_cons_succ, List.filterMap_cons, List.filterMap_nil, List.all_cons, List.all_nil, Bool.and_true, Bool.true_and, Bool.not_true, Bool.not_false, Bool.not_eq_true, Bool.false_eq_true, Bool.and_self, if_true, if_false, true_and, and_true, ↓reduceIte, eqD, neD, sh_int, eqv_int, eqv_strs, sDraw, List.length_cons, List.length_nil, Nat.zero_add, Nat.reduceAdd, decide_true, eq_self]
    refine ⟨ds, last, other, rfl, hd, hl, hot, ?_⟩
    have e2 : decide (pos ds last < pos ds other) = false := decide_eq_false (by omega)
    rw [e2]
    simp only [Q.addF, Q.mulF, Q.bandI, Q.iZip, Q.itZ, Q.slD, Q.enOf, Q.tV, Q.tK, Q.t2, Q.t1, Q.tB, Q.cI, Q.cIp, Q.addI, Q.subI, Q.mulI, Q.fdivI, Q.modI, Q.powI, Q.ltI, Q.leI, Q.gtI, Q.geI, Q.negI, Q.vAnd, Q.vOr, Q.vNot, Q.qAnd, Q.qOr, Q.qNot, Q.qIf, Q.chI, Q.tTupQ, Q.dNil, Q.dCons, Q.tLstQ, Q.tFz, Q.tCA, Q.lenD, Q.tupD, Q.isD, Q.isInt, Q.isBool, Q.isTup, Q.isStr, Q.isLst, Q.tLenN, Q.tIxN, Q.setQ, Q.aNil, Q.aD, Q.aK, Q.tCallQ, Q.tCallKQ, Q.pick, Q.sNil, Q.sSeq, Q.sRet, Q.sRetN, Q.sExpr, Q.sIf, Q.sSet, Q.sSetL, Q.sAsg, Q.sFor, Q.sPar2, Q.sPar3, Q.pNil, Q.pD, Q.pO, Q.pDn, Q.gN, Q.gT, Q.gsNil, Q.gsCons, Q.iQ, Q.itD, Q.iEn, Q.itE, Q.rg1, Q.rg2, Q.oNone, Q.oSome, Q.tSlQ, Q.revD, Q.tOwnM, Q.appC, Q.popC, Q.extC, Q.ownL, Q.tRepL, Q.repC, Q.sSetIx, Q.ixOwn, Q.tLcQ, Q.noOwn, Q.rstQ, Q.wipeQ, Q.sDn, Q.sSetD, Q.tDgetN, Q.dOwn, Q.tTupRg, Q.sNever, Q.isB, Q.listD, Q.listC, Q.reprD, Q.Sl.isOwn, List.map_cons, List.map_nil, List.replicate_succ, List.replicate_zero, List.cons_append, List.nil_append, List.append_nil, List.getElem?_cons_zero, List.getElem?_cons_succ, List.set_cons_zero, List.set_cons_succ, List.getD_cons_zero, List.getD_cons_succ, List.filterMap_cons, List.filterMap_nil, List.all_cons, List.all_nil, Bool.and_true, Bool.true_and, Bool.not_true, Bool.not_false, Bool.not_eq_true, Bool.false_eq_true, Bool.and_self, if_true, if_false, true_and, and_true, ↓reduceIte, eqD, neD, sh_int, eqv_int, eqv_strs, sDraw, List.length_cons, List.length_nil, Nat.zero_add, Nat.reduceAdd, decide_true, eq_self]
    show sSeq _ cl5 _ _
    simp only [Q.addF, Q.mulF, Q.bandI, Q.iZip, Q.itZ, Q.slD, Q.enOf, Q.tV, Q.tK, Q.t2, Q.t1, Q.tB, Q.cI, Q.cIp, Q.addI, Q.subI, Q.mulI, Q.fdivI, Q.modI, Q.powI, Q.ltI, Q.leI, Q.gtI, Q.geI, Q.negI, Q.vAnd, Q.vOr, Q.vNot, Q.qAnd, Q.qOr, Q.qNot, Q.qIf, Q.chI, Q.tTupQ, Q.dNil, Q.dCons, Q.tLstQ, Q.tFz, Q.tCA, Q.lenD, Q.tupD, Q.isD, Q.isInt, Q.isBool, Q.isTup, Q.isStr, Q.isLst, Q.tLenN, Q.tIxN, Q.setQ, Q.aNil, Q.aD, Q.aK, Q.tCallQ, Q.tCallKQ, Q.pick, Q.sNil, Q.sSeq, Q.sRet, Q.sRetN, Q.sExpr, Q.sIf, Q.sSet, Q.sSetL, Q.sAsg, Q.sFor, Q.sPar2, Q.sPar3, Q.pNil, Q.pD, Q.pO, Q.pDn, Q.gN, Q.gT, Q.gsNil, Q.gsCons, Q.iQ, Q.itD, Q.iEn, Q.itE, Q.rg1, Q.rg2, Q.oNone, Q.oSome, Q.tSlQ, Q.revD, Q.tOwnM, Q.appC, Q.popC, Q.extC, Q.ownL, Q.tRepL, Q.repC, Q.sSetIx, Q.ixOwn, Q.tLcQ, Q.noOwn, Q.rstQ, Q.wipeQ, Q.sDn, Q.sSetD, Q.tDgetN, Q.dOwn, Q.tTupRg, Q.sNever, Q.isB, Q.listD, Q.listC, Q.reprD, Q.Sl.isOwn, List.map_cons, List.map_nil, List.replicate_succ, List.replicate_zero, List.cons_append, List.nil_append, List.append_nil, List.getElem?_cons_zero, List.getElem?_cons_succ, List.set_cons_zero, List.set_cons_succ, List.getD_cons_zero, List.getD_cons_succ, List.filterMap_cons, List.filterMap_nil, List.all_cons, List.all_nil, Bool.and_true, Bool.true_and, Bool.not_true, Bool.not_false, Bool.not_eq_true, Bool.false_eq_true, Bool.and_self, if_true, if_false, true_and, and_true, ↓reduceIte, eqD, neD, sh_int, eqv_int, eqv_strs, sDraw, List.length_cons, List.length_nil, Nat.zero_add, Nat.reduceAdd, decide_true, eq_self]
    refine ⟨ds, one, rfl, hd, ho, ?_⟩
    show sSeq _ cl6 _ _
    simp only [Q.addF, Q.mulF, Q.bandI, Q.iZip, Q.itZ, Q.slD, Q.enOf, Q.tV, Q.tK, Q.t2, Q.t1, Q.tB, Q.cI, Q.cIp, Q.addI, Q.subI, Q.mulI, Q.fdivI, Q.modI, Q.powI, Q.ltI, Q.leI, Q.gtI, Q.geI, Q.negI, Q.vAnd, Q.vOr, Q.vNot, Q.qAnd, Q.qOr, Q.qNot, Q.qIf, Q.chI, Q.tTupQ, Q.dNil, Q.dCons, Q.tLstQ, Q.tFz, Q.tCA, Q.lenD, Q.tupD, Q.isD, Q.isInt, Q.isBool, Q.isTup, Q.isStr, Q.isLst, Q.tLenN, Q.tIxN, Q.setQ, Q.aNil, Q.aD, Q.aK, Q.tCallQ, Q.tCallKQ, Q.pick, Q.sNil, Q.sSeq, Q.sRet, Q.sRetN, Q.sExpr, Q.sIf, Q.sSet, Q.sSetL, Q.sAsg, Q.sFor, Q.sPar2, Q.sPar3, Q.pNil, Q.pD, Q.pO, Q.pDn, Q.gN, Q.gT, Q.gsNil, Q.gsCons, Q.iQ, Q.itD, Q.iEn, Q.itE, Q.rg1, Q.rg2, Q.oNone, Q.oSome, Q.tSlQ, Q.revD, Q.tOwnM, Q.appC, Q.popC, Q.extC, Q.ownL, Q.tRepL, Q.repC, Q.sSetIx, Q.ixOwn, Q.tLcQ, Q.noOwn, Q.rstQ, Q.wipeQ, Q.sDn, Q.sSetD, Q.tDgetN, Q.dOwn, Q.tTupRg, Q.sNever, Q.isB, Q.listD, Q.listC, Q.reprD, Q.Sl.isOwn, List.map_cons, List.map_nil, List.replicate_succ, List.replicate_zero, List.cons_append, List.nil_append, List.append_nil, List.getElem?_cons_zero, List.getElem?_cons_succ, List.set_cons_zero, List.set_cons_succ, List.getD_cons_zero, List.getD_cons_succ, List.filterMap_cons, List.filterMap_nil, List.all_cons, List.all_nil, Bool.and_true, Bool.true_and, Bool.not_true, Bool.not_false, Bool.not_eq_true, Bool.false_eq_true, Bool.and_self, if_true, if_false, true_and, and_true, ↓reduceIte, eqD, neD, sh_int, eqv_int, eqv_strs, sDraw, List.length_cons, List.length_nil, Nat.zero_add, Nat.reduceAdd, decide_true, eq_self]
    refine ⟨ds, pos ds one, rfl, hd, po.1, po.2.1, ?_⟩
    rw [code_at_pos hd ho]
    have tc := tn_code hd ho
    refine ⟨tc.rep (by decide) (by decide), tc.rep (by decide) (by decide), tc.text, tc.text, ?_⟩
    simp only [Q.addF, Q.mulF, Q.bandI, Q.iZip, Q.itZ, Q.slD, Q.enOf, Q.tV, Q.tK, Q.t2, Q.t1, Q.tB, Q.cI, Q.cIp, Q.addI, Q.subI, Q.mulI, Q.fdivI, Q.modI, Q.powI, Q.ltI, Q.leI, Q.gtI, Q.geI, Q.negI, Q.vAnd, Q.vOr, Q.vNot, Q.qAnd, Q.qOr, Q.qNot, Q.qIf, Q.chI, Q.tTupQ, Q.dNil, Q.dCons, Q.tLstQ, Q.tFz, Q.tCA, Q.lenD, Q.tupD, Q.isD, Q.isInt, Q.isBool, Q.isTup, Q.isStr, Q.isLst, Q.tLenN, Q.tIxN, Q.setQ, Q.aNil, Q.aD, Q.aK, Q.tCallQ, Q.tCallKQ, Q.pick, Q.sNil, Q.sSeq, Q.sRet, Q.sRetN, Q.sExpr, Q.sIf, Q.sSet, Q.sSetL, Q.sAsg, Q.sFor, Q.sPar2, Q.sPar3, Q.pNil, Q.pD, Q.pO, Q.pDn, Q.gN, Q.gT, Q.gsNil, Q.gsCons, Q.iQ, Q.itD, Q.iEn, Q.itE, Q.rg1, Q.rg2, Q.oNone, Q.oSome, Q.tSlQ, Q.revD, Q.tOwnM, Q.appC, Q.popC, Q.extC, Q.ownL, Q.tRepL, Q.repC, Q.sSetIx, Q.ixOwn, Q.tLcQ, Q.noOwn, Q.rstQ, Q.wipeQ, Q.sDn, Q.sSetD, Q.tDgetN, Q.dOwn, Q.tTupRg, Q.sNever, Q.isB, Q.listD, Q.listC, Q.reprD, Q.Sl.isOwn, List.map_cons, List.map_nil, List.replicate_succ, List.replicate_zero, List.cons_append, List.nil_append, List.append_nil, List.getElem?_cons_zero, List.getElem?_cons_succ, List.set_cons_zero, List.set_cons_succ, List.getD_cons_zero, List.getD_cons_succ, List.filterMap_cons, List.filterMap_nil, List.all_cons, List.all_nil, Bool.and_true, Bool.true_and, Bool.not_true, Bool.not_false, Bool.not_eq_true, Bool.false_eq_true, Bool.and_self, if_true, if_false, true_and, and_true, ↓reduceIte, eqD, neD, sh_int, eqv_int, eqv_strs, sDraw, List.length_cons, List.length_nil, Nat.zero_add, Nat.reduceAdd, decide_true, eq_self]
    refine ⟨ds, one, one, rfl, hd, ho, ho, ?_⟩
    have e3 : decide (pos ds one < pos ds one) = false := decide_eq_false (by omega)
    rw [e3]
    simp only [Q.addF, Q.mulF, Q.bandI, Q.iZip, Q.itZ, Q.slD, Q.enOf, Q.tV, Q.tK, Q.t2, Q.t1, Q.tB, Q.cI, Q.cIp, Q.addI, Q.subI, Q.mulI, Q.fdivI, Q.modI, Q.powI, Q.ltI, Q.leI, Q.gtI, Q.geI, Q.negI, Q.vAnd, Q.vOr, Q.vNot, Q.qAnd, Q.qOr, Q.qNot, Q.qIf, Q.chI, Q.tTupQ, Q.dNil, Q.dCons, Q.tLstQ, Q.tFz, Q.tCA, Q.lenD, Q.tupD, Q.isD, Q.isInt, Q.isBool, Q.isTup, Q.isStr, Q.isLst, Q.tLenN, Q.tIxN, Q.setQ, Q.aNil, Q.aD, Q.aK, Q.tCallQ, Q.tCallKQ, Q.pick, Q.sNil, Q.sSeq, Q.sRet, Q.sRetN, Q.sExpr, Q.sIf, Q.sSet, Q.sSetL, Q.sAsg, Q.sFor, Q.sPar2, Q.sPar3, Q.pNil, Q.pD, Q.pO, Q.pDn, Q.gN, Q.gT, Q.gsNil, Q.gsCons, Q.iQ, Q.itD, Q.iEn, Q.itE, Q.rg1, Q.rg2, Q.oNone, Q.oSome, Q.tSlQ, Q.revD, Q.tOwnM, Q.appC, Q.popC, Q.extC, Q.ownL, Q.tRepL, Q.repC, Q.sSetIx, Q.ixOwn, Q.tLcQ, Q.noOwn, Q.rstQ, Q.wipeQ, Q.sDn, Q.sSetD, Q.tDgetN, Q.dOwn, Q.tTupRg, Q.sNever, Q.isB, Q.listD, Q.listC, Q.reprD, Q.Sl.isOwn, List.map_cons, List.map_nil, List.replicate_succ, List.replicate_zero, List.cons_append, List.nil_append, List.append_nil, List.getElem?_cons_zero, List.getElem?_cons_succ, List.set_cons_zero, List.set_cons_succ, List.getD_cons_zero, List.getD_cons_succ, List.filterMap_cons, List.filterMap_nil, List.all_cons, List.all_nil, Bool.and_true, Bool.true_and, Bool.not_true, Bool.not_false, Bool.not_eq_true, Bool.false_eq_true, Bool.and_self, if_true, if_false, true_and, and_true, ↓reduceIte, eqD, neD, sh_int, eqv_int, eqv_strs, sDraw, List.length_cons, List.length_nil, Nat.zero_add, Nat.reduceAdd, decide_true, eq_self]
    simp only [cl6, Q.addF, Q.mulF, Q.bandI, Q.iZip, Q.itZ, Q.slD, Q.enOf, Q.tV, Q.tK, Q.t2, Q.t1, Q.tB, Q.cI, Q.cIp, Q.addI, Q.subI, Q.mulI, Q.fdivI, Q.modI, Q.powI, Q.ltI, Q.leI, Q.gtI, Q.geI, Q.negI, Q.vAnd, Q.vOr, Q.vNot, Q.qAnd, Q.qOr, Q.qNot, Q.qIf, Q.chI, Q.tTupQ, Q.dNil, Q.dCons, Q.tLstQ, Q.tFz, Q.tCA, Q.lenD, Q.tupD, Q.isD, Q.isInt, Q.isBool, Q.isTup, Q.isStr, Q.isLst, Q.tLenN, Q.tIxN, Q.setQ, Q.aNil, Q.aD, Q.aK, Q.tCallQ, Q.tCallKQ, Q.pick, Q.sNil, Q.sSeq, Q.sRet, Q.sRetN, Q.sExpr, Q.sIf, Q.sSet, Q.sSetL, Q.sAsg, Q.sFor, Q.sPar2, Q.sPar3, Q.pNil, Q.pD, Q.pO, Q.pDn, Q.gN, Q.gT, Q.gsNil, Q.gsCons, Q.iQ, Q.itD, Q.iEn, Q.itE, Q.rg1, Q.rg2, Q.oNone, Q.oSome, Q.tSlQ, Q.revD, Q.tOwnM, Q.appC, Q.popC, Q.extC, Q.ownL, Q.tRepL, Q.repC, Q.sSetIx, Q.ixOwn, Q.tLcQ, Q.noOwn, Q.rstQ, Q.wipeQ, Q.sDn, Q.sSetD, Q.tDgetN, Q.dOwn, Q.tTupRg, Q.sNever, Q.isB, Q.listD, Q.listC, Q.reprD, Q.Sl.isOwn, List.map_cons, List.map_nil, List.replicate_succ, List.replicate_zero, List.cons_append, List.nil_append, List.append_nil, List.getElem?_cons_zero, List.getElem?_cons_succ, List.set_cons_zero, List.set_cons_succ, List.getD_cons_zero, List.getD_cons_succ, List.filterMap_cons, List.filterMap_nil, List.all_cons, List.all_nil, Bool.and_true, Bool.true_and, Bool.not_true, Bool.not_false, Bool.not_eq_true, Bool.false_eq_true, Bool.and_self, if_true, if_false, true_and, and_true, ↓reduceIte, eqD, neD, sh_int, eqv_int, eqv_strs, sDraw, List.length_cons, List.length_nil, Nat.zero_add, Nat.reduceAdd, decide_true, eq_self]
    by_cases hm : pos ds one + 1 < many ds
    · have e4 : decide (pos ds one + 1 < many ds) = true := decide_eq_true hm
      rw [e4]
      simp only [Q.addF, Q.mulF, Q.bandI, Q.iZip, Q.itZ, Q.slD, Q.enOf, Q.tV, Q.tK, Q.t2, Q.t1, Q.tB, Q.cI, Q.cIp, Q.addI, Q.subI, Q.mulI, Q.fdivI, Q.modI, Q.powI, Q.ltI, Q.leI, Q.gtI, Q.geI, Q.negI, Q.vAnd, Q.vOr, Q.vNot, Q.qAnd, Q.qOr, Q.qNot, Q.qIf, Q.chI, Q.tTupQ, Q.dNil, Q.dCons, Q.tLstQ, Q.tFz, Q.tCA, Q.lenD, Q.tupD, Q.isD, Q.isInt, Q.isBool, Q.isTup, Q.isStr, Q.isLst, Q.tLenN, Q.tIxN, Q.setQ, Q.aNil, Q.aD, Q.aK, Q.tCallQ, Q.tCallKQ, Q.pick, Q.sNil, Q.sSeq, Q.sRet, Q.sRetN, Q.sExpr, Q.sIf, Q.sSet, Q.sSetL, Q.sAsg, Q.sFor, Q.sPar2, Q.sPar3, Q.pNil, Q.pD, Q.pO, Q.pDn, Q.gN, Q.gT, Q.gsNil, Q.gsCons, Q.iQ, Q.itD, Q.iEn, Q.itE, Q.rg1, Q.rg2, Q.oNone, Q.oSome, Q.tSlQ, Q.revD, Q.tOwnM, Q.appC, Q.popC, Q.extC, Q.ownL, Q.tRepL, Q.repC, Q.sSetIx, Q.ixOwn, Q.tLcQ, Q.noOwn, Q.rstQ, Q.wipeQ, Q.sDn, Q.sSetD, Q.tDgetN, Q.dOwn, Q.tTupRg, Q.sNever, Q.isB, Q.listD, Q.listC, Q.reprD, Q.Sl.isOwn, List.map_cons, List.map_nil, List.replicate_succ, List.replicate_zero, List.cons_append, List.nil_append, List.append_nil, List.getElem?_cons_zero, List.getElem?_cons_succ, List.set_cons_zero, List.set_cons_succ, List.getD_cons_zero, List.getD_cons_succ, List.filterMap_cons, List.filterMap_nil, List.all_cons, List.all_nil, Bool.and_true, Bool.true_and, Bool.not_true, Bool.not_false, Bool.not_eq_true, Bool.false_eq_true, Bool.and_self, if_true, if_false, true_and, and_true, ↓reduceIte, eqD, neD, sh_int, eqv_int, eqv_strs, sDraw, List.length_cons, List.length_nil, Nat.zero_add, Nat.reduceAdd, decide_true, eq_self]
      refine ⟨ds, pos ds one + 1, rfl, hd, by omega, hm, ?_⟩
      obtain ⟨c1, c2⟩ := code_at_ok hd (n := pos ds one + 1) (by omega) hm
      try simp only [Q.addF, Q.mulF, Q.bandI, Q.iZip, Q.itZ, Q.slD, Q.enOf, Q.tV, Q.tK, Q.t2, Q.t1, Q.tB, Q.cI, Q.cIp, Q.addI, Q.subI, Q.mulI, Q.fdivI, Q.modI, Q.powI, Q.ltI, Q.leI, Q.gtI, Q.geI, Q.negI, Q.vAnd, Q.vOr, Q.vNot, Q.qAnd, Q.qOr, Q.qNot, Q.qIf, Q.chI, Q.tTupQ, Q.dNil, Q.dCons, Q.tLstQ, Q.tFz, Q.tCA, Q.lenD, Q.tupD, Q.isD, Q.isInt, Q.isBool, Q.isTup, Q.isStr, Q.isLst, Q.tLenN, Q.tIxN, Q.setQ, Q.aNil, Q.aD, Q.aK, Q.tCallQ, Q.tCallKQ, Q.pick, Q.sNil, Q.sSeq, Q.sRet, Q.sRetN, Q.sExpr, Q.sIf, Q.sSet, Q.sSetL, Q.sAsg, Q.sFor, Q.sPar2, Q.sPar3, Q.pNil, Q.pD, Q.pO, Q.pDn, Q.gN, Q.gT, Q.gsNil, Q.gsCons, Q.iQ, Q.itD, Q.iEn, Q.itE, Q.rg1, Q.rg2, Q.oNone, Q.oSome, Q.tSlQ, Q.revD, Q.tOwnM, Q.appC, Q.popC, Q.extC, Q.ownL, Q.tRepL, Q.repC, Q.sSetIx, Q.ixOwn, Q.tLcQ, Q.noOwn, Q.rstQ, Q.wipeQ, Q.sDn, Q.sSetD, Q.tDgetN, Q.dOwn, Q.tTupRg, Q.sNever, Q.isB, Q.listD, Q.listC, Q.reprD, Q.Sl.isOwn, List.map_cons, List.map_nil, List.replicate_succ, List.replicate_zero, List.cons_append, List.nil_append, List.append_nil, List.getElem?_cons_zero, List.getElem?_cons_succ, List.set_cons_zero, List.set_cons_succ, List.getD_cons_zero, List.getD_cons_succ, List.filterMap_cons, List.filterMap_nil, List.all_cons, List.all_nil, Bool.and_true, Bool.true_and, Bool.not_true, Bool.not_false, Bool.not_eq_true, Bool.false_eq_true, Bool.and_self, if_true, if_false, true_and, and_true, ↓reduceIte, eqD, neD, sh_int, eqv_int, eqv_strs, sDraw, List.length_cons, List.length_nil, Nat.zero_add, Nat.reduceAdd, decide_true, eq_self]
      refine ⟨ds, _, rfl, c1, hd.few, ?_⟩
      simp only [Q.addF, Q.mulF, Q.bandI, Q.iZip, Q.itZ, Q.slD, Q.enOf, Q.tV, Q.tK, Q.t2, Q.t1, Q.tB, Q.cI, Q.cIp, Q.addI, Q.subI, Q.mulI, Q.fdivI, Q.modI, Q.powI, Q.ltI, Q.leI, Q.gtI, Q.geI, Q.negI, Q.vAnd, Q.vOr, Q.vNot, Q.qAnd, Q.qOr, Q.qNot, Q.qIf, Q.chI, Q.tTupQ, Q.dNil, Q.dCons, Q.tLstQ, Q.tFz, Q.tCA, Q.lenD, Q.tupD, Q.isD, Q.isInt, Q.isBool, Q.isTup, Q.isStr, Q.isLst, Q.tLenN, Q.tIxN, Q.setQ, Q.aNil, Q.aD, Q.aK, Q.tCallQ, Q.tCallKQ, Q.pick, Q.sNil, Q.sSeq, Q.sRet, Q.sRetN, Q.sExpr, Q.sIf, Q.sSet, Q.sSetL, Q.sAsg, Q.sFor, Q.sPar2, Q.sPar3, Q.pNil, Q.pD, Q.pO, Q.pDn, Q.gN, Q.gT, Q.gsNil, Q.gsCons, Q.iQ, Q.itD, Q.iEn, Q.itE, Q.rg1, Q.rg2, Q.oNone, Q.oSome, Q.tSlQ, Q.revD, Q.tOwnM, Q.appC, Q.popC, Q.extC, Q.ownL, Q.tRepL, Q.repC, Q.sSetIx, Q.ixOwn, Q.tLcQ, Q.noOwn, Q.rstQ, Q.wipeQ, Q.sDn, Q.sSetD, Q.tDgetN, Q.dOwn, Q.tTupRg, Q.sNever, Q.isB, Q.listD, Q.listC, Q.reprD, Q.Sl.isOwn, List.map_cons, List.map_nil, List.replicate_succ, List.replicate_zero, List.cons_append, List.nil_append, List.append_nil, List.getElem?_cons_zero, List.getElem?_cons_succ, List.set_cons_zero, List.set_cons_succ, List.getD_cons_zero, List.getD_cons_succ, List.filterMap_cons, List.filterMap_nil, List.all_cons, List.all_nil, Bool.and_true, Bool.true_and, Bool.not_true, Bool.not_false, Bool.not_eq_true, Bool.false_eq_true, Bool.and_self, if_true, if_false, true_and, and_true, ↓reduceIte, eqD, neD, sh_int, eqv_int, eqv_strs, sDraw, List.length_cons, List.length_nil, Nat.zero_add, Nat.reduceAdd, decide_true, eq_self]
      refine ⟨ds, one, _, rfl, hd, ho, c1, ?_⟩
      simp only [Q.addF, Q.mulF, Q.bandI, Q.iZip, Q.itZ, Q.slD, Q.enOf, Q.tV, Q.tK, Q.t2, Q.t1, Q.tB, Q.cI, Q.cIp, Q.addI, Q.subI, Q.mulI, Q.fdivI, Q.modI, Q.powI, Q.ltI, Q.leI, Q.gtI, Q.geI, Q.negI, Q.vAnd, Q.vOr, Q.vNot, Q.qAnd, Q.qOr, Q.qNot, Q.qIf, Q.chI, Q.tTupQ, Q.dNil, Q.dCons, Q.tLstQ, Q.tFz, Q.tCA, Q.lenD, Q.tupD, Q.isD, Q.isInt, Q.isBool, Q.isTup, Q.isStr, Q.isLst, Q.tLenN, Q.tIxN, Q.setQ, Q.aNil, Q.aD, Q.aK, Q.tCallQ, Q.tCallKQ, Q.pick, Q.sNil, Q.sSeq, Q.sRet, Q.sRetN, Q.sExpr, Q.sIf, Q.sSet, Q.sSetL, Q.sAsg, Q.sFor, Q.sPar2, Q.sPar3, Q.pNil, Q.pD, Q.pO, Q.pDn, Q.gN, Q.gT, Q.gsNil, Q.gsCons, Q.iQ, Q.itD, Q.iEn, Q.itE, Q.rg1, Q.rg2, Q.oNone, Q.oSome, Q.tSlQ, Q.revD, Q.tOwnM, Q.appC, Q.popC, Q.extC, Q.ownL, Q.tRepL, Q.repC, Q.sSetIx, Q.ixOwn, Q.tLcQ, Q.noOwn, Q.rstQ, Q.wipeQ, Q.sDn, Q.sSetD, Q.tDgetN, Q.dOwn, Q.tTupRg, Q.sNever, Q.isB, Q.listD, Q.listC, Q.reprD, Q.Sl.isOwn, List.map_cons, List.map_nil, List.replicate_succ, List.replicate_zero, List.cons_append, List.nil_append, List.append_nil, List.getElem?_cons_zero, List.getElem?_cons_succ, List.set_cons_zero, List.set_cons_succ, List.getD_cons_zero, List.getD_cons_succ, List.filterMap_cons, List.filterMap_nil, List.all_cons, List.all_nil, Bool.and_true, Bool.true_and, Bool.not_true, Bool.not_false, Bool.not_eq_true, Bool.false_eq_true, Bool.and_self, if_true, if_false, true_and, and_true, ↓reduceIte, eqD, neD, sh_int, eqv_int, eqv_strs, sDraw, List.length_cons, List.length_nil, Nat.zero_add, Nat.reduceAdd, decide_true, eq_self]
      refine ⟨ds, one, _, rfl, hd, ho, c1, ?_⟩
      rw [c2]
      have e5 : decide (pos ds one < pos ds one + 1) = true := decide_eq_true (by omega)
      rw [e5]
      simp only [Q.addF, Q.mulF, Q.bandI, Q.iZip, Q.itZ, Q.slD, Q.enOf, Q.tV, Q.tK, Q.t2, Q.t1, Q.tB, Q.cI, Q.cIp, Q.addI, Q.subI, Q.mulI, Q.fdivI, Q.modI, Q.powI, Q.ltI, Q.leI, Q.gtI, Q.geI, Q.negI, Q.vAnd, Q.vOr, Q.vNot, Q.qAnd, Q.qOr, Q.qNot, Q.qIf, Q.chI, Q.tTupQ, Q.dNil, Q.dCons, Q.tLstQ, Q.tFz, Q.tCA, Q.lenD, Q.tupD, Q.isD, Q.isInt, Q.isBool, Q.isTup, Q.isStr, Q.isLst, Q.tLenN, Q.tIxN, Q.setQ, Q.aNil, Q.aD, Q.aK, Q.tCallQ, Q.tCallKQ, Q.pick, Q.sNil, Q.sSeq, Q.sRet, Q.sRetN, Q.sExpr, Q.sIf, Q.sSet, Q.sSetL, Q.sAsg, Q.sFor, Q.sPar2, Q.sPar3, Q.pNil, Q.pD, Q.pO, Q.pDn, Q.gN, Q.gT, Q.gsNil, Q.gsCons, Q.iQ, Q.itD, Q.iEn, Q.itE, Q.rg1, Q.rg2, Q.oNone, Q.oSome, Q.tSlQ, Q.revD, Q.tOwnM, Q.appC, Q.popC, Q.extC, Q.ownL, Q.tRepL, Q.repC, Q.sSetIx, Q.ixOwn, Q.tLcQ, Q.noOwn, Q.rstQ, Q.wipeQ, Q.sDn, Q.sSetD, Q.tDgetN, Q.dOwn, Q.tTupRg, Q.sNever, Q.isB, Q.listD, Q.listC, Q.reprD, Q.Sl.isOwn, List.map_cons, List.map_nil, List.replicate_succ, List.replicate_zero, List.cons_append, List.nil_append, List.append_nil, List.getElem?_cons_zero, List.getElem?_cons_succ, List.set_cons_zero, List.set_cons_succ, List.getD_cons_zero, List.getD_cons_succ, List.filterMap_cons, List.filterMap_nil, List.all_cons, List.all_nil, Bool.and_true, Bool.true_and, Bool.not_true, Bool.not_false, Bool.not_eq_true, Bool.false_eq_true, Bool.and_self, if_true, if_false, true_and, and_true, ↓reduceIte, eqD, neD, sh_int, eqv_int, eqv_strs, sDraw, List.length_cons, List.length_nil, Nat.zero_add, Nat.reduceAdd, decide_true, eq_self]
      exact h _ _ _ _ _
    · have e4 : decide (pos ds one + 1 < many ds) = false := decide_eq_false hm
      rw [e4]
      simp only [Q.addF, Q.mulF, Q.bandI, Q.iZip, Q.itZ, Q.slD, Q.enOf, Q.tV, Q.tK, Q.t2, Q.t1, Q.tB, Q.cI, Q.cIp, Q.addI, Q.subI, Q.mulI, Q.fdivI, Q.modI, Q.powI, Q.ltI, Q.leI, Q.gtI, Q.geI, Q.negI, Q.vAnd, Q.vOr, Q.vNot, Q.qAnd, Q.qOr, Q.qNot, Q.qIf, Q.chI, Q.tTupQ, Q.dNil, Q.dCons, Q.tLstQ, Q.tFz, Q.tCA, Q.lenD, Q.tupD, Q.isD, Q.isInt, Q.isBool, Q.isTup, Q.isStr, Q.isLst, Q.tLenN, Q.tIxN, Q.setQ, Q.aNil, Q.aD, Q.aK, Q.tCallQ, Q.tCallKQ, Q.pick, Q.sNil, Q.sSeq, Q.sRet, Q.sRetN, Q.sExpr, Q.sIf, Q.sSet, Q.sSetL, Q.sAsg, Q.sFor, Q.sPar2, Q.sPar3, Q.pNil, Q.pD, Q.pO, Q.pDn, Q.gN, Q.gT, Q.gsNil, Q.gsCons, Q.iQ, Q.itD, Q.iEn, Q.itE, Q.rg1, Q.rg2, Q.oNone, Q.oSome, Q.tSlQ, Q.revD, Q.tOwnM, Q.appC, Q.popC, Q.extC, Q.ownL, Q.tRepL, Q.repC, Q.sSetIx, Q.ixOwn, Q.tLcQ, Q.noOwn, Q.rstQ, Q.wipeQ, Q.sDn, Q.sSetD, Q.tDgetN, Q.dOwn, Q.tTupRg, Q.sNever, Q.isB, Q.listD, Q.listC, Q.reprD, Q.Sl.isOwn, List.map_cons, List.map_nil, List.replicate_succ, List.replicate_zero, List.cons_append, List.nil_append, List.append_nil, List.getElem?_cons_zero, List.getElem?_cons_succ, List.set_cons_zero, List.set_cons_succ, List.getD_cons_zero, List.getD_cons_succ, List.filterMap_cons, List.filterMap_nil, List.all_cons, List.all_nil, Bool.and_true, Bool.true_and, Bool.not_true, Bool.not_false, Bool.not_eq_true, Bool.false_eq_true, Bool.and_self, if_true, if_false, true_and, and_true, ↓reduceIte, eqD, neD, sh_int, eqv_int, eqv_strs, sDraw, List.length_cons, List.length_nil, Nat.zero_add, Nat.reduceAdd, decide_true, eq_self]
      exact h _ _ _ _ _
  cases e : decide (w = 0) with
  | true =>
    simp only [Q.addF, Q.mulF, Q.bandI, Q.iZip, Q.itZ, Q.slD, Q.enOf, Q.tV, Q.tK, Q.t2, Q.t1, Q.tB, Q.cI, Q.cIp, Q.addI, Q.subI, Q.mulI, Q.fdivI, Q.modI, Q.powI, Q.ltI, Q.leI, Q.gtI, Q.geI, Q.negI, Q.vAnd, Q.vOr, Q.vNot, Q.qAnd, Q.qOr, Q.qNot, Q.qIf, Q.chI, Q.tTupQ, Q.dNil, Q.dCons, Q.tLstQ, Q.tFz, Q.tCA, Q.lenD, Q.tupD, Q.isD, Q.isInt, Q.isBool, Q.isTup, Q.isStr, Q.isLst, Q.tLenN, Q.tIxN, Q.setQ, Q.aNil, Q.aD, Q.aK, Q.tCallQ, Q.tCallKQ, Q.pick, Q.sNil, Q.sSeq, Q.sRet, Q.sRetN, Q.sExpr, Q.sIf, Q.sSet, Q.sSetL, Q.sAsg, Q.sFor, Q.sPar2, Q.sPar3, Q.pNil, Q.pD, Q.pO, Q.pDn, Q.gN, Q.gT, Q.gsNil, Q.gsCons, Q.iQ, Q.itD, Q.iEn, Q.itE, Q.rg1, Q.rg2, Q.oNone, Q.oSome, Q.tSlQ, Q.revD, Q.tOwnM, Q.appC, Q.popC, Q.extC, Q.ownL, Q.tRepL, Q.repC, Q.sSetIx, Q.ixOwn, Q.tLcQ, Q.noOwn, Q.rstQ, Q.wipeQ, Q.sDn, Q.sSetD, Q.tDgetN, Q.dOwn, Q.tTupRg, Q.sNever, Q.isB, Q.listD, Q.listC, Q.reprD, Q.Sl.isOwn, List.map_cons, List.map_nil, List.replicate_succ, List.replicate_zero, List.cons_append, List.nil_append, List.append_nil, List.getElem?_cons_zero, List.getElem?_cons_succ, List.set_cons_zero, List.set_cons_succ, List.getD_cons_zero, List.getD_cons_succ, List.filterMap_cons, List.filterMap_nil, List.all_cons, List.all_nil, Bool.and_true, Bool.true_and, Bool.not_true, Bool.not_false, Bool.not_eq_true, Bool.false_eq_true, Bool.and_self, if_true, if_false, true_and, and_true, ↓reduceIte, eqD, neD, sh_int, eqv_int, eqv_strs, sDraw, List.length_cons, List.length_nil, Nat.zero_add, Nat.reduceAdd, decide_true, eq_self]
    exact ⟨ds, one, rfl, hd, ho, fun c hc => next c hc⟩
  | false =>
    simp only [Q.addF, Q.mulF, Q.bandI, Q.iZip, Q.itZ, Q.slD, Q.enOf, Q.tV, Q.tK, Q.t2, Q.t1, Q.tB, Q.cI, Q.cIp, Q.addI, Q.subI, Q.mulI, Q.fdivI, Q.modI, Q.powI, Q.ltI, Q.leI, Q.gtI, Q.geI, Q.negI, Q.vAnd, Q.vOr, Q.vNot, Q.qAnd, Q.qOr, Q.qNot, Q.qIf, Q.chI, Q.tTupQ, Q.dNil, Q.dCons, Q.tLstQ, Q.tFz, Q.tCA, Q.lenD, Q.tupD, Q.isD, Q.isInt, Q.isBool, Q.isTup, Q.isStr, Q.isLst, Q.tLenN, Q.tIxN, Q.setQ, Q.aNil, Q.aD, Q.aK, Q.tCallQ, Q.tCallKQ, Q.pick, Q.sNil, Q.sSeq, Q.sRet, Q.sRetN, Q.sExpr, Q.sIf, Q.sSet, Q.sSetL, Q.sAsg, Q.sFor, Q.sPar2, Q.sPar3, Q.pNil, Q.pD, Q.pO, Q.pDn, Q.gN, Q.gT, Q.gsNil, Q.gsCons, Q.iQ, Q.itD, Q.iEn, Q.itE, Q.rg1, Q.rg2, Q.oNone, Q.oSome, Q.tSlQ, Q.revD, Q.tOwnM, Q.appC, Q.popC, Q.extC, Q.ownL, Q.tRepL, Q.repC, Q.sSetIx, Q.ixOwn, Q.tLcQ, Q.noOwn, Q.rstQ, Q.wipeQ, Q.sDn, Q.sSetD, Q.tDgetN, Q.dOwn, Q.tTupRg, Q.sNever, Q.isB, Q.listD, Q.listC, Q.reprD, Q.Sl.isOwn, List.map_cons, List.map_nil, List.replicate_succ, List.replicate_zero, List.cons_append, List.nil_append, List.append_nil, List.getElem?_cons_zero, List.getElem?_cons_succ, List.set_cons_zero, List.set_cons_succ, List.getD_cons_zero, List.getD_cons_succ, List.filterMap_cons, List.filterMap_nil, List.all_cons, List.all_nil, Bool.and_true, Bool.true_and, Bool.not_true, Bool.not_false, Bool.not_eq_true, Bool.false_eq_true, Bool.and_self, if_true, if_false, true_and, and_true, ↓reduceIte, eqD, neD, sh_int, eqv_int, eqv_strs, sDraw, List.length_cons, List.length_nil, Nat.zero_add, Nat.reduceAdd, decide_true, eq_self]
    exact ⟨ds, rfl, hd, fun c hc => next c hc⟩
theorem loop_in (R : EndsQ) (s2 : Sl) {ds : List Desk} (hd : T43.Dk ds) {first last : List Int} (hf : OkR ds first) (pf : pos ds first = 0) (hl : OkR ds last) (pl : pos ds last = many ds - 1) : ∀ (xs : List PyData) (s7 s8 s9 s10 s11 : Sl),
    (∀ s7 s8 s9 s10 s11, R.nx [.un, .dk, s2, .d (desksD ds), .d (.int (many ds)), .d (tupI first), .d (tupI last), s7, s8, s9, s10, s11]) →
    forQ (gN 7) cl0 R xs [.un, .dk, s2, .d (desksD ds), .d (.int (many ds)), .d (tupI first), .d (tupI last), s7, s8, s9, s10, s11]
  | [], s7, s8, s9, s10, s11, h => by simpa only [forQ] using h s7 s8 s9 s10 s11
  | x :: xs, s7, s8, s9, s10, s11, h => by
    simp only [forQ, gN]
    exact step_law _ s2 _ s8 s9 s10 s11 hd hf pf hl pl fun s7 s8 s9 s10 s11 => loop_in R s2 hd hf pf hl pl xs s7 s8 s9 s10 s11 h
theorem loop_out (R : EndsQ) : ∀ (xs : List PyData) (s2 s3 s4 s5 s6 s7 s8 s9 s10 s11 : Sl),
    (∀ s2 s3 s4 s5 s6 s7 s8 s9 s10 s11, R.nx [.un, .dk, s2, s3, s4, s5, s6, s7, s8, s9, s10, s11]) →
    forQ (gN 2) bl0 R xs [.un, .dk, s2, s3, s4, s5, s6, s7, s8, s9, s10, s11]
  | [], s2, s3, s4, s5, s6, s7, s8, s9, s10, s11, h => by simpa only [forQ] using h s2 s3 s4 s5 s6 s7 s8 s9 s10 s11
  | x :: xs, s2, s3, s4, s5, s6, s7, s8, s9, s10, s11, h => by
    simp only [forQ, gN]
    show sSeq _ bl1 _ _
    simp only [Q.addF, Q.mulF, Q.bandI, Q.iZip, Q.itZ, Q.slD, Q.enOf, Q.tV, Q.tK, Q.t2, Q.t1, Q.tB, Q.cI, Q.cIp, Q.addI, Q.subI, Q.mulI, Q.fdivI, Q.modI, Q.powI, Q.ltI, Q.leI, Q.gtI, Q.geI, Q.negI, Q.vAnd, Q.vOr, Q.vNot, Q.qAnd, Q.qOr, Q.qNot, Q.qIf, Q.chI, Q.tTupQ, Q.dNil, Q.dCons, Q.tLstQ, Q.tFz, Q.tCA, Q.lenD, Q.tupD, Q.isD, Q.isInt, Q.isBool, Q.isTup, Q.isStr, Q.isLst, Q.tLenN, Q.tIxN, Q.setQ, Q.aNil, Q.aD, Q.aK, Q.tCallQ, Q.tCallKQ, Q.pick, Q.sNil, Q.sSeq, Q.sRet, Q.sRetN, Q.sExpr, Q.sIf, Q.sSet, Q.sSetL, Q.sAsg, Q.sFor, Q.sPar2, Q.sPar3, Q.pNil, Q.pD, Q.pO, Q.pDn, Q.gN, Q.gT, Q.gsNil, Q.gsCons, Q.iQ, Q.itD, Q.iEn, Q.itE, Q.rg1, Q.rg2, Q.oNone, Q.oSome, Q.tSlQ, Q.revD, Q.tOwnM, Q.appC, Q.popC, Q.extC, Q.ownL, Q.tRepL, Q.repC, Q.sSetIx, Q.ixOwn, Q.tLcQ, Q.noOwn, Q.rstQ, Q.wipeQ, Q.sDn, Q.sSetD, Q.tDgetN, Q.dOwn, Q.tTupRg, Q.sNever, Q.isB, Q.listD, Q.listC, Q.reprD, Q.Sl.isOwn, List.map_cons, List.map_nil, List.replicate_succ, List.replicate_zero, List.cons_append, List.nil_append, List.append_nil, List.getElem?_cons_zero, List.getElem?_cons_succ, List.set_cons_zero, List.set_cons_succ, List.getD_cons_zero, List.getD_cons_succ, List.filterMap_cons, List.filterMap_nil, List.all_cons, List.all_nil, Bool.and_true, Bool.true_and, Bool.not_true, Bool.not_false, Bool.not_eq_true, Bool.false_eq_true, Bool.and_self, if_true, if_false, true_and, and_true, ↓reduceIte, eqD, neD, sh_int, eqv_int, eqv_strs, sDraw, List.length_cons, List.length_nil, Nat.zero_add, Nat.reduceAdd, decide_true, eq_self]
    refine ⟨⟨by decide, by decide, by decide⟩, _, rfl, fun ds hd => ?_⟩
    have mp := many_pos hd.ok.rev
    have mp : 1 ≤ many ds := mp
    show sSeq _ bl2 _ _
    simp only [Q.addF, Q.mulF, Q.bandI, Q.iZip, Q.itZ, Q.slD, Q.enOf, Q.tV, Q.tK, Q.t2, Q.t1, Q.tB, Q.cI, Q.cIp, Q.addI, Q.subI, Q.mulI, Q.fdivI, Q.modI, Q.powI, Q.ltI, Q.leI, Q.gtI, Q.geI, Q.negI, Q.vAnd, Q.vOr, Q.vNot, Q.qAnd, Q.qOr, Q.qNot, Q.qIf, Q.chI, Q.tTupQ, Q.dNil, Q.dCons, Q.tLstQ, Q.tFz, Q.tCA, Q.lenD, Q.tupD, Q.isD, Q.isInt, Q.isBool, Q.isTup, Q.isStr, Q.isLst, Q.tLenN, Q.tIxN, Q.setQ, Q.aNil, Q.aD, Q.aK, Q.tCallQ, Q.tCallKQ, Q.pick, Q.sNil, Q.sSeq, Q.sRet, Q.sRetN, Q.sExpr, Q.sIf, Q.sSet, Q.sSetL, Q.sAsg, Q.sFor, Q.sPar2, Q.sPar3, Q.pNil, Q.pD, Q.pO, Q.pDn, Q.gN, Q.gT, Q.gsNil, Q.gsCons, Q.iQ, Q.itD, Q.iEn, Q.itE, Q.rg1, Q.rg2, Q.oNone, Q.oSome, Q.tSlQ, Q.revD, Q.tOwnM, Q.appC, Q.popC, Q.extC, Q.ownL, Q.tRepL, Q.repC, Q.sSetIx, Q.ixOwn, Q.tLcQ, Q.noOwn, Q.rstQ, Q.wipeQ, Q.sDn, Q.sSetD, Q.tDgetN, Q.dOwn, Q.tTupRg, Q.sNever, Q.isB, Q.listD, Q.listC, Q.reprD, Q.Sl.isOwn, List.map_cons, List.map_nil, List.replicate_succ, List.replicate_zero, List.cons_append, List.nil_append, List.append_nil, List.getElem?_cons_zero, List.getElem?_cons_succ, List.set_cons_zero, List.set_cons_succ, List.getD_cons_zero, List.getD_cons_succ, List.filterMap_cons, List.filterMap_nil, List.all_cons, List.all_nil, Bool.and_true, Bool.true_and, Bool.not_true, Bool.not_false, Bool.not_eq_true, Bool.false_eq_true, Bool.and_self, if_true, if_false, true_and, and_true, ↓reduceIte, eqD, neD, sh_int, eqv_int, eqv_strs, sDraw, List.length_cons, List.length_nil, Nat.zero_add, Nat.reduceAdd, decide_true, eq_self]
    refine ⟨ds, rfl, hd, ?_⟩
    show sSeq _ bl3 _ _
    simp only [Q.addF, Q.mulF, Q.bandI, Q.iZip, Q.itZ, Q.slD, Q.enOf, Q.tV, Q.tK, Q.t2, Q.t1, Q.tB, Q.cI, Q.cIp, Q.addI, Q.subI, Q.mulI, Q.fdivI, Q.modI, Q.powI, Q.ltI, Q.leI, Q.gtI, Q.geI, Q.negI, Q.vAnd, Q.vOr, Q.vNot, Q.qAnd, Q.qOr, Q.qNot, Q.qIf, Q.chI, Q.tTupQ, Q.dNil, Q.dCons, Q.tLstQ, Q.tFz, Q.tCA, Q.lenD, Q.tupD, Q.isD, Q.isInt, Q.isBool, Q.isTup, Q.isStr, Q.isLst, Q.tLenN, Q.tIxN, Q.setQ, Q.aNil, Q.aD, Q.aK, Q.tCallQ, Q.tCallKQ, Q.pick, Q.sNil, Q.sSeq, Q.sRet, Q.sRetN, Q.sExpr, Q.sIf, Q.sSet, Q.sSetL, Q.sAsg, Q.sFor, Q.sPar2, Q.sPar3, Q.pNil, Q.pD, Q.pO, Q.pDn, Q.gN, Q.gT, Q.gsNil, Q.gsCons, Q.iQ, Q.itD, Q.iEn, Q.itE, Q.rg1, Q.rg2, Q.oNone, Q.oSome, Q.tSlQ, Q.revD, Q.tOwnM, Q.appC, Q.popC, Q.extC, Q.ownL, Q.tRepL, Q.repC, Q.sSetIx, Q.ixOwn, Q.tLcQ, Q.noOwn, Q.rstQ, Q.wipeQ, Q.sDn, Q.sSetD, Q.tDgetN, Q.dOwn, Q.tTupRg, Q.sNever, Q.isB, Q.listD, Q.listC, Q.reprD, Q.Sl.isOwn, List.map_cons, List.map_nil, List.replicate_succ, List.replicate_zero, List.cons_append, List.nil_append, List.append_nil, List.getElem?_cons_zero, List.getElem?_cons_succ, List.set_cons_zero, List.set_cons_succ, List.getD_cons_zero, List.getD_cons_succ, List.filterMap_cons, List.filterMap_nil, List.all_cons, List.all_nil, Bool.and_true, Bool.true_and, Bool.not_true, Bool.not_false, Bool.not_eq_true, Bool.false_eq_true, Bool.and_self, if_true, if_false, true_and, and_true, ↓reduceIte, eqD, neD, sh_int, eqv_int, eqv_strs, sDraw, List.length_cons, List.length_nil, Nat.zero_add, Nat.reduceAdd, decide_true, eq_self]
    refine ⟨ds, 0, rfl, hd, by decide, by omega, ?_⟩
    simp only [Q.addF, Q.mulF, Q.bandI, Q.iZip, Q.itZ, Q.slD, Q.enOf, Q.tV, Q.tK, Q.t2, Q.t1, Q.tB, Q.cI, Q.cIp, Q.addI, Q.subI, Q.mulI, Q.fdivI, Q.modI, Q.powI, Q.ltI, Q.leI, Q.gtI, Q.geI, Q.negI, Q.vAnd, Q.vOr, Q.vNot, Q.qAnd, Q.qOr, Q.qNot, Q.qIf, Q.chI, Q.tTupQ, Q.dNil, Q.dCons, Q.tLstQ, Q.tFz, Q.tCA, Q.lenD, Q.tupD, Q.isD, Q.isInt, Q.isBool, Q.isTup, Q.isStr, Q.isLst, Q.tLenN, Q.tIxN, Q.setQ, Q.aNil, Q.aD, Q.aK, Q.tCallQ, Q.tCallKQ, Q.pick, Q.sNil, Q.sSeq, Q.sRet, Q.sRetN, Q.sExpr, Q.sIf, Q.sSet, Q.sSetL, Q.sAsg, Q.sFor, Q.sPar2, Q.sPar3, Q.pNil, Q.pD, Q.pO, Q.pDn, Q.gN, Q.gT, Q.gsNil, Q.gsCons, Q.iQ, Q.itD, Q.iEn, Q.itE, Q.rg1, Q.rg2, Q.oNone, Q.oSome, Q.tSlQ, Q.revD, Q.tOwnM, Q.appC, Q.popC, Q.extC, Q.ownL, Q.tRepL, Q.repC, Q.sSetIx, Q.ixOwn, Q.tLcQ, Q.noOwn, Q.rstQ, Q.wipeQ, Q.sDn, Q.sSetD, Q.tDgetN, Q.dOwn, Q.tTupRg, Q.sNever, Q.isB, Q.listD, Q.listC, Q.reprD, Q.Sl.isOwn, List.map_cons, List.map_nil, List.replicate_succ, List.replicate_zero, List.cons_append, List.nil_append, List.append_nil, List.getElem?_cons_zero, List.getElem?_cons_succ, List.set_cons_zero, List.set_cons_succ, List.getD_cons_zero, List.getD_cons_succ, List.filterMap_cons, List.filterMap_nil, List.all_cons, List.all_nil, Bool.and_true, Bool.true_and, Bool.not_true, Bool.not_false, Bool.not_eq_true, Bool.false_eq_true, Bool.and_self, if_true, if_false, true_and, and_true, ↓reduceIte, eqD, neD, sh_int, eqv_int, eqv_strs, sDraw, List.length_cons, List.length_nil, Nat.zero_add, Nat.reduceAdd, decide_true, eq_self]
    refine ⟨ds, many ds - 1, rfl, hd, by omega, by omega, ?_⟩
    obtain ⟨f1, f2⟩ := code_at_ok hd (n := 0) (by decide) (by omega)
    obtain ⟨l1, l2⟩ := code_at_ok hd (n := many ds - 1) (by omega) (by omega)
    show sSeq _ bl4 _ _
    simp only [Q.addF, Q.mulF, Q.bandI, Q.iZip, Q.itZ, Q.slD, Q.enOf, Q.tV, Q.tK, Q.t2, Q.t1, Q.tB, Q.cI, Q.cIp, Q.addI, Q.subI, Q.mulI, Q.fdivI, Q.modI, Q.powI, Q.ltI, Q.leI, Q.gtI, Q.geI, Q.negI, Q.vAnd, Q.vOr, Q.vNot, Q.qAnd, Q.qOr, Q.qNot, Q.qIf, Q.chI, Q.tTupQ, Q.dNil, Q.dCons, Q.tLstQ, Q.tFz, Q.tCA, Q.lenD, Q.tupD, Q.isD, Q.isInt, Q.isBool, Q.isTup, Q.isStr, Q.isLst, Q.tLenN, Q.tIxN, Q.setQ, Q.aNil, Q.aD, Q.aK, Q.tCallQ, Q.tCallKQ, Q.pick, Q.sNil, Q.sSeq, Q.sRet, Q.sRetN, Q.sExpr, Q.sIf, Q.sSet, Q.sSetL, Q.sAsg, Q.sFor, Q.sPar2, Q.sPar3, Q.pNil, Q.pD, Q.pO, Q.pDn, Q.gN, Q.gT, Q.gsNil, Q.gsCons, Q.iQ, Q.itD, Q.iEn, Q.itE, Q.rg1, Q.rg2, Q.oNone, Q.oSome, Q.tSlQ, Q.revD, Q.tOwnM, Q.appC, Q.popC, Q.extC, Q.ownL, Q.tRepL, Q.repC, Q.sSetIx, Q.ixOwn, Q.tLcQ, Q.noOwn, Q.rstQ, Q.wipeQ, Q.sDn, Q.sSetD, Q.tDgetN, Q.dOwn, Q.tTupRg, Q.sNever, Q.isB, Q.listD, Q.listC, Q.reprD, Q.Sl.isOwn, List.map_cons, List.map_nil, List.replicate_succ, List.replicate_zero, List.cons_append, List.nil_append, List.append_nil, List.getElem?_cons_zero, List.getElem?_cons_succ, List.set_cons_zero, List.set_cons_succ, List.getD_cons_zero, List.getD_cons_succ, List.filterMap_cons, List.filterMap_nil, List.all_cons, List.all_nil, Bool.and_true, Bool.true_and, Bool.not_true, Bool.not_false, Bool.not_eq_true, Bool.false_eq_true, Bool.and_self, if_true, if_false, true_and, and_true, ↓reduceIte, eqD, neD, sh_int, eqv_int, eqv_strs, sDraw, List.length_cons, List.length_nil, Nat.zero_add, Nat.reduceAdd, decide_true, eq_self]
    refine ⟨ds, _, rfl, hd, f1, ?_⟩
    rw [f2]
    simp only [Q.addF, Q.mulF, Q.bandI, Q.iZip, Q.itZ, Q.slD, Q.enOf, Q.tV, Q.tK, Q.t2, Q.t1, Q.tB, Q.cI, Q.cIp, Q.addI, Q.subI, Q.mulI, Q.fdivI, Q.modI, Q.powI, Q.ltI, Q.leI, Q.gtI, Q.geI, Q.negI, Q.vAnd, Q.vOr, Q.vNot, Q.qAnd, Q.qOr, Q.qNot, Q.qIf, Q.chI, Q.tTupQ, Q.dNil, Q.dCons, Q.tLstQ, Q.tFz, Q.tCA, Q.lenD, Q.tupD, Q.isD, Q.isInt, Q.isBool, Q.isTup, Q.isStr, Q.isLst, Q.tLenN, Q.tIxN, Q.setQ, Q.aNil, Q.aD, Q.aK, Q.tCallQ, Q.tCallKQ, Q.pick, Q.sNil, Q.sSeq, Q.sRet, Q.sRetN, Q.sExpr, Q.sIf, Q.sSet, Q.sSetL, Q.sAsg, Q.sFor, Q.sPar2, Q.sPar3, Q.pNil, Q.pD, Q.pO, Q.pDn, Q.gN, Q.gT, Q.gsNil, Q.gsCons, Q.iQ, Q.itD, Q.iEn, Q.itE, Q.rg1, Q.rg2, Q.oNone, Q.oSome, Q.tSlQ, Q.revD, Q.tOwnM, Q.appC, Q.popC, Q.extC, Q.ownL, Q.tRepL, Q.repC, Q.sSetIx, Q.ixOwn, Q.tLcQ, Q.noOwn, Q.rstQ, Q.wipeQ, Q.sDn, Q.sSetD, Q.tDgetN, Q.dOwn, Q.tTupRg, Q.sNever, Q.isB, Q.listD, Q.listC, Q.reprD, Q.Sl.isOwn, List.map_cons, List.map_nil, List.replicate_succ, List.replicate_zero, List.cons_append, List.nil_append, List.append_nil, List.getElem?_cons_zero, List.getElem?_cons_succ, List.set_cons_zero, List.set_cons_succ, List.getD_cons_zero, List.getD_cons_succ, List.filterMap_cons, List.filterMap_nil, List.all_cons, List.all_nil, Bool.and_true, Bool.true_and, Bool.not_true, Bool.not_false, Bool.not_eq_true, Bool.false_eq_true, Bool.and_self, if_true, if_false, true_and, and_true, ↓reduceIte, eqD, neD, sh_int, eqv_int, eqv_strs, sDraw, List.length_cons, List.length_nil, Nat.zero_add, Nat.reduceAdd, decide_true, eq_self]
    refine ⟨ds, _, rfl, hd, l1, ?_⟩
    rw [l2]
    simp only [Q.addF, Q.mulF, Q.bandI, Q.iZip, Q.itZ, Q.slD, Q.enOf, Q.tV, Q.tK, Q.t2, Q.t1, Q.tB, Q.cI, Q.cIp, Q.addI, Q.subI, Q.mulI, Q.fdivI, Q.modI, Q.powI, Q.ltI, Q.leI, Q.gtI, Q.geI, Q.negI, Q.vAnd, Q.vOr, Q.vNot, Q.qAnd, Q.qOr, Q.qNot, Q.qIf, Q.chI, Q.tTupQ, Q.dNil, Q.dCons, Q.tLstQ, Q.tFz, Q.tCA, Q.lenD, Q.tupD, Q.isD, Q.isInt, Q.isBool, Q.isTup, Q.isStr, Q.isLst, Q.tLenN, Q.tIxN, Q.setQ, Q.aNil, Q.aD, Q.aK, Q.tCallQ, Q.tCallKQ, Q.pick, Q.sNil, Q.sSeq, Q.sRet, Q.sRetN, Q.sExpr, Q.sIf, Q.sSet, Q.sSetL, Q.sAsg, Q.sFor, Q.sPar2, Q.sPar3, Q.pNil, Q.pD, Q.pO, Q.pDn, Q.gN, Q.gT, Q.gsNil, Q.gsCons, Q.iQ, Q.itD, Q.iEn, Q.itE, Q.rg1, Q.rg2, Q.oNone, Q.oSome, Q.tSlQ, Q.revD, Q.tOwnM, Q.appC, Q.popC, Q.extC, Q.ownL, Q.tRepL, Q.repC, Q.sSetIx, Q.ixOwn, Q.tLcQ, Q.noOwn, Q.rstQ, Q.wipeQ, Q.sDn, Q.sSetD, Q.tDgetN, Q.dOwn, Q.tTupRg, Q.sNever, Q.isB, Q.listD, Q.listC, Q.reprD, Q.Sl.isOwn, List.map_cons, List.map_nil, List.replicate_succ, List.replicate_zero, List.cons_append, List.nil_append, List.append_nil, List.getElem?_cons_zero, List.getElem?_cons_succ, List.set_cons_zero, List.set_cons_succ, List.getD_cons_zero, List.getD_cons_succ, List.filterMap_cons, List.filterMap_nil, List.all_cons, List.all_nil, Bool.and_true, Bool.true_and, Bool.not_true, Bool.not_false, Bool.not_eq_true, Bool.false_eq_true, Bool.and_self, if_true, if_false, true_and, and_true, ↓reduceIte, eqD, neD, sh_int, eqv_int, eqv_strs, sDraw, List.length_cons, List.length_nil, Nat.zero_add, Nat.reduceAdd, decide_true, eq_self]
    show sFor _ (gN 7) cl0 _ _
    simp only [sFor, rg1, tK]
    refine ⟨by decide, by decide, ?_⟩
    exact loop_in _ _ hd f1 f2 l1 l2 _ _ _ _ _ _ fun s7 s8 s9 s10 s11 => loop_out R xs _ _ _ _ _ s7 s8 s9 s10 s11 h
theorem rd_law : t_law sp__law_desks sp_codes_number sp_code_at sp_position_of sp__law_code sDraw sp__law_near sp__law_are_right sp_is_ahead sp__law_is_code { nx := fun _ => False, rt := fun y => y = .bool true } (.un :: .dk :: List.replicate 10 .un) := by
  show (sSeq (sFor (rg1 (tK (.int 3))) (gN 2) bl0) _) _ _
  simp only [Q.addF, Q.mulF, Q.bandI, Q.iZip, Q.itZ, Q.slD, Q.enOf, Q.tV, Q.tK, Q.t2, Q.t1, Q.tB, Q.cI, Q.cIp, Q.addI, Q.subI, Q.mulI, Q.fdivI, Q.modI, Q.powI, Q.ltI, Q.leI, Q.gtI, Q.geI, Q.negI, Q.vAnd, Q.vOr, Q.vNot, Q.qAnd, Q.qOr, Q.qNot, Q.qIf, Q.chI, Q.tTupQ, Q.dNil, Q.dCons, Q.tLstQ, Q.tFz, Q.tCA, Q.lenD, Q.tupD, Q.isD, Q.isInt, Q.isBool, Q.isTup, Q.isStr, Q.isLst, Q.tLenN, Q.tIxN, Q.setQ, Q.aNil, Q.aD, Q.aK, Q.tCallQ, Q.tCallKQ, Q.pick, Q.sNil, Q.sSeq, Q.sRet, Q.sRetN, Q.sExpr, Q.sIf, Q.sSet, Q.sSetL, Q.sAsg, Q.sFor, Q.sPar2, Q.sPar3, Q.pNil, Q.pD, Q.pO, Q.pDn, Q.gN, Q.gT, Q.gsNil, Q.gsCons, Q.iQ, Q.itD, Q.iEn, Q.itE, Q.rg1, Q.rg2, Q.oNone, Q.oSome, Q.tSlQ, Q.revD, Q.tOwnM, Q.appC, Q.popC, Q.extC, Q.ownL, Q.tRepL, Q.repC, Q.sSetIx, Q.ixOwn, Q.tLcQ, Q.noOwn, Q.rstQ, Q.wipeQ, Q.sDn, Q.sSetD, Q.tDgetN, Q.dOwn, Q.tTupRg, Q.sNever, Q.isB, Q.listD, Q.listC, Q.reprD, Q.Sl.isOwn, List.map_cons, List.map_nil, List.replicate_succ, List.replicate_zero, List.cons_append, List.nil_append, List.append_nil, List.getElem?_cons_zero, List.getElem?_cons_succ, List.set_cons_zero, List.set_cons_succ, List.getD_cons_zero, List.getD_cons_succ, List.filterMap_cons, List.filterMap_nil, List.all_cons, List.all_nil, Bool.and_true, Bool.true_and, Bool.not_true, Bool.not_false, Bool.not_eq_true, Bool.false_eq_true, Bool.and_self, if_true, if_false, true_and, and_true, ↓reduceIte, eqD, neD, sh_int, eqv_int, eqv_strs, sDraw, List.length_cons, List.length_nil, Nat.zero_add, Nat.reduceAdd, decide_true, eq_self]
  refine ⟨by decide, by decide, ?_⟩
  exact loop_out _ _ .un .un .un .un .un .un .un .un .un .un fun s2 s3 s4 s5 s6 s7 s8 s9 s10 s11 => by show PyData.bool true = PyData.bool true; rfl
end T43
end P24
section P25
open PySem PySem.Spec PyProof.Rows L2 HT Q
namespace T43
section
variable {P : Program} {w : World} {K : PySem.W.Frag} {mg : Str → Option Value} {base : Heap}
theorem dv_law (T : Txt K mg) {f__law_deck : Addr} {fd__law_deck : FuncData} (A__law_deck : At K mg "_law_deck" ["_law_script", "_law_law_number"] (top 30) f__law_deck fd__law_deck) (G__law_deck : FnOk P w K mg base CX0 1 f__law_deck fd__law_deck ["_law_script", "_law_law_number"] (spDeck2 K))
    {f__law_desks : Addr} {fd__law_desks : FuncData} {S__law_desks : PSpec} (A__law_desks : At K mg "_law_desks" ["_law_deck_here", "_law_many", "_law_limit"] (top 35) f__law_desks fd__law_desks) (G__law_desks : FnG P w K mg base 3 f__law_desks fd__law_desks ["_law_deck_here", "_law_many", "_law_limit"] S__law_desks)
    {f_codes_number : Addr} {fd_codes_number : FuncData} {S_codes_number : PSpec} (A_codes_number : At K mg "codes_number" ["desks"] (top 26) f_codes_number fd_codes_number) (G_codes_number : FnG P w K mg base 4 f_codes_number fd_codes_number ["desks"] S_codes_number)
    {f_code_at : Addr} {fd_code_at : FuncData} {S_code_at : PSpec} (A_code_at : At K mg "code_at" ["desks", "n"] (top 27) f_code_at fd_code_at) (G_code_at : FnG P w K mg base 4 f_code_at fd_code_at ["desks", "n"] S_code_at)
    {f_position_of : Addr} {fd_position_of : FuncData} {S_position_of : PSpec} (A_position_of : At K mg "position_of" ["desks", "code"] (top 28) f_position_of fd_position_of) (G_position_of : FnG P w K mg base 5 f_position_of fd_position_of ["desks", "code"] S_position_of)
    {f__law_code : Addr} {fd__law_code : FuncData} {S__law_code : PSpec} (A__law_code : At K mg "_law_code" ["_law_deck_here", "_law_desks_here"] (top 36) f__law_code fd__law_code) (G__law_code : FnG P w K mg base 2 f__law_code fd__law_code ["_law_deck_here", "_law_desks_here"] S__law_code)
    {f__law_draw : Addr} {fd__law_draw : FuncData} {S__law_draw : PSpec} (A__law_draw : At K mg "_law_draw" ["_law_deck_here", "_law_below"] (top 31) f__law_draw fd__law_draw) (G__law_draw : FnG P w K mg base 1 f__law_draw fd__law_draw ["_law_deck_here", "_law_below"] S__law_draw)
    {f__law_near : Addr} {fd__law_near : FuncData} {S__law_near : PSpec} (A__law_near : At K mg "_law_near" ["_law_deck_here", "_law_desks_here", "_law_code_here"] (top 41) f__law_near fd__law_near) (G__law_near : FnG P w K mg base 2 f__law_near fd__law_near ["_law_deck_here", "_law_desks_here", "_law_code_here"] S__law_near)
    {f__law_are_right : Addr} {fd__law_are_right : FuncData} {S__law_are_right : PSpec} (A__law_are_right : At K mg "_law_are_right" ["_law_desks_here", "_law_one", "_law_other"] (top 42) f__law_are_right fd__law_are_right) (G__law_are_right : FnG P w K mg base 6 f__law_are_right fd__law_are_right ["_law_desks_here", "_law_one", "_law_other"] S__law_are_right)
    {f_is_ahead : Addr} {fd_is_ahead : FuncData} {S_is_ahead : PSpec} (A_is_ahead : At K mg "is_ahead" ["desks", "one", "other"] (top 25) f_is_ahead fd_is_ahead) (G_is_ahead : FnG P w K mg base 5 f_is_ahead fd_is_ahead ["desks", "one", "other"] S_is_ahead)
    {f__law_is_code : Addr} {fd__law_is_code : FuncData} {S__law_is_code : PSpec} (A__law_is_code : At K mg "_law_is_code" ["_law_desks_here", "_law_thing"] (top 39) f__law_is_code fd__law_is_code) (G__law_is_code : FnG P w K mg base 2 f__law_is_code fd__law_is_code ["_law_desks_here", "_law_thing"] S__law_is_code)
    {f : Addr} {fd : FuncData} (F : Fun K "law" "law" (top 43) f fd)
    (hread : (t_law S__law_desks S_codes_number S_code_at S_position_of S__law_code S__law_draw S__law_near S__law_are_right S_is_ahead S__law_is_code) { nx := fun _ => False, rt := fun y => y = .bool true } (.un :: .dk :: List.replicate 10 .un)) : LawOk P w K mg base 7 f fd "_law_script" :=
  LawOk.of F sc_law (t := t_law S__law_desks S_codes_number S_code_at S_position_of S__law_code S__law_draw S__law_near S__law_are_right S_is_ahead S__law_is_code) rfl rfl (fun cdv A outer s H hG hr => deck2_ps (ps_set (i := 1) sc_law.nd rfl (Or.inl rfl) (pe_call G__law_deck (hr.mono (by decide)) (by rfl) A__law_deck.m A__law_deck.F.kp A__law_deck.b .nil pass0 (pa_cons (pv 0) (pa_cons pe_int pa_nil))))) (fun cdv A outer s H hG hr => by
    have hu := hr.units
    exact (qss_cons (qs_for PassesOwn.never rfl (qi_range1 (by rfl) T.b_range q_int) (qg_name 2 sc_law.nd) (qss_cons (qs_set 3 sc_law.nd (q_call G__law_desks hG (hr.mono (by decide)) (by rfl) A__law_desks.m A__law_desks.F.kp A__law_desks.b (qa_k 1 (qa_d q_int (qa_d (q_pow q_int q_int) qa_nil)))))
      (qss_cons (qs_set 4 sc_law.nd (q_call G_codes_number hG (hr.mono (by decide)) (by rfl) A_codes_number.m A_codes_number.F.kp A_codes_number.b (qa_d (qv 3) qa_nil)))
      (qss_cons (qs_par2 5 6 rfl sc_law.nd (qp_d (q_call G_code_at hG (hr.mono (by decide)) (by rfl) A_code_at.m A_code_at.F.kp A_code_at.b (qa_d (qv 3) (qa_d q_int qa_nil))) (qp_d (q_callK0 G_code_at hG (hr.mono (by decide)) (by rfl) A_code_at.m A_code_at.F.kp (kw_code_at_0_n_desks A_code_at.F) (qk_d (q_sub (qv 4) q_int) (qk_d (qv 3) qk_nil))) qp_nil)))
      (qss_cons (qs_if (QW.qt (qw_or (q_tne hu (q_call G_position_of hG (hr.mono (by decide)) (by rfl) A_position_of.m A_position_of.F.kp A_position_of.b (qa_d (qv 3) (qa_d (qv 5) qa_nil))) q_int) (qw_or1 (q_tne hu (q_call G_position_of hG (hr.mono (by decide)) (by rfl) A_position_of.m A_position_of.F.kp A_position_of.b (qa_d (qv 3) (qa_d (qv 6) qa_nil))) (q_sub (qv 4) q_int))))) (qss_one (qs_ret q_bl)) qss_nil)
      (qss_one (qs_for PassesOwn.never rfl (qi_range1 (by rfl) T.b_range q_int) (qg_name 7 sc_law.nd) (qss_cons (qs_set 8 sc_law.nd (q_call G__law_code hG (hr.mono (by decide)) (by rfl) A__law_code.m A__law_code.F.kp A__law_code.b (qa_k 1 (qa_d (qv 3) qa_nil))))
      (qss_cons (qs_set 9 sc_law.nd (q_ifExp (q_teq hu (q_call G__law_draw hG (hr.mono (by decide)) (by rfl) A__law_draw.m A__law_draw.F.kp A__law_draw.b (qa_k 1 (qa_d q_int qa_nil))) q_int) (q_call G__law_near hG (hr.mono (by decide)) (by rfl) A__law_near.m A__law_near.F.kp A__law_near.b (qa_k 1 (qa_d (qv 3) (qa_d (qv 8) qa_nil)))) (q_call G__law_code hG (hr.mono (by decide)) (by rfl) A__law_code.m A__law_code.F.kp A__law_code.b (qa_k 1 (qa_d (qv 3) qa_nil)))))
      (qss_cons (qs_if (QW.qt (qw_or (qt_not (q_tst (q_call G__law_are_right hG (hr.mono (by decide)) (by rfl) A__law_are_right.m A__law_are_right.F.kp A__law_are_right.b (qa_d (qv 3) (qa_d (qv 8) (qa_d (qv 9) qa_nil)))))) (qw_or1 (qt_not (q_tst (q_call G__law_are_right hG (hr.mono (by decide)) (by rfl) A__law_are_right.m A__law_are_right.F.kp A__law_are_right.b (qa_d (qv 3) (qa_d (qv 5) (qa_d (qv 8) qa_nil))))))))) (qss_one (qs_ret q_bl)) qss_nil)
      (qss_cons (qs_if (QW.qt (qw_or (q_tisnB (q_call G_is_ahead hG (hr.mono (by decide)) (by rfl) A_is_ahead.m A_is_ahead.F.kp A_is_ahead.b (qa_d (qv 3) (qa_d (qv 8) (qa_d (qv 5) qa_nil)))) q_bl) (qw_or1 (q_tisnB (q_call G_is_ahead hG (hr.mono (by decide)) (by rfl) A_is_ahead.m A_is_ahead.F.kp A_is_ahead.b (qa_d (qv 3) (qa_d (qv 6) (qa_d (qv 9) qa_nil)))) q_bl)))) (qss_one (qs_ret q_bl)) qss_nil)
      (qss_cons (qs_set 10 sc_law.nd (q_call G_position_of hG (hr.mono (by decide)) (by rfl) A_position_of.m A_position_of.F.kp A_position_of.b (qa_d (qv 3) (qa_d (qv 8) qa_nil))))
      (qss_cons (qs_if (QW.qt (qw_or (q_tne hu (q_repr hG hu (by rfl) T.b_repr (q_call G_code_at hG (hr.mono (by decide)) (by rfl) A_code_at.m A_code_at.F.kp A_code_at.b (qa_d (qv 3) (qa_d (qv 10) qa_nil)))) (q_repr hG hu (by rfl) T.b_repr (qv 8))) (qw_or1 (q_tisnB (q_call G_is_ahead hG (hr.mono (by decide)) (by rfl) A_is_ahead.m A_is_ahead.F.kp A_is_ahead.b (qa_d (qv 3) (qa_d (qv 8) (qa_d (qv 8) qa_nil)))) q_bl)))) (qss_one (qs_ret q_bl)) qss_nil)
      (qss_one (qs_if (q_tlt (q_addF (qv 10) q_int) (qv 4)) (qss_cons (qs_set 11 sc_law.nd (q_call G_code_at hG (hr.mono (by decide)) (by rfl) A_code_at.m A_code_at.F.kp A_code_at.b (qa_d (qv 3) (qa_d (q_addF (qv 10) q_int) qa_nil))))
      (qss_cons (qs_if (QW.qt (qw_or (qt_not (q_tst (q_call G__law_is_code hG (hr.mono (by decide)) (by rfl) A__law_is_code.m A__law_is_code.F.kp A__law_is_code.b (qa_d (qv 3) (qa_d (qv 11) qa_nil))))) (qw_or1 (qt_not (q_tst (q_call G__law_are_right hG (hr.mono (by decide)) (by rfl) A__law_are_right.m A__law_are_right.F.kp A__law_are_right.b (qa_d (qv 3) (qa_d (qv 8) (qa_d (qv 11) qa_nil))))))))) (qss_one (qs_ret q_bl)) qss_nil)
      (qss_one (qs_if (q_tisnB (q_call G_is_ahead hG (hr.mono (by decide)) (by rfl) A_is_ahead.m A_is_ahead.F.kp A_is_ahead.b (qa_d (qv 3) (qa_d (qv 8) (qa_d (qv 11) qa_nil)))) q_bl) (qss_one (qs_ret q_bl)) qss_nil)))) qss_nil)))))))))))))))
      (qss_one (qs_ret q_bl)))) hread
end
end T43
end P25
section P26
open PySem PySem.Spec PyProof.Rows L2 HT Q
namespace T43
theorem all_mk {l : PySem.W.OpenLaw} {w : World} {K : PySem.W.Frag} {h : Heap} {mg : Str → Option Value} {fa : Addr} (X : K.In h) (G : h.Ns mainGlobals mg) (hfa : mg "law" = some (.ref fa))
    {f0 : Addr} {od0 an0 : Option Addr} {sl0 : Array (Option Value)} {oc0 kV0 dc0 pm0 cd0 ct0 : Value}
    (a0 : PySem.W.nsIn K mainGlobals "is_integer" = some (some (.ref f0))) (l0 : K.lookup f0 = some ⟨oc0, od0, .func (PySem.W.fnOf "is_integer" "is_integer" (defArgs (top 3)) (defBody (top 3)) (defScope (top 3)) .none kV0 dc0 pm0 an0 cd0 ct0), sl0⟩) (c0 : PySem.W.codeIn K cd0 "is_integer" = true) (k0 : PySem.W.keepIn K (.ref f0) = true)
    {f1 : Addr} {od1 an1 : Option Addr} {sl1 : Array (Option Value)} {oc1 kV1 dc1 pm1 cd1 ct1 : Value}
    (a1 : PySem.W.nsIn K mainGlobals "is_between" = some (some (.ref f1))) (l1 : K.lookup f1 = some ⟨oc1, od1, .func (PySem.W.fnOf "is_between" "is_between" (defArgs (top 4)) (defBody (top 4)) (defScope (top 4)) .none kV1 dc1 pm1 an1 cd1 ct1), sl1⟩) (c1 : PySem.W.codeIn K cd1 "is_between" = true) (k1 : PySem.W.keepIn K (.ref f1) = true)
    {f2 : Addr} {od2 an2 : Option Addr} {sl2 : Array (Option Value)} {oc2 kV2 dc2 pm2 cd2 ct2 : Value}
    (a2 : PySem.W.nsIn K mainGlobals "is_desk_value" = some (some (.ref f2))) (l2 : K.lookup f2 = some ⟨oc2, od2, .func (PySem.W.fnOf "is_desk_value" "is_desk_value" (defArgs (top 5)) (defBody (top 5)) (defScope (top 5)) .none kV2 dc2 pm2 an2 cd2 ct2), sl2⟩) (c2 : PySem.W.codeIn K cd2 "is_desk_value" = true) (k2 : PySem.W.keepIn K (.ref f2) = true)
    {f3 : Addr} {od3 an3 : Option Addr} {sl3 : Array (Option Value)} {oc3 kV3 dc3 pm3 cd3 ct3 : Value}
    (a3 : PySem.W.nsIn K mainGlobals "sign_of_place" = some (some (.ref f3))) (l3 : K.lookup f3 = some ⟨oc3, od3, .func (PySem.W.fnOf "sign_of_place" "sign_of_place" (defArgs (top 12)) (defBody (top 12)) (defScope (top 12)) .none kV3 dc3 pm3 an3 cd3 ct3), sl3⟩) (c3 : PySem.W.codeIn K cd3 "sign_of_place" = true) (k3 : PySem.W.keepIn K (.ref f3) = true)
    {f4 : Addr} {od4 an4 : Option Addr} {sl4 : Array (Option Value)} {oc4 kV4 dc4 pm4 cd4 ct4 : Value}
    (a4 : PySem.W.nsIn K mainGlobals "are_desks_value" = some (some (.ref f4))) (l4 : K.lookup f4 = some ⟨oc4, od4, .func (PySem.W.fnOf "are_desks_value" "are_desks_value" (defArgs (top 15)) (defBody (top 15)) (defScope (top 15)) .none kV4 dc4 pm4 an4 cd4 ct4), sl4⟩) (c4 : PySem.W.codeIn K cd4 "are_desks_value" = true) (k4 : PySem.W.keepIn K (.ref f4) = true)
    {f5 : Addr} {od5 an5 : Option Addr} {sl5 : Array (Option Value)} {oc5 kV5 dc5 pm5 cd5 ct5 : Value}
    (a5 : PySem.W.nsIn K mainGlobals "is_code_value" = some (some (.ref f5))) (l5 : K.lookup f5 = some ⟨oc5, od5, .func (PySem.W.fnOf "is_code_value" "is_code_value" (defArgs (top 16)) (defBody (top 16)) (defScope (top 16)) .none kV5 dc5 pm5 an5 cd5 ct5), sl5⟩) (c5 : PySem.W.codeIn K cd5 "is_code_value" = true) (k5 : PySem.W.keepIn K (.ref f5) = true)
    {f6 : Addr} {od6 an6 : Option Addr} {sl6 : Array (Option Value)} {oc6 kV6 dc6 pm6 cd6 ct6 : Value}
    (a6 : PySem.W.nsIn K mainGlobals "raw_sign" = some (some (.ref f6))) (l6 : K.lookup f6 = some ⟨oc6, od6, .func (PySem.W.fnOf "raw_sign" "raw_sign" (defArgs (top 17)) (defBody (top 17)) (defScope (top 17)) .none kV6 dc6 pm6 an6 cd6 ct6), sl6⟩) (c6 : PySem.W.codeIn K cd6 "raw_sign" = true) (k6 : PySem.W.keepIn K (.ref f6) = true)
    {f7 : Addr} {od7 an7 : Option Addr} {sl7 : Array (Option Value)} {oc7 kV7 dc7 pm7 cd7 ct7 : Value}
    (a7 : PySem.W.nsIn K mainGlobals "many_codes" = some (some (.ref f7))) (l7 : K.lookup f7 = some ⟨oc7, od7, .func (PySem.W.fnOf "many_codes" "many_codes" (defArgs (top 18)) (defBody (top 18)) (defScope (top 18)) .none kV7 dc7 pm7 an7 cd7 ct7), sl7⟩) (c7 : PySem.W.codeIn K cd7 "many_codes" = true) (k7 : PySem.W.keepIn K (.ref f7) = true)
    {f8 : Addr} {od8 an8 : Option Addr} {sl8 : Array (Option Value)} {oc8 kV8 dc8 pm8 cd8 ct8 : Value}
    (a8 : PySem.W.nsIn K mainGlobals "raw_code_at" = some (some (.ref f8))) (l8 : K.lookup f8 = some ⟨oc8, od8, .func (PySem.W.fnOf "raw_code_at" "raw_code_at" (defArgs (top 19)) (defBody (top 19)) (defScope (top 19)) .none kV8 dc8 pm8 an8 cd8 ct8), sl8⟩) (c8 : PySem.W.codeIn K cd8 "raw_code_at" = true) (k8 : PySem.W.keepIn K (.ref f8) = true)
    {f9 : Addr} {od9 an9 : Option Addr} {sl9 : Array (Option Value)} {oc9 kV9 dc9 pm9 cd9 ct9 : Value}
    (a9 : PySem.W.nsIn K mainGlobals "raw_position" = some (some (.ref f9))) (l9 : K.lookup f9 = some ⟨oc9, od9, .func (PySem.W.fnOf "raw_position" "raw_position" (defArgs (top 20)) (defBody (top 20)) (defScope (top 20)) .none kV9 dc9 pm9 an9 cd9 ct9), sl9⟩) (c9 : PySem.W.codeIn K cd9 "raw_position" = true) (k9 : PySem.W.keepIn K (.ref f9) = true)
    {f10 : Addr} {od10 an10 : Option Addr} {sl10 : Array (Option Value)} {oc10 kV10 dc10 pm10 cd10 ct10 : Value}
    (a10 : PySem.W.nsIn K mainGlobals "need_desks" = some (some (.ref f10))) (l10 : K.lookup f10 = some ⟨oc10, od10, .func (PySem.W.fnOf "need_desks" "need_desks" (defArgs (top 22)) (defBody (top 22)) (defScope (top 22)) .none kV10 dc10 pm10 an10 cd10 ct10), sl10⟩) (c10 : PySem.W.codeIn K cd10 "need_desks" = true) (k10 : PySem.W.keepIn K (.ref f10) = true)
    {f11 : Addr} {od11 an11 : Option Addr} {sl11 : Array (Option Value)} {oc11 kV11 dc11 pm11 cd11 ct11 : Value}
    (a11 : PySem.W.nsIn K mainGlobals "need_code" = some (some (.ref f11))) (l11 : K.lookup f11 = some ⟨oc11, od11, .func (PySem.W.fnOf "need_code" "need_code" (defArgs (top 23)) (defBody (top 23)) (defScope (top 23)) .none kV11 dc11 pm11 an11 cd11 ct11), sl11⟩) (c11 : PySem.W.codeIn K cd11 "need_code" = true) (k11 : PySem.W.keepIn K (.ref f11) = true)
    {f12 : Addr} {od12 an12 : Option Addr} {sl12 : Array (Option Value)} {oc12 kV12 dc12 pm12 cd12 ct12 : Value}
    (a12 : PySem.W.nsIn K mainGlobals "sign_of" = some (some (.ref f12))) (l12 : K.lookup f12 = some ⟨oc12, od12, .func (PySem.W.fnOf "sign_of" "sign_of" (defArgs (top 24)) (defBody (top 24)) (defScope (top 24)) .none kV12 dc12 pm12 an12 cd12 ct12), sl12⟩) (c12 : PySem.W.codeIn K cd12 "sign_of" = true) (k12 : PySem.W.keepIn K (.ref f12) = true)
    {f13 : Addr} {od13 an13 : Option Addr} {sl13 : Array (Option Value)} {oc13 kV13 dc13 pm13 cd13 ct13 : Value}
    (a13 : PySem.W.nsIn K mainGlobals "is_ahead" = some (some (.ref f13))) (l13 : K.lookup f13 = some ⟨oc13, od13, .func (PySem.W.fnOf "is_ahead" "is_ahead" (defArgs (top 25)) (defBody (top 25)) (defScope (top 25)) .none kV13 dc13 pm13 an13 cd13 ct13), sl13⟩) (c13 : PySem.W.codeIn K cd13 "is_ahead" = true) (k13 : PySem.W.keepIn K (.ref f13) = true)
    {f14 : Addr} {od14 an14 : Option Addr} {sl14 : Array (Option Value)} {oc14 kV14 dc14 pm14 cd14 ct14 : Value}
    (a14 : PySem.W.nsIn K mainGlobals "codes_number" = some (some (.ref f14))) (l14 : K.lookup f14 = some ⟨oc14, od14, .func (PySem.W.fnOf "codes_number" "codes_number" (defArgs (top 26)) (defBody (top 26)) (defScope (top 26)) .none kV14 dc14 pm14 an14 cd14 ct14), sl14⟩) (c14 : PySem.W.codeIn K cd14 "codes_number" = true) (k14 : PySem.W.keepIn K (.ref f14) = true)
    {f15 : Addr} {od15 an15 : Option Addr} {sl15 : Array (Option Value)} {oc15 kV15 dc15 pm15 cd15 ct15 : Value}
    (a15 : PySem.W.nsIn K mainGlobals "code_at" = some (some (.ref f15))) (l15 : K.lookup f15 = some ⟨oc15, od15, .func (PySem.W.fnOf "code_at" "code_at" (defArgs (top 27)) (defBody (top 27)) (defScope (top 27)) .none kV15 dc15 pm15 an15 cd15 ct15), sl15⟩) (c15 : PySem.W.codeIn K cd15 "code_at" = true) (k15 : PySem.W.keepIn K (.ref f15) = true)
    {f16 : Addr} {od16 an16 : Option Addr} {sl16 : Array (Option Value)} {oc16 kV16 dc16 pm16 cd16 ct16 : Value}
    (a16 : PySem.W.nsIn K mainGlobals "position_of" = some (some (.ref f16))) (l16 : K.lookup f16 = some ⟨oc16, od16, .func (PySem.W.fnOf "position_of" "position_of" (defArgs (top 28)) (defBody (top 28)) (defScope (top 28)) .none kV16 dc16 pm16 an16 cd16 ct16), sl16⟩) (c16 : PySem.W.codeIn K cd16 "position_of" = true) (k16 : PySem.W.keepIn K (.ref f16) = true)
    {f17 : Addr} {od17 an17 : Option Addr} {sl17 : Array (Option Value)} {oc17 kV17 dc17 pm17 cd17 ct17 : Value}
    (a17 : PySem.W.nsIn K mainGlobals "_law_deck" = some (some (.ref f17))) (l17 : K.lookup f17 = some ⟨oc17, od17, .func (PySem.W.fnOf "_law_deck" "_law_deck" (defArgs (top 30)) (defBody (top 30)) (defScope (top 30)) .none kV17 dc17 pm17 an17 cd17 ct17), sl17⟩) (c17 : PySem.W.codeIn K cd17 "_law_deck" = true) (k17 : PySem.W.keepIn K (.ref f17) = true)
    {f18 : Addr} {od18 an18 : Option Addr} {sl18 : Array (Option Value)} {oc18 kV18 dc18 pm18 cd18 ct18 : Value}
    (a18 : PySem.W.nsIn K mainGlobals "_law_draw" = some (some (.ref f18))) (l18 : K.lookup f18 = some ⟨oc18, od18, .func (PySem.W.fnOf "_law_draw" "_law_draw" (defArgs (top 31)) (defBody (top 31)) (defScope (top 31)) .none kV18 dc18 pm18 an18 cd18 ct18), sl18⟩) (c18 : PySem.W.codeIn K cd18 "_law_draw" = true) (k18 : PySem.W.keepIn K (.ref f18) = true)
    {f19 : Addr} {od19 an19 : Option Addr} {sl19 : Array (Option Value)} {oc19 kV19 dc19 pm19 cd19 ct19 : Value}
    (a19 : PySem.W.nsIn K mainGlobals "_law_pick" = some (some (.ref f19))) (l19 : K.lookup f19 = some ⟨oc19, od19, .func (PySem.W.fnOf "_law_pick" "_law_pick" (defArgs (top 32)) (defBody (top 32)) (defScope (top 32)) .none kV19 dc19 pm19 an19 cd19 ct19), sl19⟩) (c19 : PySem.W.codeIn K cd19 "_law_pick" = true) (k19 : PySem.W.keepIn K (.ref f19) = true)
    {f20 : Addr} {od20 an20 : Option Addr} {sl20 : Array (Option Value)} {oc20 kV20 dc20 pm20 cd20 ct20 : Value}
    (a20 : PySem.W.nsIn K mainGlobals "_law_is_integer" = some (some (.ref f20))) (l20 : K.lookup f20 = some ⟨oc20, od20, .func (PySem.W.fnOf "_law_is_integer" "_law_is_integer" (defArgs (top 33)) (defBody (top 33)) (defScope (top 33)) .none kV20 dc20 pm20 an20 cd20 ct20), sl20⟩) (c20 : PySem.W.codeIn K cd20 "_law_is_integer" = true) (k20 : PySem.W.keepIn K (.ref f20) = true)
    {f21 : Addr} {od21 an21 : Option Addr} {sl21 : Array (Option Value)} {oc21 kV21 dc21 pm21 cd21 ct21 : Value}
    (a21 : PySem.W.nsIn K mainGlobals "_law_desk" = some (some (.ref f21))) (l21 : K.lookup f21 = some ⟨oc21, od21, .func (PySem.W.fnOf "_law_desk" "_law_desk" (defArgs (top 34)) (defBody (top 34)) (defScope (top 34)) .none kV21 dc21 pm21 an21 cd21 ct21), sl21⟩) (c21 : PySem.W.codeIn K cd21 "_law_desk" = true) (k21 : PySem.W.keepIn K (.ref f21) = true)
    {f22 : Addr} {od22 an22 : Option Addr} {sl22 : Array (Option Value)} {oc22 kV22 dc22 pm22 cd22 ct22 : Value}
    (a22 : PySem.W.nsIn K mainGlobals "_law_desks" = some (some (.ref f22))) (l22 : K.lookup f22 = some ⟨oc22, od22, .func (PySem.W.fnOf "_law_desks" "_law_desks" (defArgs (top 35)) (defBody (top 35)) (defScope (top 35)) .none kV22 dc22 pm22 an22 cd22 ct22), sl22⟩) (c22 : PySem.W.codeIn K cd22 "_law_desks" = true) (k22 : PySem.W.keepIn K (.ref f22) = true)
    {f23 : Addr} {od23 an23 : Option Addr} {sl23 : Array (Option Value)} {oc23 kV23 dc23 pm23 cd23 ct23 : Value}
    (a23 : PySem.W.nsIn K mainGlobals "_law_code" = some (some (.ref f23))) (l23 : K.lookup f23 = some ⟨oc23, od23, .func (PySem.W.fnOf "_law_code" "_law_code" (defArgs (top 36)) (defBody (top 36)) (defScope (top 36)) .none kV23 dc23 pm23 an23 cd23 ct23), sl23⟩) (c23 : PySem.W.codeIn K cd23 "_law_code" = true) (k23 : PySem.W.keepIn K (.ref f23) = true)
    {f24 : Addr} {od24 an24 : Option Addr} {sl24 : Array (Option Value)} {oc24 kV24 dc24 pm24 cd24 ct24 : Value}
    (a24 : PySem.W.nsIn K mainGlobals "_law_sign" = some (some (.ref f24))) (l24 : K.lookup f24 = some ⟨oc24, od24, .func (PySem.W.fnOf "_law_sign" "_law_sign" (defArgs (top 37)) (defBody (top 37)) (defScope (top 37)) .none kV24 dc24 pm24 an24 cd24 ct24), sl24⟩) (c24 : PySem.W.codeIn K cd24 "_law_sign" = true) (k24 : PySem.W.keepIn K (.ref f24) = true)
    {f25 : Addr} {od25 an25 : Option Addr} {sl25 : Array (Option Value)} {oc25 kV25 dc25 pm25 cd25 ct25 : Value}
    (a25 : PySem.W.nsIn K mainGlobals "_law_position" = some (some (.ref f25))) (l25 : K.lookup f25 = some ⟨oc25, od25, .func (PySem.W.fnOf "_law_position" "_law_position" (defArgs (top 38)) (defBody (top 38)) (defScope (top 38)) .none kV25 dc25 pm25 an25 cd25 ct25), sl25⟩) (c25 : PySem.W.codeIn K cd25 "_law_position" = true) (k25 : PySem.W.keepIn K (.ref f25) = true)
    {f26 : Addr} {od26 an26 : Option Addr} {sl26 : Array (Option Value)} {oc26 kV26 dc26 pm26 cd26 ct26 : Value}
    (a26 : PySem.W.nsIn K mainGlobals "_law_is_code" = some (some (.ref f26))) (l26 : K.lookup f26 = some ⟨oc26, od26, .func (PySem.W.fnOf "_law_is_code" "_law_is_code" (defArgs (top 39)) (defBody (top 39)) (defScope (top 39)) .none kV26 dc26 pm26 an26 cd26 ct26), sl26⟩) (c26 : PySem.W.codeIn K cd26 "_law_is_code" = true) (k26 : PySem.W.keepIn K (.ref f26) = true)
    {f27 : Addr} {od27 an27 : Option Addr} {sl27 : Array (Option Value)} {oc27 kV27 dc27 pm27 cd27 ct27 : Value}
    (a27 : PySem.W.nsIn K mainGlobals "_law_is_less" = some (some (.ref f27))) (l27 : K.lookup f27 = some ⟨oc27, od27, .func (PySem.W.fnOf "_law_is_less" "_law_is_less" (defArgs (top 40)) (defBody (top 40)) (defScope (top 40)) .none kV27 dc27 pm27 an27 cd27 ct27), sl27⟩) (c27 : PySem.W.codeIn K cd27 "_law_is_less" = true) (k27 : PySem.W.keepIn K (.ref f27) = true)
    {f28 : Addr} {od28 an28 : Option Addr} {sl28 : Array (Option Value)} {oc28 kV28 dc28 pm28 cd28 ct28 : Value}
    (a28 : PySem.W.nsIn K mainGlobals "_law_near" = some (some (.ref f28))) (l28 : K.lookup f28 = some ⟨oc28, od28, .func (PySem.W.fnOf "_law_near" "_law_near" (defArgs (top 41)) (defBody (top 41)) (defScope (top 41)) .none kV28 dc28 pm28 an28 cd28 ct28), sl28⟩) (c28 : PySem.W.codeIn K cd28 "_law_near" = true) (k28 : PySem.W.keepIn K (.ref f28) = true)
    {f29 : Addr} {od29 an29 : Option Addr} {sl29 : Array (Option Value)} {oc29 kV29 dc29 pm29 cd29 ct29 : Value}
    (a29 : PySem.W.nsIn K mainGlobals "_law_are_right" = some (some (.ref f29))) (l29 : K.lookup f29 = some ⟨oc29, od29, .func (PySem.W.fnOf "_law_are_right" "_law_are_right" (defArgs (top 42)) (defBody (top 42)) (defScope (top 42)) .none kV29 dc29 pm29 an29 cd29 ct29), sl29⟩) (c29 : PySem.W.codeIn K cd29 "_law_are_right" = true) (k29 : PySem.W.keepIn K (.ref f29) = true)
    {f30 : Addr} {od30 an30 : Option Addr} {sl30 : Array (Option Value)} {oc30 kV30 dc30 pm30 cd30 ct30 : Value}
    (a30 : PySem.W.nsIn K mainGlobals "law" = some (some (.ref f30))) (l30 : K.lookup f30 = some ⟨oc30, od30, .func (PySem.W.fnOf "law" "law" (defArgs (top 43)) (defBody (top 43)) (defScope (top 43)) .none kV30 dc30 pm30 an30 cd30 ct30), sl30⟩) (c30 : PySem.W.codeIn K cd30 "law" = true) (k30 : PySem.W.keepIn K (.ref f30) = true)
    (z_len : PySem.W.nsIn K mainGlobals "len" = some none)
    (z_tuple : PySem.W.nsIn K mainGlobals "tuple" = some none)
    (z_range : PySem.W.nsIn K mainGlobals "range" = some none)
    (z_all : PySem.W.nsIn K mainGlobals "all" = some none)
    (z_max : PySem.W.nsIn K mainGlobals "max" = some none)
    (z_int : PySem.W.nsIn K mainGlobals "int" = some none)
    (z_isinstance : PySem.W.nsIn K mainGlobals "isinstance" = some none)
    (z_repr : PySem.W.nsIn K mainGlobals "repr" = some none)
    (z_bool : PySem.W.nsIn K mainGlobals "bool" = some none)
    (z_str : PySem.W.nsIn K mainGlobals "str" = some none)
    (z_zip : PySem.W.nsIn K mainGlobals "zip" = some none)
    {t_MOST_PLACES : _} (z_MOST_PLACES : PySem.W.nsIn K mainGlobals "MOST_PLACES" = some (some (.int 6 t_MOST_PLACES)))
    {t_MOST_DESKS : _} (z_MOST_DESKS : PySem.W.nsIn K mainGlobals "MOST_DESKS" = some (some (.int 12 t_MOST_DESKS)))
    {p_PLACES : Addr} {d_PLACES : Option Addr} {n_PLACES : Nat} {s_PLACES : Array (Option Value)} {t0_PLACES t1_PLACES : Tok} (z_PLACES : PySem.W.nsIn K mainGlobals "PLACES" = some (some (.ref p_PLACES))) (y_PLACES : K.lookup p_PLACES = some ⟨.type "tuple", d_PLACES, .seq #[.str "tray" t0_PLACES, .str "pile" t1_PLACES] n_PLACES, s_PLACES⟩)
    : ∃ fd : FuncData, (∀ (s : Shared) (v : Value), BindsTo s fd ⟨[v], []⟩ [("_law_script", v)]) ∧ ∀ base : Heap, K.In base → base.Ns mainGlobals mg → LawOk l.prog w K mg base 7 fa fd "_law_script" := by
  have e := hfa.symm.trans (PySem.W.mg_of X G a30)
  cases e
  have T : Txt K mg := ⟨PySem.W.mg_none_of X G z_len, PySem.W.mg_none_of X G z_tuple, PySem.W.mg_none_of X G z_range, PySem.W.mg_none_of X G z_all, PySem.W.mg_none_of X G z_max, PySem.W.mg_none_of X G z_int, PySem.W.mg_none_of X G z_isinstance, PySem.W.mg_none_of X G z_repr, PySem.W.mg_none_of X G z_bool, PySem.W.mg_none_of X G z_str, PySem.W.mg_none_of X G z_zip, ⟨_, PySem.W.mg_of X G z_MOST_PLACES⟩, ⟨_, PySem.W.mg_of X G z_MOST_DESKS⟩, ⟨_, PySem.W.mg_of X G z_PLACES, gtup_of (zs := ["tray", "pile"]) y_PLACES (Nat.le_of_ble_eq_true rfl) (.cons ⟨_, rfl⟩ (.cons ⟨_, rfl⟩ (.nil)))⟩⟩
  have F_is_integer := fun_mk (st := top 3) l0 c0 k0
  have A_is_integer : At K mg "is_integer" ["thing"] (top 3) f0 _ := ⟨F_is_integer, PySem.W.mg_of X G a0, F_is_integer.binds (ps := ["thing"]) fun _ _ _ _ _ _ us hl => match us, hl with | [_], _ => rfl⟩
  have F_is_between := fun_mk (st := top 4) l1 c1 k1
  have A_is_between : At K mg "is_between" ["thing", "least", "most"] (top 4) f1 _ := ⟨F_is_between, PySem.W.mg_of X G a1, F_is_between.binds (ps := ["thing", "least", "most"]) fun _ _ _ _ _ _ us hl => match us, hl with | [_, _, _], _ => rfl⟩
  have F_is_desk_value := fun_mk (st := top 5) l2 c2 k2
  have A_is_desk_value : At K mg "is_desk_value" ["thing"] (top 5) f2 _ := ⟨F_is_desk_value, PySem.W.mg_of X G a2, F_is_desk_value.binds (ps := ["thing"]) fun _ _ _ _ _ _ us hl => match us, hl with | [_], _ => rfl⟩
  have F_sign_of_place := fun_mk (st := top 12) l3 c3 k3
  have A_sign_of_place : At K mg "sign_of_place" ["place"] (top 12) f3 _ := ⟨F_sign_of_place, PySem.W.mg_of X G a3, F_sign_of_place.binds (ps := ["place"]) fun _ _ _ _ _ _ us hl => match us, hl with | [_], _ => rfl⟩
  have F_are_desks_value := fun_mk (st := top 15) l4 c4 k4
  have A_are_desks_value : At K mg "are_desks_value" ["thing"] (top 15) f4 _ := ⟨F_are_desks_value, PySem.W.mg_of X G a4, F_are_desks_value.binds (ps := ["thing"]) fun _ _ _ _ _ _ us hl => match us, hl with | [_], _ => rfl⟩
  have F_is_code_value := fun_mk (st := top 16) l5 c5 k5
  have A_is_code_value : At K mg "is_code_value" ["desks", "thing"] (top 16) f5 _ := ⟨F_is_code_value, PySem.W.mg_of X G a5, F_is_code_value.binds (ps := ["desks", "thing"]) fun _ _ _ _ _ _ us hl => match us, hl with | [_, _], _ => rfl⟩
  have F_raw_sign := fun_mk (st := top 17) l6 c6 k6
  have A_raw_sign : At K mg "raw_sign" ["desks", "code"] (top 17) f6 _ := ⟨F_raw_sign, PySem.W.mg_of X G a6, F_raw_sign.binds (ps := ["desks", "code"]) fun _ _ _ _ _ _ us hl => match us, hl with | [_, _], _ => rfl⟩
  have F_many_codes := fun_mk (st := top 18) l7 c7 k7
  have A_many_codes : At K mg "many_codes" ["desks"] (top 18) f7 _ := ⟨F_many_codes, PySem.W.mg_of X G a7, F_many_codes.binds (ps := ["desks"]) fun _ _ _ _ _ _ us hl => match us, hl with | [_], _ => rfl⟩
  have F_raw_code_at := fun_mk (st := top 19) l8 c8 k8
  have A_raw_code_at : At K mg "raw_code_at" ["desks", "n"] (top 19) f8 _ := ⟨F_raw_code_at, PySem.W.mg_of X G a8, F_raw_code_at.binds (ps := ["desks", "n"]) fun _ _ _ _ _ _ us hl => match us, hl with | [_, _], _ => rfl⟩
  have F_raw_position := fun_mk (st := top 20) l9 c9 k9
  have A_raw_position : At K mg "raw_position" ["desks", "code"] (top 20) f9 _ := ⟨F_raw_position, PySem.W.mg_of X G a9, F_raw_position.binds (ps := ["desks", "code"]) fun _ _ _ _ _ _ us hl => match us, hl with | [_, _], _ => rfl⟩
  have F_need_desks := fun_mk (st := top 22) l10 c10 k10
  have A_need_desks : At K mg "need_desks" ["desks"] (top 22) f10 _ := ⟨F_need_desks, PySem.W.mg_of X G a10, F_need_desks.binds (ps := ["desks"]) fun _ _ _ _ _ _ us hl => match us, hl with | [_], _ => rfl⟩
  have F_need_code := fun_mk (st := top 23) l11 c11 k11
  have A_need_code : At K mg "need_code" ["desks", "code"] (top 23) f11 _ := ⟨F_need_code, PySem.W.mg_of X G a11, F_need_code.binds (ps := ["desks", "code"]) fun _ _ _ _ _ _ us hl => match us, hl with | [_, _], _ => rfl⟩
  have F_sign_of := fun_mk (st := top 24) l12 c12 k12
  have A_sign_of : At K mg "sign_of" ["desks", "code"] (top 24) f12 _ := ⟨F_sign_of, PySem.W.mg_of X G a12, F_sign_of.binds (ps := ["desks", "code"]) fun _ _ _ _ _ _ us hl => match us, hl with | [_, _], _ => rfl⟩
  have F_is_ahead := fun_mk (st := top 25) l13 c13 k13
  have A_is_ahead : At K mg "is_ahead" ["desks", "one", "other"] (top 25) f13 _ := ⟨F_is_ahead, PySem.W.mg_of X G a13, F_is_ahead.binds (ps := ["desks", "one", "other"]) fun _ _ _ _ _ _ us hl => match us, hl with | [_, _, _], _ => rfl⟩
  have F_codes_number := fun_mk (st := top 26) l14 c14 k14
  have A_codes_number : At K mg "codes_number" ["desks"] (top 26) f14 _ := ⟨F_codes_number, PySem.W.mg_of X G a14, F_codes_number.binds (ps := ["desks"]) fun _ _ _ _ _ _ us hl => match us, hl with | [_], _ => rfl⟩
  have F_code_at := fun_mk (st := top 27) l15 c15 k15
  have A_code_at : At K mg "code_at" ["desks", "n"] (top 27) f15 _ := ⟨F_code_at, PySem.W.mg_of X G a15, F_code_at.binds (ps := ["desks", "n"]) fun _ _ _ _ _ _ us hl => match us, hl with | [_, _], _ => rfl⟩
  have F_position_of := fun_mk (st := top 28) l16 c16 k16
  have A_position_of : At K mg "position_of" ["desks", "code"] (top 28) f16 _ := ⟨F_position_of, PySem.W.mg_of X G a16, F_position_of.binds (ps := ["desks", "code"]) fun _ _ _ _ _ _ us hl => match us, hl with | [_, _], _ => rfl⟩
  have F__law_deck := fun_mk (st := top 30) l17 c17 k17
  have A__law_deck : At K mg "_law_deck" ["_law_script", "_law_law_number"] (top 30) f17 _ := ⟨F__law_deck, PySem.W.mg_of X G a17, F__law_deck.binds (ps := ["_law_script", "_law_law_number"]) fun _ _ _ _ _ _ us hl => match us, hl with | [_, _], _ => rfl⟩
  have F__law_draw := fun_mk (st := top 31) l18 c18 k18
  have A__law_draw : At K mg "_law_draw" ["_law_deck_here", "_law_below"] (top 31) f18 _ := ⟨F__law_draw, PySem.W.mg_of X G a18, F__law_draw.binds (ps := ["_law_deck_here", "_law_below"]) fun _ _ _ _ _ _ us hl => match us, hl with | [_, _], _ => rfl⟩
  have F__law_pick := fun_mk (st := top 32) l19 c19 k19
  have A__law_pick : At K mg "_law_pick" ["_law_deck_here", "_law_some"] (top 32) f19 _ := ⟨F__law_pick, PySem.W.mg_of X G a19, F__law_pick.binds (ps := ["_law_deck_here", "_law_some"]) fun _ _ _ _ _ _ us hl => match us, hl with | [_, _], _ => rfl⟩
  have F__law_is_integer := fun_mk (st := top 33) l20 c20 k20
  have A__law_is_integer : At K mg "_law_is_integer" ["_law_thing", "_law_low", "_law_high"] (top 33) f20 _ := ⟨F__law_is_integer, PySem.W.mg_of X G a20, F__law_is_integer.binds (ps := ["_law_thing", "_law_low", "_law_high"]) fun _ _ _ _ _ _ us hl => match us, hl with | [_, _, _], _ => rfl⟩
  have F__law_desk := fun_mk (st := top 34) l21 c21 k21
  have A__law_desk : At K mg "_law_desk" ["_law_deck_here", "_law_most"] (top 34) f21 _ := ⟨F__law_desk, PySem.W.mg_of X G a21, F__law_desk.binds (ps := ["_law_deck_here", "_law_most"]) fun _ _ _ _ _ _ us hl => match us, hl with | [_, _], _ => rfl⟩
  have F__law_desks := fun_mk (st := top 35) l22 c22 k22
  have A__law_desks : At K mg "_law_desks" ["_law_deck_here", "_law_many", "_law_limit"] (top 35) f22 _ := ⟨F__law_desks, PySem.W.mg_of X G a22, F__law_desks.binds (ps := ["_law_deck_here", "_law_many", "_law_limit"]) fun _ _ _ _ _ _ us hl => match us, hl with | [_, _, _], _ => rfl⟩
  have F__law_code := fun_mk (st := top 36) l23 c23 k23
  have A__law_code : At K mg "_law_code" ["_law_deck_here", "_law_desks_here"] (top 36) f23 _ := ⟨F__law_code, PySem.W.mg_of X G a23, F__law_code.binds (ps := ["_law_deck_here", "_law_desks_here"]) fun _ _ _ _ _ _ us hl => match us, hl with | [_, _], _ => rfl⟩
  have F__law_sign := fun_mk (st := top 37) l24 c24 k24
  have A__law_sign : At K mg "_law_sign" ["_law_desks_here", "_law_code_here"] (top 37) f24 _ := ⟨F__law_sign, PySem.W.mg_of X G a24, F__law_sign.binds (ps := ["_law_desks_here", "_law_code_here"]) fun _ _ _ _ _ _ us hl => match us, hl with | [_, _], _ => rfl⟩
  have F__law_position := fun_mk (st := top 38) l25 c25 k25
  have A__law_position : At K mg "_law_position" ["_law_desks_here", "_law_code_here"] (top 38) f25 _ := ⟨F__law_position, PySem.W.mg_of X G a25, F__law_position.binds (ps := ["_law_desks_here", "_law_code_here"]) fun _ _ _ _ _ _ us hl => match us, hl with | [_, _], _ => rfl⟩
  have F__law_is_code := fun_mk (st := top 39) l26 c26 k26
  have A__law_is_code : At K mg "_law_is_code" ["_law_desks_here", "_law_thing"] (top 39) f26 _ := ⟨F__law_is_code, PySem.W.mg_of X G a26, F__law_is_code.binds (ps := ["_law_desks_here", "_law_thing"]) fun _ _ _ _ _ _ us hl => match us, hl with | [_, _], _ => rfl⟩
  have F__law_is_less := fun_mk (st := top 40) l27 c27 k27
  have A__law_is_less : At K mg "_law_is_less" ["_law_desks_here", "_law_one", "_law_other"] (top 40) f27 _ := ⟨F__law_is_less, PySem.W.mg_of X G a27, F__law_is_less.binds (ps := ["_law_desks_here", "_law_one", "_law_other"]) fun _ _ _ _ _ _ us hl => match us, hl with | [_, _, _], _ => rfl⟩
  have F__law_near := fun_mk (st := top 41) l28 c28 k28
  have A__law_near : At K mg "_law_near" ["_law_deck_here", "_law_desks_here", "_law_code_here"] (top 41) f28 _ := ⟨F__law_near, PySem.W.mg_of X G a28, F__law_near.binds (ps := ["_law_deck_here", "_law_desks_here", "_law_code_here"]) fun _ _ _ _ _ _ us hl => match us, hl with | [_, _, _], _ => rfl⟩
  have F__law_are_right := fun_mk (st := top 42) l29 c29 k29
  have A__law_are_right : At K mg "_law_are_right" ["_law_desks_here", "_law_one", "_law_other"] (top 42) f29 _ := ⟨F__law_are_right, PySem.W.mg_of X G a29, F__law_are_right.binds (ps := ["_law_desks_here", "_law_one", "_law_other"]) fun _ _ _ _ _ _ us hl => match us, hl with | [_, _, _], _ => rfl⟩
  have F_law := fun_mk (st := top 43) l30 c30 k30
  refine ⟨PySem.W.fnOf "law" "law" (defArgs (top 43)) (defBody (top 43)) (defScope (top 43)) .none kV30 dc30 pm30 an30 cd30 ct30, fun s v => .of_eq rfl, fun base hK hN => ?_⟩
  have G__law_deck := ok_deck (P := l.prog) (w := w) (base := base) F__law_deck T.b_int T.b_int
  have G__law_draw := FnG.draw (ok_draw (P := l.prog) (w := w) (base := base) F__law_draw T.b_int T.b_max) rfl
  have G_is_integer := dv_is_integer (P := l.prog) (w := w) (base := base) T F_is_integer len_is_integer rd_is_integer
  have G_is_between := dv_is_between (P := l.prog) (w := w) (base := base) T A_is_integer G_is_integer F_is_between len_is_between rd_is_between
  have G_is_desk_value := dv_is_desk_value (P := l.prog) (w := w) (base := base) T F_is_desk_value len_is_desk_value rd_is_desk_value
  have G_sign_of_place := dv_sign_of_place (P := l.prog) (w := w) (base := base) T F_sign_of_place len_sign_of_place rd_sign_of_place
  have G_are_desks_value := dv_are_desks_value (P := l.prog) (w := w) (base := base) T A_is_desk_value G_is_desk_value F_are_desks_value len_are_desks_value rd_are_desks_value
  have G_is_code_value := dv_is_code_value (P := l.prog) (w := w) (base := base) T A_is_between G_is_between F_is_code_value len_is_code_value rd_is_code_value
  have G_raw_sign := dv_raw_sign (P := l.prog) (w := w) (base := base) T A_sign_of_place G_sign_of_place F_raw_sign len_raw_sign rd_raw_sign
  have G_many_codes := dv_many_codes (P := l.prog) (w := w) (base := base) T F_many_codes len_many_codes rd_many_codes
  have G_raw_code_at := dv_raw_code_at (P := l.prog) (w := w) (base := base) T A_many_codes G_many_codes F_raw_code_at len_raw_code_at rd_raw_code_at
  have G_raw_position := dv_raw_position (P := l.prog) (w := w) (base := base) T F_raw_position len_raw_position rd_raw_position
  have G_need_desks := dv_need_desks (P := l.prog) (w := w) (base := base) T A_are_desks_value G_are_desks_value F_need_desks len_need_desks rd_need_desks
  have G_need_code := dv_need_code (P := l.prog) (w := w) (base := base) T A_need_desks G_need_desks A_is_code_value G_is_code_value F_need_code len_need_code rd_need_code
  have G_sign_of := dv_sign_of (P := l.prog) (w := w) (base := base) T A_need_code G_need_code A_raw_sign G_raw_sign F_sign_of len_sign_of rd_sign_of
  have G_is_ahead := dv_is_ahead (P := l.prog) (w := w) (base := base) T A_need_code G_need_code A_raw_position G_raw_position F_is_ahead len_is_ahead rd_is_ahead
  have G_codes_number := dv_codes_number (P := l.prog) (w := w) (base := base) T A_need_desks G_need_desks A_many_codes G_many_codes F_codes_number len_codes_number rd_codes_number
  have G_code_at := dv_code_at (P := l.prog) (w := w) (base := base) T A_need_desks G_need_desks A_is_between G_is_between A_many_codes G_many_codes A_raw_code_at G_raw_code_at F_code_at len_code_at rd_code_at
  have G_position_of := dv_position_of (P := l.prog) (w := w) (base := base) T A_need_code G_need_code A_raw_position G_raw_position F_position_of len_position_of rd_position_of
  have G__law_pick := dv__law_pick (P := l.prog) (w := w) (base := base) T A__law_draw G__law_draw F__law_pick len__law_pick rd__law_pick
  have G__law_is_integer := dv__law_is_integer (P := l.prog) (w := w) (base := base) T F__law_is_integer len__law_is_integer rd__law_is_integer
  have G__law_desk := dv__law_desk (P := l.prog) (w := w) (base := base) T A__law_draw G__law_draw F__law_desk len__law_desk rd__law_desk
  have G__law_desks := dv__law_desks (P := l.prog) (w := w) (base := base) T A__law_desk G__law_desk A__law_draw G__law_draw A__law_pick G__law_pick F__law_desks len__law_desks rd__law_desks
  have G__law_code := dv__law_code (P := l.prog) (w := w) (base := base) T A__law_draw G__law_draw F__law_code len__law_code rd__law_code
  have G__law_sign := dv__law_sign (P := l.prog) (w := w) (base := base) T F__law_sign len__law_sign rd__law_sign
  have G__law_position := dv__law_position (P := l.prog) (w := w) (base := base) T F__law_position len__law_position rd__law_position
  have G__law_is_code := dv__law_is_code (P := l.prog) (w := w) (base := base) T A__law_is_integer G__law_is_integer F__law_is_code len__law_is_code rd__law_is_code
  have G__law_is_less := dv__law_is_less (P := l.prog) (w := w) (base := base) T A__law_sign G__law_sign F__law_is_less len__law_is_less rd__law_is_less
  have G__law_near := dv__law_near (P := l.prog) (w := w) (base := base) T A__law_draw G__law_draw F__law_near len__law_near rd__law_near
  have G__law_are_right := dv__law_are_right (P := l.prog) (w := w) (base := base) T A__law_is_less G__law_is_less A_is_ahead G_is_ahead A_position_of G_position_of A__law_position G__law_position A_sign_of G_sign_of A__law_sign G__law_sign F__law_are_right len__law_are_right rd__law_are_right
  exact dv_law T A__law_deck G__law_deck A__law_desks G__law_desks A_codes_number G_codes_number A_code_at G_code_at A_position_of G_position_of A__law_code G__law_code A__law_draw G__law_draw A__law_near G__law_near A__law_are_right G__law_are_right A_is_ahead G_is_ahead A__law_is_code G__law_is_code F_law rd_law
end T43
end P26
open PySem PySem.W PyProof.Rows
set_option maxRecDepth 100000 in
set_option maxHeartbeats 0 in
theorem PySem.Challenge.cw_lotthrows_k43_whole_codes_in_their_row_holds : PySem.Challenge.rw_lotthrows_k43_whole_codes_in_their_row.Holds := by
  w_on; o_law; k_head; (case hw => w_witness2)
  k_fill
  refine Q.walk_ofG (l := PySem.Challenge.rw_lotthrows_k43_whole_codes_in_their_row) (k := 7) (x := "_law_script") rfl rfl ⟨rfl, by decide, by decide⟩ (fun w h Y => PySem.W.kIn_of Y) ?F
  case F =>
    intro w mg fa h KX G hmg
    refine' T43.all_mk KX G hmg ?a0 ?l0 ?c0 ?k0 ?a1 ?l1 ?c1 ?k1 ?a2 ?l2 ?c2 ?k2 ?a3 ?l3 ?c3 ?k3 ?a4 ?l4 ?c4 ?k4 ?a5 ?l5 ?c5 ?k5 ?a6 ?l6 ?c6 ?k6 ?a7 ?l7 ?c7 ?k7 ?a8 ?l8 ?c8 ?k8 ?a9 ?l9 ?c9 ?k9 ?a10 ?l10 ?c10 ?k10 ?a11 ?l11 ?c11 ?k11 ?a12 ?l12 ?c12 ?k12 ?a13 ?l13 ?c13 ?k13 ?a14 ?l14 ?c14 ?k14 ?a15 ?l15 ?c15 ?k15 ?a16 ?l16 ?c16 ?k16 ?a17 ?l17 ?c17 ?k17 ?a18 ?l18 ?c18 ?k18 ?a19 ?l19 ?c19 ?k19 ?a20 ?l20 ?c20 ?k20 ?a21 ?l21 ?c21 ?k21 ?a22 ?l22 ?c22 ?k22 ?a23 ?l23 ?c23 ?k23 ?a24 ?l24 ?c24 ?k24 ?a25 ?l25 ?c25 ?k25 ?a26 ?l26 ?c26 ?k26 ?a27 ?l27 ?c27 ?k27 ?a28 ?l28 ?c28 ?k28 ?a29 ?l29 ?c29 ?k29 ?a30 ?l30 ?c30 ?k30 ?z_len ?z_tuple ?z_range ?z_all ?z_max ?z_int ?z_isinstance ?z_repr ?z_bool ?z_str ?z_zip ?z_MOST_PLACES ?z_MOST_DESKS ?z_PLACES ?y_PLACES
    (case a0 => k_is)
    (case l0 => k_is)
    (case c0 => k_is)
    (case k0 => k_is)
    (case a1 => k_is)
    (case l1 => k_is)
    (case c1 => k_is)
    (case k1 => k_is)
    (case a2 => k_is)
    (case l2 => k_is)
    (case c2 => k_is)
    (case k2 => k_is)
    (case a3 => k_is)
    (case l3 => k_is)
    (case c3 => k_is)
    (case k3 => k_is)
    (case a4 => k_is)
    (case l4 => k_is)
    (case c4 => k_is)
    (case k4 => k_is)
    (case a5 => k_is)
    (case l5 => k_is)
    (case c5 => k_is)
    (case k5 => k_is)
    (case a6 => k_is)
    (case l6 => k_is)
    (case c6 => k_is)
    (case k6 => k_is)
    (case a7 => k_is)
    (case l7 => k_is)
    (case c7 => k_is)
    (case k7 => k_is)
    (case a8 => k_is)
    (case l8 => k_is)
    (case c8 => k_is)
    (case k8 => k_is)
    (case a9 => k_is)
    (case l9 => k_is)
    (case c9 => k_is)
    (case k9 => k_is)
    (case a10 => k_is)
    (case l10 => k_is)
    (case c10 => k_is)
    (case k10 => k_is)
    (case a11 => k_is)
    (case l11 => k_is)
    (case c11 => k_is)
    (case k11 => k_is)
    (case a12 => k_is)
    (case l12 => k_is)
    (case c12 => k_is)
    (case k12 => k_is)
    (case a13 => k_is)
    (case l13 => k_is)
    (case c13 => k_is)
    (case k13 => k_is)
    (case a14 => k_is)
    (case l14 => k_is)
    (case c14 => k_is)
    (case k14 => k_is)
    (case a15 => k_is)
    (case l15 => k_is)
    (case c15 => k_is)
    (case k15 => k_is)
    (case a16 => k_is)
    (case l16 => k_is)
    (case c16 => k_is)
    (case k16 => k_is)
    (case a17 => k_is)
    (case l17 => k_is)
    (case c17 => k_is)
    (case k17 => k_is)
    (case a18 => k_is)
    (case l18 => k_is)
    (case c18 => k_is)
    (case k18 => k_is)
    (case a19 => k_is)
    (case l19 => k_is)
    (case c19 => k_is)
    (case k19 => k_is)
    (case a20 => k_is)
    (case l20 => k_is)
    (case c20 => k_is)
    (case k20 => k_is)
    (case a21 => k_is)
    (case l21 => k_is)
    (case c21 => k_is)
    (case k21 => k_is)
    (case a22 => k_is)
    (case l22 => k_is)
    (case c22 => k_is)
    (case k22 => k_is)
    (case a23 => k_is)
    (case l23 => k_is)
    (case c23 => k_is)
    (case k23 => k_is)
    (case a24 => k_is)
    (case l24 => k_is)
    (case c24 => k_is)
    (case k24 => k_is)
    (case a25 => k_is)
    (case l25 => k_is)
    (case c25 => k_is)
    (case k25 => k_is)
    (case a26 => k_is)
    (case l26 => k_is)
    (case c26 => k_is)
    (case k26 => k_is)
    (case a27 => k_is)
    (case l27 => k_is)
    (case c27 => k_is)
    (case k27 => k_is)
    (case a28 => k_is)
    (case l28 => k_is)
    (case c28 => k_is)
    (case k28 => k_is)
    (case a29 => k_is)
    (case l29 => k_is)
    (case c29 => k_is)
    (case k29 => k_is)
    (case a30 => k_is)
    (case l30 => k_is)
    (case c30 => k_is)
    (case k30 => k_is)
    (case z_len => k_is)
    (case z_tuple => k_is)
    (case z_range => k_is)
    (case z_all => k_is)
    (case z_max => k_is)
    (case z_int => k_is)
    (case z_isinstance => k_is)
    (case z_repr => k_is)
    (case z_bool => k_is)
    (case z_str => k_is)
    (case z_zip => k_is)
    (case z_MOST_PLACES => k_is)
    (case z_MOST_DESKS => k_is)
    (case z_PLACES => k_is)
    (case y_PLACES => k_is)

